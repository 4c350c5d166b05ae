import PyProof.Rows.All
import Wide.All
import OpenK.AllK
import Wide.FinOn
import HandS.ForMost
import HandS.IsInst
import HandS.Style
import HandS.Conv
import PySem.Challenge.RW_gatepapers_k07_flipped_and_ordered
set_option Elab.async false
set_option linter.all false
set_option maxRecDepth 100000
set_option maxHeartbeats 4000000
/-! Gp, part A: data D, the state of a def (slots, cells), what it means over the abstract heap, what may change. -/
namespace Gp
open PySem L2

/-- data without addresses; loc n: the n-th cell of the store -/
inductive D where
  | non | bl (b : Bool) | int (i : Int) | str (x : Str)
  | lst (xs : List D) | tup (xs : List D) | loc (n : Nat)
/-- a local name's slot: nothing known, a value, an object of its own (nobody else has it) -/
inductive Slot where
  | no | val (d : D) | own (d : D) | busy
inductive Cell where
  | lst (xs : List D) | dead
abbrev Env := List Slot
abbrev Store := List Cell
structure Sta where
  env : Env
  S : Store

mutual
def D.beq : D → D → Bool
  | .non, .non => true
  | .bl a, .bl b => a == b
  | .int a, .int b => a == b
  | .str a, .str b => a == b
  | .lst a, .lst b => D.beqs a b
  | .tup a, .tup b => D.beqs a b
  | .loc a, .loc b => a == b
  | _, _ => false
def D.beqs : List D → List D → Bool
  | [], [] => true
  | a :: as, b :: bs => D.beq a b && D.beqs as bs
  | _, _ => false
end

/-! ### the abstract heap -/
/-- a list that stands still: tracked, none of those that may change, or of the written part -/
def FzL (K : PySem.W.Frag) (L : Addr → Prop) (H : Hp) (a : Addr) (vs : List V) : Prop :=
  (∃ o, H a = some o ∧ ¬ L a ∧ (o = .lst vs ∨ ∃ ob, o = .frz ob (.lst vs))) ∨
    ∃ (o : Obj) (its : Array Value) (n : Nat), K.lookup a = some o ∧ o.cls = .type "list" ∧ o.dict = none ∧ o.data = .seq its n ∧ its.size ≤ sizeLine ∧ Vals vs its.toList
theorem FzL.sq {K : PySem.W.Frag} {L : Addr → Prop} {H : Hp} {a : Addr} {vs : List V} (h : FzL K L H a vs) : SqL K H a vs := by
  rcases h with ⟨o, e, _, rfl | ⟨ob, rfl⟩⟩ | h
  · exact .inl (.inl e)
  · exact .inl (.inr ⟨ob, e⟩)
  · exact .inr h

section
variable (K : PySem.W.Frag) (ρ : Nat → Addr) (n0 : Nat) (L : Addr → Prop) (H : Hp)
mutual
def Rep : D → V → Prop
  | .non, v => v = .non
  | .bl b, v => v = .bl b
  | .int i, v => v = .int i
  | .str x, v => v = .str x
  | .lst ds, v => ∃ a vs, v = .ref a ∧ FzL K L H a vs ∧ Reps ds vs
  | .tup ds, v => ∃ a vs, v = .ref a ∧ SqT K H a vs ∧ Reps ds vs
  | .loc n, v => v = .ref (ρ n) ∧ n < n0
def Reps : List D → List V → Prop
  | [], vs => vs = []
  | d :: ds, vs => ∃ v r, vs = v :: r ∧ Rep d v ∧ Reps ds r
end
end

theorem Reps.length {K : PySem.W.Frag} {ρ : Nat → Addr} {n0 : Nat} {L : Addr → Prop} {H : Hp} : ∀ {ds : List D} {vs : List V}, Reps K ρ n0 L H ds vs → vs.length = ds.length
  | [], _, h => by rw [show _ = [] from h]; rfl
  | d :: ds, vs, h => by
    obtain ⟨v, r, rfl, _, h2⟩ := h
    rw [List.length_cons, List.length_cons, Reps.length h2]

/-- what of H another one must keep for the data over it -/
structure Keep (ρ : Nat → Addr) (n0 : Nat) (L : Addr → Prop) (H : Hp) (ρ' : Nat → Addr) (n0' : Nat) (L' : Addr → Prop) (H' : Hp) : Prop where
  rho : ∀ n, n < n0 → ρ' n = ρ n
  sz : n0 ≤ n0'
  at_ : ∀ a o, H a = some o → ¬ L a → H' a = some o ∧ ¬ L' a
  tup : ∀ a o, H a = some o → L a → ∀ xs, o ≠ .tup xs ∧ ∀ ob, o ≠ .frz ob (.tup xs)

section
variable {K : PySem.W.Frag} {ρ ρ' : Nat → Addr} {n0 n0' : Nat} {L L' : Addr → Prop} {H H' : Hp}
theorem Keep.fz (k : Keep ρ n0 L H ρ' n0' L' H') {a : Addr} {vs : List V} (h : FzL K L H a vs) : FzL K L' H' a vs := by
  rcases h with ⟨o, e, l, q⟩ | h
  · obtain ⟨e', l'⟩ := k.at_ a o e l
    exact .inl ⟨o, e', l', q⟩
  · exact .inr h
theorem Keep.sqT (k : Keep ρ n0 L H ρ' n0' L' H') {a : Addr} {vs : List V} (h : SqT K H a vs) : SqT K H' a vs := by
  rcases h with (h | ⟨o, h⟩) | h
  · by_cases l : L a
    · exact absurd rfl (k.tup a _ h l vs).1
    · exact .inl (.inl (k.at_ a _ h l).1)
  · by_cases l : L a
    · exact absurd rfl ((k.tup a _ h l vs).2 o)
    · exact .inl (.inr ⟨o, (k.at_ a _ h l).1⟩)
  · exact .inr h
mutual
theorem Rep.keep (k : Keep ρ n0 L H ρ' n0' L' H') : ∀ {d : D} {v : V}, Rep K ρ n0 L H d v → Rep K ρ' n0' L' H' d v
  | .non, _, h => h
  | .bl _, _, h => h
  | .int _, _, h => h
  | .str _, _, h => h
  | .lst ds, _, h => by
    obtain ⟨a, vs, rfl, h1, h2⟩ := h
    exact ⟨a, vs, rfl, k.fz h1, Reps.keep k h2⟩
  | .tup ds, _, h => by
    obtain ⟨a, vs, rfl, h1, h2⟩ := h
    exact ⟨a, vs, rfl, k.sqT h1, Reps.keep k h2⟩
  | .loc n, _, h => by
    obtain ⟨h1, h2⟩ := h
    exact ⟨by rw [k.rho n h2]; exact h1, Nat.lt_of_lt_of_le h2 k.sz⟩
theorem Reps.keep (k : Keep ρ n0 L H ρ' n0' L' H') : ∀ {ds : List D} {vs : List V}, Reps K ρ n0 L H ds vs → Reps K ρ' n0' L' H' ds vs
  | [], _, h => h
  | d :: ds, _, h => by
    obtain ⟨v, r, rfl, h1, h2⟩ := h
    exact ⟨v, r, rfl, Rep.keep k h1, Reps.keep k h2⟩
end
end

/-! ### the state of a def -/
/-- the cells that live -/
def Live (ρ : Nat → Addr) (S : Store) (a : Addr) : Prop := ∃ (n : Nat) (xs : List D), S[n]? = some (Cell.lst xs) ∧ ρ n = a
/-- the objects of slots -/
def Own (env : Env) (σ : St) (a : Addr) : Prop := ∃ (i : Nat) (d : D), env[i]? = some (Slot.own d) ∧ σ[i]? = some (some (V.ref a))
/-- what may change, or belongs to those around -/
def Ch (A : Addr → Prop) (ρ : Nat → Addr) (σ : St) (st : Sta) (a : Addr) : Prop := A a ∨ Live ρ st.S a ∨ Own st.env σ a

/-- an object of a slot or cell: its content -/
def Cont (K : PySem.W.Frag) (ρ : Nat → Addr) (n0 : Nat) (L : Addr → Prop) (H : Hp) (a : Addr) : D → Prop
  | .lst ds => ∃ vs, H a = some (.lst vs) ∧ Reps K ρ n0 L H ds vs
  | _ => False

structure Rel (K : PySem.W.Frag) (A : Addr → Prop) (ρ : Nat → Addr) (σ : St) (H : Hp) (st : Sta) : Prop where
  len : st.env.length = σ.length
  val : ∀ (i : Nat) (d : D), st.env[i]? = some (Slot.val d) → ∃ v, σ[i]? = some (some v) ∧ Rep K ρ st.S.length (Ch A ρ σ st) H d v
  own : ∀ (i : Nat) (d : D), st.env[i]? = some (Slot.own d) → ∃ a, σ[i]? = some (some (V.ref a)) ∧ ¬ A a ∧ Cont K ρ st.S.length (Ch A ρ σ st) H a d
  cell : ∀ (n : Nat) (xs : List D), st.S[n]? = some (Cell.lst xs) → ¬ A (ρ n) ∧ Cont K ρ st.S.length (Ch A ρ σ st) H (ρ n) (.lst xs)
  tr : ∀ a, A a → ∃ o, H a = some o ∧ ∀ xs, o ≠ .tup xs ∧ ∀ ob, o ≠ .frz ob (.tup xs)
  oo : ∀ (i j : Nat) (d e : D) (a : Addr), st.env[i]? = some (Slot.own d) → st.env[j]? = some (Slot.own e) → σ[i]? = some (some (V.ref a)) → σ[j]? = some (some (V.ref a)) → i = j
  cc : ∀ (m n : Nat) (xs ys : List D), st.S[m]? = some (Cell.lst xs) → st.S[n]? = some (Cell.lst ys) → ρ m = ρ n → m = n
  oc : ∀ (i : Nat) (d : D) (n : Nat) (xs : List D), st.env[i]? = some (Slot.own d) → st.S[n]? = some (Cell.lst xs) → σ[i]? ≠ some (some (V.ref (ρ n)))

/-- from one state to a later one of the same def -/
structure Fr (A : Addr → Prop) (ρ : Nat → Addr) (σ : St) (H : Hp) (st : Sta) (ρ' : Nat → Addr) (σ' : St) (H' : Hp) (st' : Sta) : Prop where
  rho : ∀ n, n < st.S.length → ρ' n = ρ n
  sz : st.S.length ≤ st'.S.length
  at_ : ∀ a o, H a = some o → ¬ Live ρ st.S a → ¬ Own st.env σ a → H' a = some o
  free : ∀ a, H' a = none → H a = none
  live : ∀ a, Live ρ' st'.S a → Live ρ st.S a ∨ H a = none
  own : ∀ a, Own st'.env σ' a → Own st.env σ a ∨ H a = none
  busy : ∀ i : Nat, st'.env[i]? = some Slot.busy → st.env[i]? = some Slot.busy ∧ σ'[i]? = σ[i]?

section
variable {K : PySem.W.Frag} {A : Addr → Prop} {ρ ρ' ρ2 : Nat → Addr} {σ σ' σ2 : St} {H H' H2 : Hp} {st st' st2 : Sta}
theorem Fr.refl : Fr A ρ σ H st ρ σ H st := ⟨fun _ _ => rfl, Nat.le_refl _, fun _ _ e _ _ => e, fun _ e => e, fun _ e => .inl e, fun _ e => .inl e, fun _ e => ⟨e, rfl⟩⟩
theorem Fr.trans (f : Fr A ρ σ H st ρ' σ' H' st') (g : Fr A ρ' σ' H' st' ρ2 σ2 H2 st2) : Fr A ρ σ H st ρ2 σ2 H2 st2 where
  rho := fun n h => (g.rho n (Nat.lt_of_lt_of_le h f.sz)).trans (f.rho n h)
  sz := Nat.le_trans f.sz g.sz
  at_ := fun a o e h1 h2 => g.at_ a o (f.at_ a o e h1 h2) (fun q => (f.live a q).elim h1 fun z => by rw [z] at e; cases e) (fun q => (f.own a q).elim h2 fun z => by rw [z] at e; cases e)
  free := fun a e => f.free a (g.free a e)
  live := fun a h => (g.live a h).elim (f.live a) fun z => .inr (f.free a z)
  own := fun a h => (g.own a h).elim (f.own a) fun z => .inr (f.free a z)
  busy := fun i h => ⟨(f.busy i (g.busy i h).1).1, (g.busy i h).2.trans (f.busy i (g.busy i h).1).2⟩
theorem Rel.liveH (r : Rel K A ρ σ H st) {a : Addr} (h : Live ρ st.S a) : ∃ vs, H a = some (.lst vs) := by
  obtain ⟨n, xs, e, rfl⟩ := h
  obtain ⟨_, vs, q, _⟩ := r.cell n xs e
  exact ⟨vs, q⟩
theorem Rel.ownH (r : Rel K A ρ σ H st) {a : Addr} (h : Own st.env σ a) : ∃ vs, H a = some (.lst vs) := by
  obtain ⟨i, d, e, q⟩ := h
  obtain ⟨b, q', _, c⟩ := r.own i d e
  rw [q] at q'; cases q'
  cases d with
  | lst ds => obtain ⟨vs, z, _⟩ := c; exact ⟨vs, z⟩
  | _ => exact (show False from c).elim
theorem Rel.chH (r : Rel K A ρ σ H st) {a : Addr} (h : Ch A ρ σ st a) : ∃ o, H a = some o ∧ ∀ xs, o ≠ .tup xs ∧ ∀ ob, o ≠ .frz ob (.tup xs) := by
  rcases h with h | h | h
  · exact r.tr a h
  · obtain ⟨vs, e⟩ := r.liveH h; exact ⟨_, e, fun xs => ⟨(fun z => by cases z), fun ob z => by cases z⟩⟩
  · obtain ⟨vs, e⟩ := r.ownH h; exact ⟨_, e, fun xs => ⟨(fun z => by cases z), fun ob z => by cases z⟩⟩
theorem Rel.keep (r : Rel K A ρ σ H st) (f : Fr A ρ σ H st ρ' σ' H' st') : Keep ρ st.S.length (Ch A ρ σ st) H ρ' st'.S.length (Ch A ρ' σ' st') H' where
  rho := f.rho
  sz := f.sz
  at_ := fun a o e h => ⟨f.at_ a o e (fun z => h (.inr (.inl z))) fun z => h (.inr (.inr z)), fun q => by
    rcases q with q | q | q
    · exact h (.inl q)
    · exact (f.live a q).elim (fun z => h (.inr (.inl z))) fun z => by rw [z] at e; cases e
    · exact (f.own a q).elim (fun z => h (.inr (.inr z))) fun z => by rw [z] at e; cases e⟩
  tup := fun a o e h xs => by
    obtain ⟨o', e', q⟩ := r.chH h
    rw [e] at e'; cases e'
    exact q xs
/-- data of an earlier state -/
theorem Rel.rep (r : Rel K A ρ σ H st) (f : Fr A ρ σ H st ρ' σ' H' st') {d : D} {v : V} (h : Rep K ρ st.S.length (Ch A ρ σ st) H d v) : Rep K ρ' st'.S.length (Ch A ρ' σ' st') H' d v := Rep.keep (r.keep f) h
theorem Rel.reps (r : Rel K A ρ σ H st) (f : Fr A ρ σ H st ρ' σ' H' st') {d : List D} {v : List V} (h : Reps K ρ st.S.length (Ch A ρ σ st) H d v) : Reps K ρ' st'.S.length (Ch A ρ' σ' st') H' d v := Reps.keep (r.keep f) h

/-- a new object is laid, of which the state knows nothing -/
theorem Fr.laid {p : Addr} {o : HO} (hp : H p = none) : Fr A ρ σ H st ρ σ (upd H p o) st where
  rho := fun _ _ => rfl
  sz := Nat.le_refl _
  at_ := fun a u e _ _ => by rw [upd_ne (ne_of_none e hp)]; exact e
  free := fun a e => by
    by_cases z : a = p
    · subst z; rw [upd_same] at e; cases e
    · rw [upd_ne z] at e; exact e
  live := fun _ e => .inl e
  own := fun _ e => .inl e
  busy := fun _ e => ⟨e, rfl⟩
/-- the state itself, where H is kept but for new objects -/
theorem Rel.of_same (r : Rel K A ρ σ H st) (f : Fr A ρ σ H st ρ σ H' st) (h : ∀ a vs, (Live ρ st.S a ∨ Own st.env σ a) → H a = some (.lst vs) → H' a = some (.lst vs)) : Rel K A ρ σ H' st where
  len := r.len
  val := fun i d e => by
    obtain ⟨v, e1, q⟩ := r.val i d e
    exact ⟨v, e1, r.rep f q⟩
  own := fun i d e => by
    obtain ⟨a, e1, na, c⟩ := r.own i d e
    refine ⟨a, e1, na, ?_⟩
    cases d with
    | lst ds => obtain ⟨vs, z, q⟩ := c; exact ⟨vs, h a vs (.inr ⟨i, _, e, e1⟩) z, r.reps f q⟩
    | _ => exact (show False from c).elim
  cell := fun n xs e => by
    obtain ⟨na, vs, z, q⟩ := r.cell n xs e
    exact ⟨na, vs, h _ vs (.inl ⟨n, xs, e, rfl⟩) z, r.reps f q⟩
  tr := fun a ha => by
    obtain ⟨o, e, q⟩ := r.tr a ha
    refine ⟨o, f.at_ a o e (fun z => ?_) (fun z => ?_), q⟩
    · obtain ⟨n, xs, e1, rfl⟩ := z; exact (r.cell n xs e1).1 ha
    · obtain ⟨i, d, e1, e2⟩ := z
      obtain ⟨b, q', nb, _⟩ := r.own i d e1
      rw [e2] at q'; cases q'
      exact nb ha
  oo := r.oo
  cc := r.cc
  oc := r.oc
theorem Rel.laid (r : Rel K A ρ σ H st) {p : Addr} {o : HO} (hp : H p = none) : Rel K A ρ σ (upd H p o) st :=
  r.of_same (Fr.laid hp) fun a vs _ e => by rw [upd_ne (ne_of_none e hp)]; exact e
end

/-! ### outcomes -/
inductive Out (α : Type) where
  | ok (a : α) (st : Sta) | bad
def Out.bind {α β : Type} (o : Out α) (f : α → Sta → Out β) : Out β :=
  match o with
  | .ok a st => f a st
  | .bad => .bad
@[simp] theorem Out.ok_bind {α β : Type} (a : α) (st : Sta) (f : α → Sta → Out β) : (Out.ok a st).bind f = f a st := rfl
@[simp] theorem Out.bad_bind {α β : Type} (f : α → Sta → Out β) : (Out.bad : Out α).bind f = .bad := rfl
theorem Out.bind_ok {α β : Type} {o : Out α} {f : α → Sta → Out β} {b : β} {st : Sta} (h : o.bind f = .ok b st) : ∃ a s1, o = .ok a s1 ∧ f a s1 = .ok b st := by
  cases o with
  | ok a s1 => exact ⟨a, s1, rfl, h⟩
  | bad => cases h
end Gp

/-! Gp, part B: a small language, told by evaluation. -/
namespace Gp
open PySem L2

inductive BOp where
  | add | sub | mul | fdiv | mod | shl | shr | band | bor | bxor
  deriving DecidableEq
inductive COp where
  | eq | ne | lt | le | gt | ge | isn | notn | inn | notin
  deriving DecidableEq
inductive Ty where
  | int | bool | str | list | tuple
  deriving DecidableEq
inductive B1 where
  | len | all | any | list | sum | int | abs
  deriving DecidableEq
inductive B2 where
  | min | max
  deriving DecidableEq
inductive Me where
  | append | pop0 | pop | index | clear
  deriving DecidableEq

mutual
inductive E where
  | var (i : Nat)
  | mv (i : Nat)
  | cst (d : D)
  | bin (op : BOp) (a b : E)
  | neg (a : E)
  | cmp (op : COp) (a b : E)
  | chain (o1 o2 : COp) (a b c : E)
  | and (a b : E)
  | or (a b : E)
  | not (a : E)
  | ife (c : C) (a b : E)
  | sub (a b : E)
  | cut (a : E) (lo hi : Option E)
  | back (a : E)
  | tup (es : List E)
  | lst (es : List E)
  | rep (es : List E) (k : E)
  | call (f : Nat) (es : List E)
  | pcall (f : Nat) (es : List E)
  | b1 (b : B1) (a : E)
  | b2 (b : B2) (a c : E)
  | lrange (a b : E)
  | lrange1 (b : E)
  | isi (t : Ty) (a : E)
  | meth (m : Me) (o : E) (es : List E)
  | comp (e : E) (g : G) (it : I) (cs : List C) (own : List Nat)
/-- tests -/
inductive C where
  | and (a b : C)
  | or (a b : C)
  | not (a : C)
  | val (e : E)
inductive G where
  | name (i : Nat)
  | tup (gs : List G)
  | sub (o i : E)
inductive I where
  | seq (e : E)
  | range (a b : E)
  | range1 (a : E)
  | enum (e : E)
  | zip (a b : E)
  | rev (e : E)
end
inductive S where
  | set (i : Nat) (e : E) (own : Bool)
  | asg (g : G) (e : E)
  | aug (i : Nat) (op : BOp) (e : E)
  | ex (e : E)
  | ret (e : E) (fr : Bool)
  | retN
  | ite (c : C) (a b : List S)
  | «for» (g : G) (it : I) (body : List S)
  | forO (i : Nat) (g : G) (body : List S)
  | wh (c : C) (body : List S)
  | pass | brk | cont
  | never
structure Def where
  name : Str
  np : Nat
  ns : Nat
  body : List S
  fr : Bool

/-! ### values -/
/-- an operand: data, or the object at a slot -/
inductive T where
  | v (d : D) | slot (i : Nat)
def look (t : T) (st : Sta) : Option D :=
  let d := match t with
    | .v d => some d
    | .slot i => (match st.env[i]? with
      | some (.val d) => some d
      | some (.own d) => some d
      | _ => none)
  match d with
  | some (.loc n) => (match st.S[n]? with
    | some (.lst xs) => some (.lst xs)
    | _ => none)
  | d => d
/-- an object changed -/
def put (t : T) (xs : List D) (st : Sta) : Option Sta :=
  let loc := fun n => match st.S[n]? with
    | some (.lst _) => some { st with S := st.S.set n (.lst xs) }
    | _ => none
  match t with
  | .v (.loc n) => loc n
  | .slot i => (match st.env[i]? with
    | some (.val (.loc n)) => loc n
    | some (.own (.lst _)) => some { st with env := st.env.set i (.own (.lst xs)) }
    | _ => none)
  | _ => none

def D.flat : D → Bool
  | .lst _ | .tup _ | .loc _ => false
  | _ => true
def freeze (t : T) (env : Env) : Env :=
  match t with
  | .slot i => (match env[i]? with
    | some (.own d) => env.set i (.val d)
    | _ => env)
  | .v _ => env
def freezes (ts : List T) (env : Env) : Env := ts.foldl (fun e t => freeze t e) env
def mask (S : Store) : Store := S.map fun _ => .dead

def bigI (i : Int) : Prop := -(2 ^ 64) < i ∧ i < 2 ^ 64
instance (i : Int) : Decidable (bigI i) := by unfold bigI; infer_instance

def intF (op : BOp) (i j : Int) : Option Int :=
  match op with
  | .add => some (i + j)
  | .sub => some (i - j)
  | .mul => if bigI i ∨ bigI j then some (i * j) else none
  | .fdiv => if 0 < j ∧ j < 1073741824 then some (i / j) else none
  | .mod => if 0 < j then some (i % j) else none
  | .shl => if 0 ≤ j ∧ j ≤ 1000000 ∧ i.natAbs < 2 ^ 64 then some (i * 2 ^ j.toNat) else none
  | .shr => if 0 ≤ j then some (i / 2 ^ j.toNat) else none
  | .band => some (Builtin.bitAnd i j)
  | .bor => some (Builtin.bitOr i j)
  | .bxor => some (Builtin.bitXor i j)
def binF (op : BOp) (a b : D) : Option D :=
  match a, b with
  | .int i, .int j => (intF op i j).map .int
  | .lst xs, .lst ys => if op = .add ∧ xs.length + ys.length ≤ 1000000 then some (.lst (xs ++ ys)) else none
  | _, _ => none
def repF (xs : List D) (k : Int) : Option D :=
  if -(2 ^ 63) ≤ k ∧ k < 2 ^ 63 ∧ xs.length * k.toNat ≤ 1000000 then some (.lst ((List.replicate k.toNat xs).flatten)) else none

/-! ### == -/
mutual
def D.pd : D → Option PyData
  | .non => some .none
  | .bl b => some (.bool b)
  | .int i => some (.int i)
  | .str x => some (.str x)
  | .lst ds => (D.pds ds).map .list
  | .tup ds => (D.pds ds).map .tuple
  | .loc _ => none
def D.pds : List D → Option (List PyData)
  | [] => some []
  | d :: ds => match D.pd d, D.pds ds with
    | some e, some es => some (e :: es)
    | _, _ => none
end
mutual
def D.eqv : D → D → Bool
  | .non, .non => true
  | .bl a, .bl b => a == b
  | .bl a, .int j => (if a then 1 else 0) == j
  | .int i, .bl b => i == (if b then 1 else 0)
  | .int i, .int j => i == j
  | .str x, .str y => x == y
  | .lst xs, .lst ys => D.eqvs xs ys
  | .tup xs, .tup ys => D.eqvs xs ys
  | _, _ => false
def D.eqvs : List D → List D → Bool
  | [], [] => true
  | x :: xs, y :: ys => D.eqv x y && D.eqvs xs ys
  | _, _ => false
end
mutual
/-- data without cells that is at most so many things deep -/
def D.deep : Nat → D → Bool
  | 0, .lst _ => false
  | 0, .tup _ => false
  | n + 1, .lst ds => D.deeps n ds
  | n + 1, .tup ds => D.deeps n ds
  | _, .str x => PyData.strOk x
  | _, .loc _ => false
  | _, _ => true
def D.deeps : Nat → List D → Bool
  | _, [] => true
  | n, d :: ds => D.deep n d && D.deeps n ds
end

def ordF (op : COp) (i j : Int) : Option Bool :=
  match op with
  | .lt => some (decide (i < j))
  | .le => some (decide (i ≤ j))
  | .gt => some (decide (j < i))
  | .ge => some (decide (j ≤ i))
  | _ => none
def D.isNon : D → Bool
  | .non => true
  | _ => false
def cmpF (op : COp) (a b : D) : Option D :=
  match op with
  | .eq => if a.deep 60 && b.deep 60 then some (.bl (D.eqv a b)) else none
  | .ne => if a.deep 60 && b.deep 60 then some (.bl (!D.eqv a b)) else none
  | .isn => if b.isNon then some (.bl a.isNon) else none
  | .notn => if b.isNon then some (.bl (!a.isNon)) else none
  | op => match a, b with
    | .int i, .int j => (ordF op i j).map .bl
    | _, _ => none

def truth : D → Option Bool
  | .non => some false
  | .bl b => some b
  | .int i => some (i != 0)
  | .lst xs => some (!xs.isEmpty)
  | .tup xs => some (!xs.isEmpty)
  | _ => none

/-- a place, from the end where it is below nought -/
def place (n : Nat) (i : Int) : Option Nat :=
  if 0 ≤ i then (if i < n then some i.toNat else none) else (if -(n : Int) ≤ i then some (i + n).toNat else none)
def itemF (a b : D) : Option D :=
  match a, b with
  | .lst xs, .int i => (place xs.length i).bind fun k => xs[k]?
  | .tup xs, .int i => (place xs.length i).bind fun k => xs[k]?
  | _, _ => none

def D.ints : List D → Option (List Int)
  | [] => some []
  | .int i :: r => (D.ints r).map fun is => i :: is
  | _ => none
def D.bls : List D → Option (List Bool)
  | [] => some []
  | .bl i :: r => (D.bls r).map fun is => i :: is
  | _ => none
def b1F (b : B1) (a : D) : Option D :=
  match b, a with
  | .len, .lst xs => some (.int xs.length)
  | .len, .tup xs => some (.int xs.length)
  | .all, .lst xs => (D.bls xs).map fun bs => .bl (bs.all id)
  | .any, .lst xs => (D.bls xs).map fun bs => .bl (bs.any id)
  | .list, .lst xs => some (.lst xs)
  | .list, .tup xs => some (.lst xs)
  | .sum, .lst xs => (D.ints xs).map fun is => .int is.sum
  | .int, .int i => some (.int i)
  | .int, .bl k => some (.int (if k then 1 else 0))
  | .abs, .int i => some (.int (if i < 0 then -i else i))
  | _, _ => none
def b2F (b : B2) (a c : D) : Option D :=
  match b, a, c with
  | .min, .int i, .int j => some (.int (if j < i then j else i))
  | .max, .int i, .int j => some (.int (if j > i then j else i))
  | _, _, _ => none
def rangeL (a b : Int) : List D := (List.range (b - a).toNat).map fun (k : Nat) => D.int (a + (k : Int))
def smallI (i : Int) : Prop := -(2 ^ 40) ≤ i ∧ i < 2 ^ 40
instance (i : Int) : Decidable (smallI i) := by unfold smallI; infer_instance
def isiF : Ty → D → Option Bool
  | _, .loc _ => none
  | .int, .int _ => some true
  | .int, .bl _ => some true
  | .bool, .bl _ => some true
  | .str, .str _ => some true
  | .list, .lst _ => some true
  | .tuple, .tup _ => some true
  | _, _ => some false
def sIx (n d : Nat) : Option Int → Nat
  | none => d
  | some v => if v < 0 then (v + (n : Int)).toNat else min v.toNat n
def cutD (xs : List D) (lo hi : Option Int) : List D := (xs.drop (sIx xs.length 0 lo)).take (sIx xs.length xs.length hi - sIx xs.length 0 lo)
def cutF (a : D) (lo hi : Option Int) : Option D :=
  match a with
  | .lst xs => some (.lst (cutD xs lo hi))
  | .tup xs => if sIx xs.length 0 lo = 0 ∧ sIx xs.length xs.length hi = xs.length then none else some (.tup (cutD xs lo hi))
  | _ => none
/-- a method of a list: what it tells, and the list behind it -/
def mAppend (xs : List D) : List D → Option (D × Option (List D))
  | [e] => if xs.length < 1000000 then some (.non, some (xs ++ [e])) else none
  | _ => none
def mPop0 (xs : List D) : List D → Option (D × Option (List D))
  | [] => (match xs[xs.length - 1]? with
    | some x => some (x, some xs.dropLast)
    | none => none)
  | _ => none
def mPop (xs : List D) : List D → Option (D × Option (List D))
  | [.int i] => if 0 ≤ i ∧ i < 2 ^ 63 then (match xs[i.toNat]? with
    | some x => some (x, some (xs.eraseIdx i.toNat))
    | none => none) else none
  | _ => none
def mClear (_ : List D) : List D → Option (D × Option (List D))
  | [] => some (.non, some [])
  | _ => none
def mIndex (xs : List D) : List D → Option (D × Option (List D))
  | [.int i] => (match D.ints xs with
    | some is => (if i ∈ is then some (.int (is.idxOf i : Nat), none) else none)
    | none => none)
  | _ => none
def methF (m : Me) : List D → List D → Option (D × Option (List D)) :=
  match m with
  | .append => mAppend
  | .pop0 => mPop0
  | .pop => mPop
  | .clear => mClear
  | .index => mIndex

abbrev CallF := Nat → List D → Store → Option (D × Store)
def ofO (o : Option D) (st : Sta) : Out D := match o with
  | some d => .ok d st
  | none => .bad

def setName (i : Nat) (d : D) (st : Sta) : Sta := { st with env := st.env.set i (.val d) }
def wipeE (env : Env) (own : List Nat) : Env := own.foldr (fun i e => e.set i .no) env
/-- a comprehension's own names behind it: as they were -/
def unSlot (old : Env) (i : Nat) : Slot := match old[i]? with
  | some (.val d) => .val d
  | _ => .no
def unwipe (old env : Env) (own : List Nat) : Env := own.foldr (fun i e => e.set i (unSlot old i)) env

/-- a value is handed on: an object of a slot is nobody's own any more -/
def leak (t : T) (st : Sta) : Out D :=
  match t with
  | .v d => .ok d st
  | .slot i => (match st.env[i]? with
    | some (.val d) => .ok d st
    | some (.own d) => .ok d { st with env := st.env.set i (.val d) }
    | _ => .bad)
def lk (o : Out T) : Out D := o.bind leak
def vO (d : D) (st : Sta) : Out T := .ok (.v d) st
def vF (o : Option D) (st : Sta) : Out T := match o with
  | some d => .ok (.v d) st
  | none => .bad
def intO (o : Out D) : Out Int := o.bind fun x s1 => (match x with
    | .int i => .ok i s1
    | _ => .bad)
def two (a b : Sta → Out T) (f : D → D → Option D) (st : Sta) : Out T :=
  (a st).bind fun x s1 => (b s1).bind fun y s2 => match look x s2, look y s2 with
    | some d, some e => vF (f d e) s2
    | _, _ => .bad
/-- what is handed to a def that asks the store nothing -/
def lent (t : T) (st : Sta) : Option D := match t with
  | .v d => some d
  | .slot i => (match st.env[i]? with
    | some (.val d) => some d
    | some (.own d) => some d
    | _ => none)
def lents : List T → Sta → Option (List D)
  | [], _ => some []
  | t :: ts, st => (match lent t st, lents ts st with
    | some d, some ds => some (d :: ds)
    | _, _ => none)
def callO (cl : CallF) (f : Nat) (xs : List D) (st : Sta) : Out T := match cl f xs st.S with
    | some (d, S') => .ok (.v d) { st with S := S' }
    | none => .bad
def pcallO (cl : CallF) (f : Nat) (ts : List T) (st : Sta) : Out T := match lents ts st with
    | some ds => (match cl f ds (mask st.S) with
      | some (d, S') => if S'.length = st.S.length then .ok (.v d) (if d.flat then st else { st with env := freezes ts st.env }) else .bad
      | none => .bad)
    | none => .bad
def methO (m : Me) (x : T) (ds : List D) (st : Sta) : Out T := match look x st with
    | some (.lst xs) => (match methF m xs ds with
      | some (d, none) => .ok (.v d) st
      | some (d, some ys) => (match put x ys st with
        | some s3 => .ok (.v d) s3
        | none => .bad)
      | none => .bad)
    | _ => .bad
def setO (x : T) (j : Int) (d : D) (st : Sta) : Out Unit := match look x st with
    | some (.lst xs) => (match place xs.length j with
      | some k => (match put x (xs.set k d) st with
        | some s3 => .ok () s3
        | none => .bad)
      | none => .bad)
    | _ => .bad
/-- the turns of a comprehension -/
def compL (tg : D → Sta → Out Unit) (c : Sta → Out Bool) (e : Sta → Out D) (own : List Nat) : List D → List D → Sta → Out (List D)
  | [], acc, st => .ok acc st
  | d :: ds, acc, st => (tg d { st with env := wipeE st.env own }).bind fun _ s1 => (c s1).bind fun k s2 =>
      if k then (e s2).bind fun x s3 => (if acc.length < 1000000 then compL tg c e own ds (acc ++ [x]) s3 else .bad) else compL tg c e own ds acc s2

section
variable (cl : CallF)
mutual
def evT : E → Sta → Out T
  | .var i, st => (match st.env[i]? with
    | some (.val _) => .ok (.slot i) st
    | some (.own _) => .ok (.slot i) st
    | _ => .bad)
  | .mv i, st => (match st.env[i]? with
    | some (.own d) => vO d { st with env := st.env.set i .no }
    | _ => .bad)
  | .cst d, st => vO d st
  | .bin op a b, st => two (evT a) (evT b) (binF op) st
  | .neg a, st => (intO (lk (evT a st))).bind fun i s1 => vO (.int (-i)) s1
  | .cmp op a b, st => two (evT a) (evT b) (cmpF op) st
  | .chain o1 o2 a b c, st => (lk (evT a st)).bind fun x s1 => (lk (evT b s1)).bind fun y s2 => match cmpF o1 x y with
    | some (.bl true) => (lk (evT c s2)).bind fun z s3 => vF (cmpF o2 y z) s3
    | some (.bl false) => vO (.bl false) s2
    | _ => .bad
  | .and a b, st => (lk (evT a st)).bind fun x s1 => (match x with
    | .bl true => (lk (evT b s1)).bind vO
    | .bl false => vO (.bl false) s1
    | _ => .bad)
  | .or a b, st => (lk (evT a st)).bind fun x s1 => (match x with
    | .bl false => (lk (evT b s1)).bind vO
    | .bl true => vO (.bl true) s1
    | _ => .bad)
  | .not a, st => (lk (evT a st)).bind fun x s1 => (match x with
    | .bl k => vO (.bl (!k)) s1
    | _ => .bad)
  | .ife c a b, st => (evB c st).bind fun k s1 => if k then (lk (evT a s1)).bind vO else (lk (evT b s1)).bind vO
  | .sub a b, st => two (evT a) (evT b) itemF st
  | .cut a lo hi, st => (evT a st).bind fun x s1 => (evP lo s1).bind fun l s2 => (evP hi s2).bind fun h s3 => match look x s3 with
    | some d => vF (cutF d l h) s3
    | none => .bad
  | .back a, st => (evT a st).bind fun x s1 => match look x s1 with
    | some (.lst xs) => vO (.lst xs.reverse) s1
    | _ => .bad
  | .tup es, st => (evEs es st).bind fun xs s1 => if xs.length ≤ 1000000 then vO (.tup xs) s1 else .bad
  | .lst es, st => (evEs es st).bind fun xs s1 => if xs.length ≤ 1000000 then vO (.lst xs) s1 else .bad
  | .rep es k, st => (evEs es st).bind fun xs s1 => (intO (lk (evT k s1))).bind fun k s2 => if xs.length ≤ 1000000 then vF (repF xs k) s2 else .bad
  | .call f es, st => (evEs es st).bind fun xs s1 => callO cl f xs s1
  | .pcall f es, st => (evTs es st).bind fun ts s1 => pcallO cl f ts s1
  | .b1 b a, st => (evT a st).bind fun x s1 => match look x s1 with
    | some d => vF (b1F b d) s1
    | none => .bad
  | .b2 b a c, st => (lk (evT a st)).bind fun x s1 => (lk (evT c s1)).bind fun y s2 => vF (b2F b x y) s2
  | .lrange a b, st => (intO (lk (evT a st))).bind fun i s1 => (intO (lk (evT b s1))).bind fun j s2 =>
      if smallI i ∧ smallI j ∧ j - i ≤ 1000000 then vO (.lst (rangeL i j)) s2 else .bad
  | .lrange1 b, st => (intO (lk (evT b st))).bind fun j s2 =>
      if smallI j ∧ j ≤ 1000000 then vO (.lst (rangeL 0 j)) s2 else .bad
  | .isi t a, st => (evT a st).bind fun x s1 => match look x s1 with
    | some d => (match isiF t d with
      | some k => vO (.bl k) s1
      | none => .bad)
    | none => .bad
  | .meth m o es, st => (evT o st).bind fun x s1 => match look x s1 with
    | some (.lst _) => (evEs es s1).bind fun ds s2 => methO m x ds s2
    | _ => .bad
  | .comp e g it cs own, st => (evI it st).bind fun ds s1 =>
      (compL (evG g) (evAll cs) (fun s => lk (evT e s)) own ds [] s1).bind fun xs s2 => vO (.lst xs) { s2 with env := unwipe s1.env s2.env own }
def evB : C → Sta → Out Bool
  | .and a b, st => (evB a st).bind fun k s1 => if k then evB b s1 else .ok false s1
  | .or a b, st => (evB a st).bind fun k s1 => if k then .ok true s1 else evB b s1
  | .not a, st => (evB a st).bind fun k s1 => .ok (!k) s1
  | .val e, st => (evT e st).bind fun x s1 => match look x s1 with
    | some d => (match truth d with
      | some k => .ok k s1
      | none => .bad)
    | none => .bad
def evP : Option E → Sta → Out (Option Int)
  | none, st => .ok none st
  | some e, st => (intO (lk (evT e st))).bind fun i s1 => .ok (some i) s1
def evEs : List E → Sta → Out (List D)
  | [], st => .ok [] st
  | e :: es, st => (lk (evT e st)).bind fun d s1 => (evEs es s1).bind fun ds s2 => .ok (d :: ds) s2
def evTs : List E → Sta → Out (List T)
  | [], st => .ok [] st
  | e :: es, st => (evT e st).bind fun d s1 => (evTs es s1).bind fun ds s2 => .ok (d :: ds) s2
def evI : I → Sta → Out (List D)
  | .seq e, st => (lk (evT e st)).bind fun x s1 => (match x with
    | .lst xs => .ok xs s1
    | .tup xs => .ok xs s1
    | _ => .bad)
  | .range1 a, st => (intO (lk (evT a st))).bind fun i s1 => if smallI i then .ok (rangeL 0 i) s1 else .bad
  | .range a b, st => (intO (lk (evT a st))).bind fun i s1 => (intO (lk (evT b s1))).bind fun j s2 => if smallI i ∧ smallI j then .ok (rangeL i j) s2 else .bad
  | .enum e, st => (lk (evT e st)).bind fun x s1 => (match x with
    | .lst xs => .ok ((List.range xs.length).zipWith (fun (k : Nat) d => .tup [.int k, d]) xs) s1
    | _ => .bad)
  | .zip a b, st => (lk (evT a st)).bind fun x s1 => (lk (evT b s1)).bind fun y s2 => (match x, y with
    | .lst xs, .lst ys => .ok (xs.zipWith (fun x y => .tup [x, y]) ys) s2
    | _, _ => .bad)
  | .rev e, st => (lk (evT e st)).bind fun x s1 => (match x with
    | .lst xs => .ok xs.reverse s1
    | _ => .bad)
def evG : G → D → Sta → Out Unit
  | .name i, d, st => if i < st.env.length then .ok () (setName i d st) else .bad
  | .tup gs, d, st => (match d with
    | .tup ds => evGs gs ds st
    | _ => .bad)
  | .sub o i, d, st => (evT o st).bind fun x s1 => (intO (lk (evT i s1))).bind fun j s2 => setO x j d s2
def evGs : List G → List D → Sta → Out Unit
  | [], ds, st => if ds.isEmpty then .ok () st else .bad
  | g :: gs, ds, st => (match ds with
    | d :: r => (evG g d st).bind fun _ s1 => evGs gs r s1
    | [] => .bad)
def evAll : List C → Sta → Out Bool
  | [], st => .ok true st
  | c :: cs, st => (evB c st).bind fun k s1 => if k then evAll cs s1 else .ok false s1
end
abbrev evE (e : E) (st : Sta) : Out D := lk (evT cl e st)
end

/-! ### statements -/
inductive Ctl where
  | nx | rt (d : D) (fr : Bool) | bk | ct
/-- the turns of a loop -/
def loop (tg : D → Sta → Out Unit) (body : Sta → Out Ctl) : List D → Sta → Out Ctl
  | [], st => .ok .nx st
  | d :: ds, st => (tg d st).bind fun _ s1 => (body s1).bind fun c s2 => match c with
    | .nx => loop tg body ds s2
    | .ct => loop tg body ds s2
    | .bk => .ok .nx s2
    | .rt d fr => .ok (.rt d fr) s2
def whil (c : Sta → Out Bool) (body : Sta → Out Ctl) : Nat → Sta → Out Ctl
  | 0, _ => .bad
  | n + 1, st => (c st).bind fun k s1 => if k then (body s1).bind fun c' s2 => (match c' with
    | .nx => whil c body n s2
    | .ct => whil c body n s2
    | .bk => .ok .nx s2
    | .rt d fr => .ok (.rt d fr) s2) else .ok .nx s1
def fuel : Nat := 10 ^ 30
def mkSlot (d : D) : Slot := match d with
  | .lst xs => .own (.lst xs)
  | d => .val d
section
variable (cl : CallF)
mutual
def evS : S → Sta → Out Ctl
  | .set i e own, st => (evE cl e st).bind fun d s1 => if i < s1.env.length then .ok .nx { s1 with env := s1.env.set i (if own then mkSlot d else .val d) } else .bad
  | .asg g e, st => (evE cl e st).bind fun d s1 => (evG cl g d s1).bind fun _ s2 => .ok .nx s2
  | .aug i op e, st => (match st.env[i]? with
    | some (.val x) => (evE cl e st).bind fun y s1 => (match x, y, binF op x y with
      | .int _, .int _, some z => if i < s1.env.length then .ok .nx (setName i z s1) else .bad
      | _, _, _ => .bad)
    | _ => .bad)
  | .ex e, st => (evE cl e st).bind fun _ s1 => .ok .nx s1
  | .ret e fr, st => (evE cl e st).bind fun d s1 => .ok (.rt d fr) s1
  | .retN, st => .ok (.rt .non false) st
  | .ite c a b, st => (evB cl c st).bind fun k s1 => if k then evSs a s1 else evSs b s1
  | .for g it body, st => (evI cl it st).bind fun ds s1 => loop (evG cl g) (evSs body) ds s1
  | .forO i g body, st => (match st.env[i]? with
    | some (.own (.lst xs)) => (loop (evG cl g) (evSs body) xs { st with env := st.env.set i .busy }).bind fun c s1 => (match s1.env[i]?, c with
      | some .busy, .nx => .ok .nx { s1 with env := s1.env.set i (.own (.lst xs)) }
      | some .busy, .rt d fr => .ok (.rt d fr) { s1 with env := s1.env.set i .no }
      | _, _ => .bad)
    | _ => .bad)
  | .wh c body, st => whil (evB cl c) (evSs body) fuel st
  | .pass, st => .ok .nx st
  | .brk, st => .ok .bk st
  | .cont, st => .ok .ct st
  | .never, _ => .bad
def evSs : List S → Sta → Out Ctl
  | [], st => .ok .nx st
  | s :: ss, st => (evS s st).bind fun c s1 => match c with
    | .nx => evSs ss s1
    | c => .ok c s1
end
end

def runD (cl : CallF) (df : Def) (ds : List D) (S : Store) : Option (D × Store) :=
  if ds.length = df.np then
    match evSs cl df.body ⟨ds.map .val ++ List.replicate (df.ns - df.np) .no, S⟩ with
    | .ok (.rt d fr) st => if fr = df.fr then some (d, st.S) else none
    | .ok .nx st => if df.fr then none else some (.non, st.S)
    | _ => none
  else none
def callN (tab : List Def) : Nat → CallF
  | 0 => fun _ _ _ => none
  | n + 1 => fun f ds S => match tab[f]? with
    | some df => runD (callN tab n) df ds S
    | none => none
end Gp

/-! Gp, part C: the readings, and how a state comes from another one. -/
namespace Gp
open PySem L2

section
variable {K : PySem.W.Frag} {A B : Addr → Prop} {ρ ρ' ρ2 : Nat → Addr} {σ σ' σ2 : L2.St} {H H' H2 : Hp} {st st' st2 : Sta} {n n' : Nat} {L L' : Addr → Prop}

/-- data that avoids more avoids less -/
theorem Keep.less (hL : ∀ a, L' a → L a) (ht : ∀ a, L a → ∃ o, H a = some o ∧ ∀ xs, o ≠ .tup xs ∧ ∀ ob, o ≠ .frz ob (.tup xs)) : Keep ρ n L H ρ n L' H where
  rho := fun _ _ => rfl
  sz := Nat.le_refl _
  at_ := fun a o e l => ⟨e, fun q => l (hL a q)⟩
  tup := fun a o e l xs => by
    obtain ⟨o', e', q⟩ := ht a l
    rw [e] at e'; cases e'
    exact q xs
theorem Ch.mono (h : ∀ a, B a → A a) {a : Addr} (c : Ch B ρ σ st a) : Ch A ρ σ st a := c.elim (fun z => .inl (h a z)) .inr
theorem Rel.weak (r : Rel K A ρ σ H st) (h : ∀ a, B a → A a) : Rel K B ρ σ H st where
  len := r.len
  val := fun i d e => by
    obtain ⟨v, e1, q⟩ := r.val i d e
    exact ⟨v, e1, Rep.keep (Keep.less (fun a z => Ch.mono h z) fun a z => r.chH z) q⟩
  own := fun i d e => by
    obtain ⟨a, e1, na, c⟩ := r.own i d e
    refine ⟨a, e1, fun z => na (h a z), ?_⟩
    cases d with
    | lst ds => obtain ⟨vs, z, q⟩ := c; exact ⟨vs, z, Reps.keep (Keep.less (fun a z => Ch.mono h z) fun a z => r.chH z) q⟩
    | _ => exact (show False from c).elim
  cell := fun n xs e => by
    obtain ⟨na, vs, z, q⟩ := r.cell n xs e
    exact ⟨fun z => na (h _ z), vs, z, Reps.keep (Keep.less (fun a z => Ch.mono h z) fun a z => r.chH z) q⟩
  tr := fun a ha => r.tr a (h a ha)
  oo := r.oo
  cc := r.cc
  oc := r.oc

/-- one more that is to be avoided -/
abbrev And1 (A : Addr → Prop) (p : Addr) : Addr → Prop := fun a => A a ∨ a = p
theorem Ch.and1 {p a : Addr} : Ch (And1 A p) ρ σ st a ↔ Ch A ρ σ st a ∨ a = p := by
  constructor
  · rintro ((h | h) | h | h)
    · exact .inl (.inl h)
    · exact .inr h
    · exact .inl (.inr (.inl h))
    · exact .inl (.inr (.inr h))
  · rintro ((h | h | h) | h)
    · exact .inl (.inl h)
    · exact .inr (.inl h)
    · exact .inr (.inr h)
    · exact .inl (.inr h)
/-- a new list: the state avoids it -/
theorem Keep.new {p : Addr} {o : HO} (r : Rel K A ρ σ H st) (hp : H p = none) : Keep ρ st.S.length (Ch A ρ σ st) H ρ st.S.length (Ch (And1 A p) ρ σ st) (upd H p o) where
  rho := fun _ _ => rfl
  sz := Nat.le_refl _
  at_ := fun a u e l => ⟨by rw [upd_ne (ne_of_none e hp)]; exact e, fun q => (Ch.and1.mp q).elim l fun z => by rw [z, hp] at e; cases e⟩
  tup := fun a o e l xs => by
    obtain ⟨o', e', q⟩ := r.chH l
    rw [e] at e'; cases e'
    exact q xs
theorem Rel.new {p : Addr} {vs : List V} (r : Rel K A ρ σ H st) (hp : H p = none) : Rel K (And1 A p) ρ σ (upd H p (.lst vs)) st where
  len := r.len
  val := fun i d e => by
    obtain ⟨v, e1, q⟩ := r.val i d e
    exact ⟨v, e1, Rep.keep (Keep.new r hp) q⟩
  own := fun i d e => by
    obtain ⟨a, e1, na, c⟩ := r.own i d e
    cases d with
    | lst ds =>
      obtain ⟨vs, z, q⟩ := c
      exact ⟨a, e1, fun y => y.elim na (fun y => by rw [y, hp] at z; cases z), vs, by rw [upd_ne (ne_of_none z hp)]; exact z, Reps.keep (Keep.new r hp) q⟩
    | _ => exact (show False from c).elim
  cell := fun n xs e => by
    obtain ⟨na, vs, z, q⟩ := r.cell n xs e
    exact ⟨fun y => y.elim na (fun y => by rw [y, hp] at z; cases z), vs, by rw [upd_ne (ne_of_none z hp)]; exact z, Reps.keep (Keep.new r hp) q⟩
  tr := fun a ha => by
    rcases ha with ha | ha
    · obtain ⟨o, e, q⟩ := r.tr a ha
      exact ⟨o, by rw [upd_ne (ne_of_none e hp)]; exact e, q⟩
    · subst ha
      exact ⟨_, upd_same, fun xs => ⟨(fun z => by cases z), fun ob z => by cases z⟩⟩
  oo := r.oo
  cc := r.cc
  oc := r.oc

/-! ### operands -/
def RepT (K : PySem.W.Frag) (A : Addr → Prop) (ρ : Nat → Addr) (σ : L2.St) (H : Hp) (st : Sta) : T → V → Prop
  | .v d, v => Rep K ρ st.S.length (Ch A ρ σ st) H d v
  | .slot i, v => σ[i]? = some (some v)
def RepTs (K : PySem.W.Frag) (A : Addr → Prop) (ρ : Nat → Addr) (σ : L2.St) (H : Hp) (st : Sta) : List T → List V → Prop
  | [], vs => vs = []
  | t :: ts, vs => ∃ v r, vs = v :: r ∧ RepT K A ρ σ H st t v ∧ RepTs K A ρ σ H st ts r
theorem Rel.repT (r : Rel K A ρ σ H st) (f : Fr A ρ σ H st ρ' σ H' st') : ∀ {x : T} {v : V}, RepT K A ρ σ H st x v → RepT K A ρ' σ H' st' x v
  | .v d, v, h => r.rep f h
  | .slot i, v, h => h
theorem Rel.repTs (r : Rel K A ρ σ H st) (f : Fr A ρ σ H st ρ' σ H' st') : ∀ {x : List T} {v : List V}, RepTs K A ρ σ H st x v → RepTs K A ρ' σ H' st' x v
  | [], _, h => h
  | t :: ts, _, h => by
    obtain ⟨v, q, rfl, h1, h2⟩ := h
    exact ⟨v, q, rfl, r.repT f h1, r.repTs f h2⟩
/-- what is seen of an operand -/
def Seen (K : PySem.W.Frag) (ρ : Nat → Addr) (n : Nat) (L : Addr → Prop) (H : Hp) (d : D) (v : V) : Prop :=
  match d with
  | .lst ds => ∃ a vs, v = .ref a ∧ SqL K H a vs ∧ Reps K ρ n L H ds vs
  | d => Rep K ρ n L H d v
theorem Rep.seen {d : D} {v : V} (h : Rep K ρ n L H d v) : Seen K ρ n L H d v := by
  cases d with
  | lst ds => obtain ⟨a, vs, e, f, q⟩ := h; exact ⟨a, vs, e, f.sq, q⟩
  | _ => exact h
theorem Rel.slot (r : Rel K A ρ σ H st) {i : Nat} {d : D} {v : V} (e : st.env[i]? = some (Slot.val d) ∨ st.env[i]? = some (Slot.own d)) (h : σ[i]? = some (some v)) : Seen K ρ st.S.length (Ch A ρ σ st) H d v := by
  rcases e with e | e
  · obtain ⟨v', e1, q⟩ := r.val i d e
    rw [h] at e1; cases e1
    exact q.seen
  · obtain ⟨a, e1, _, c⟩ := r.own i d e
    rw [h] at e1; cases e1
    cases d with
    | lst ds => obtain ⟨vs, z, q⟩ := c; exact ⟨a, vs, rfl, SqL.of z, q⟩
    | _ => exact (show False from c).elim
theorem Rel.look (r : Rel K A ρ σ H st) {x : T} {v : V} {d : D} (hx : RepT K A ρ σ H st x v) (e : look x st = some d) : Seen K ρ st.S.length (Ch A ρ σ st) H d v := by
  have key : ∀ d0 : D, Seen K ρ st.S.length (Ch A ρ σ st) H d0 v → (match d0 with
    | .loc n => (match st.S[n]? with
      | some (.lst xs) => some (.lst xs)
      | _ => none)
    | d => some d) = some d → Seen K ρ st.S.length (Ch A ρ σ st) H d v := fun d0 h0 e0 => by
    cases d0 with
    | loc n =>
      simp only at e0
      split at e0
      · rename_i xs hn
        cases e0
        obtain ⟨_, vs, z, q⟩ := r.cell n xs hn
        obtain ⟨h1, _⟩ := h0
        exact ⟨_, vs, h1, SqL.of z, q⟩
      · cases e0
    | _ => cases e0; exact h0
  cases x with
  | v d0 =>
    refine key d0 (Rep.seen hx) ?_
    unfold Gp.look at e
    cases d0 <;> exact e
  | slot i =>
    unfold Gp.look at e
    cases h : st.env[i]? with
    | none => simp [h] at e
    | some s =>
      cases s with
      | no => simp [h] at e
      | busy => simp [h] at e
      | val d0 =>
        refine key d0 (r.slot (.inl h) hx) ?_
        simp only [h] at e
        cases d0 <;> exact e
      | own d0 =>
        refine key d0 (r.slot (.inr h) hx) ?_
        simp only [h] at e
        cases d0 <;> exact e

/-! ### readings -/
def tT (K : PySem.W.Frag) (f : Sta → Out T) : TE := fun σ H Q => ∃ A ρ st x s1, Rel K A ρ σ H st ∧ f st = .ok x s1 ∧
  ∀ ρ' v H', Fr A ρ σ H st ρ' σ H' s1 → Rel K A ρ' σ H' s1 → RepT K A ρ' σ H' s1 x v → Q v H'
def tD (K : PySem.W.Frag) (f : Sta → Out D) : TE := fun σ H Q => ∃ A ρ st x s1, Rel K A ρ σ H st ∧ f st = .ok x s1 ∧
  ∀ ρ' v H', Fr A ρ σ H st ρ' σ H' s1 → Rel K A ρ' σ H' s1 → Rep K ρ' s1.S.length (Ch A ρ' σ s1) H' x v → Q v H'
def tBo (K : PySem.W.Frag) (f : Sta → Out Bool) : TT := fun σ H Q => ∃ A ρ st k s1, Rel K A ρ σ H st ∧ f st = .ok k s1 ∧
  ∀ ρ' H', Fr A ρ σ H st ρ' σ H' s1 → Rel K A ρ' σ H' s1 → Q k H'
def tDs (K : PySem.W.Frag) (f : Sta → Out (List D)) : TA := fun σ H Q => ∃ A ρ st x s1, Rel K A ρ σ H st ∧ f st = .ok x s1 ∧
  ∀ ρ' v H', Fr A ρ σ H st ρ' σ H' s1 → Rel K A ρ' σ H' s1 → Reps K ρ' s1.S.length (Ch A ρ' σ s1) H' x v → Q v H'
def tTs (K : PySem.W.Frag) (f : Sta → Out (List T)) : TA := fun σ H Q => ∃ A ρ st x s1, Rel K A ρ σ H st ∧ f st = .ok x s1 ∧
  ∀ ρ' v H', Fr A ρ σ H st ρ' σ H' s1 → Rel K A ρ' σ H' s1 → RepTs K A ρ' σ H' s1 x v → Q v H'
/-- a value that nobody else has, where it is a list -/
def Fresh (K : PySem.W.Frag) (A : Addr → Prop) (σ : L2.St) (H : Hp) (st : Sta) (x : T) (ρ' : Nat → Addr) (v : V) (H' : Hp) (s1 : Sta) : Prop :=
  (∃ ds a vs, x = .v (.lst ds) ∧ v = .ref a ∧ (H a = none ∨ Own st.env σ a) ∧ Rel K (And1 A a) ρ' σ H' s1 ∧ H' a = some (.lst vs) ∧ Reps K ρ' s1.S.length (Ch (And1 A a) ρ' σ s1) H' ds vs) ∨
    ((∀ ds, x ≠ .v (.lst ds)) ∧ Rel K A ρ' σ H' s1 ∧ RepT K A ρ' σ H' s1 x v)
def tF (K : PySem.W.Frag) (f : Sta → Out T) : TE := fun σ H Q => ∃ A ρ st x s1, Rel K A ρ σ H st ∧ f st = .ok x s1 ∧
  ∀ ρ' v H', Fr A ρ σ H st ρ' σ H' s1 → Fresh K A σ H st x ρ' v H' s1 → Q v H'
theorem _root_.L2.PE.imp {X : Cx} {e : Expr} {t t' : TE} (h : PE X e t) (i : ∀ σ H Q, t' σ H Q → t σ H Q) : PE X e t' := ⟨fun pins s σ H Q I q => h.run pins s σ H Q I (i σ H Q q)⟩
theorem _root_.L2.PT.imp {X : Cx} {e : Expr} {t t' : TT} (h : PT X e t) (i : ∀ σ H Q, t' σ H Q → t σ H Q) : PT X e t' := ⟨fun pins s σ H Q I q => h.run pins s σ H Q I (i σ H Q q)⟩
theorem _root_.L2.PW.imp {X : Cx} {e : Expr} {t t' : TT} (h : PW X e t) (i : ∀ σ H Q, t' σ H Q → t σ H Q) : PW X e t' := ⟨fun wh pins s σ H Q I q => h.run wh pins s σ H Q I (i σ H Q q)⟩
theorem _root_.L2.PA.imp {X : Cx} {e : List Expr} {t t' : TA} (h : PA X e t) (i : ∀ σ H Q, t' σ H Q → t σ H Q) : PA X e t' := ⟨fun pos pins s σ H Q I q => h.run pos pins s σ H Q I (i σ H Q q)⟩
theorem _root_.L2.PS.imp {X : Cx} {e : Stmt} {t t' : TS} (h : PS X e t) (i : ∀ D σ H, t' D σ H → t D σ H) : PS X e t' := ⟨fun pins s σ H D I q => h.run pins s σ H D I (i D σ H q)⟩
theorem _root_.L2.PSs.imp {X : Cx} {e : List Stmt} {t t' : TS} (h : PSs X e t) (i : ∀ D σ H, t' D σ H → t D σ H) : PSs X e t' := ⟨fun pins s σ H D I q => h.run pins s σ H D I (i D σ H q)⟩
theorem _root_.L2.PG.imp {X : Cx} {e : Expr} {t t' : TG} (h : PG X e t) (i : ∀ v σ H Q, t' v σ H Q → t v σ H Q) : PG X e t' := ⟨fun pins s σ H v u Q I r q => h.run pins s σ H v u Q I r (i v σ H Q q)⟩
theorem _root_.L2.PGs.imp {X : Cx} {e : List Expr} {t t' : TGs} (h : PGs X e t) (i : ∀ v σ H Q, t' v σ H Q → t v σ H Q) : PGs X e t' := ⟨fun pins s σ H v u Q I r q => h.run pins s σ H v u Q I r (i v σ H Q q)⟩
theorem _root_.L2.PI.imp {X : Cx} {tg e : Expr} {t t' : TI} (h : PI X tg e t) (i : ∀ σ H R, t' σ H R → t σ H R) : PI X tg e t' := ⟨fun pins s σ H R I q => h.run pins s σ H R I (i σ H R q)⟩
theorem _root_.L2.PO.imp {X : Cx} {e : Option Expr} {t t' : TO} (h : PO X e t) (i : ∀ σ H R, t' σ H R → t σ H R) : PO X e t' := ⟨fun pins s σ H R I q => h.run pins s σ H R I (i σ H R q)⟩

/-- what is fresh may be taken as any value -/
theorem Fresh.rep {x : T} {v : V} {s1 : Sta} (r : Rel K A ρ σ H st) (f : Fresh K A σ H st x ρ' v H' s1) : Rel K A ρ' σ H' s1 ∧ RepT K A ρ' σ H' s1 x v := by
  rcases f with ⟨ds, a, vs, rfl, rfl, n, r', e, q⟩ | ⟨_, r', q⟩
  · refine ⟨r'.weak fun a z => .inl z, a, vs, rfl, .inl ⟨_, e, fun z => ?_, .inl rfl⟩, Reps.keep (Keep.less (fun b z => Ch.mono (fun c y => .inl y) z) fun b z => r'.chH z) q⟩
    rcases z with z | z | z
    · rcases n with n | n
      · obtain ⟨o, e1, _⟩ := r.tr a z
        rw [n] at e1; cases e1
      · obtain ⟨i, d, e1, e2⟩ := n
        obtain ⟨b, e3, nb, _⟩ := r.own i d e1
        rw [e2] at e3; cases e3
        exact nb z
    · obtain ⟨m, xs, e1, e2⟩ := z
      exact (r'.cell m xs e1).1 (.inr e2)
    · obtain ⟨i, d, e1, e2⟩ := z
      obtain ⟨b, e3, nb, _⟩ := r'.own i d e1
      rw [e2] at e3; cases e3
      exact nb (.inr rfl)
  · exact ⟨r', q⟩
theorem tF.toT {X : Cx} {e : Expr} {f : Sta → Out T} (h : PE X e (tF X.K f)) : PE X e (tT X.K f) :=
  h.imp fun σ H Q ⟨A, ρ, st, x, s1, r, ef, q⟩ => ⟨A, ρ, st, x, s1, r, ef, fun ρ' v H' fr fx => q ρ' v H' fr (fx.rep r).1 (fx.rep r).2⟩
/-- a new list of what stands -/
theorem Fresh.new {ds : List D} {vs : List V} {p : Addr} (r : Rel K A ρ σ H st) (hp : H p = none) (q : Reps K ρ st.S.length (Ch A ρ σ st) H ds vs) : Fresh K A σ H st (.v (.lst ds)) ρ (.ref p) (upd H p (.lst vs)) st :=
  .inl ⟨ds, p, vs, rfl, rfl, .inl hp, r.new hp, upd_same, Reps.keep (Keep.new r hp) q⟩
/-- relative to an earlier state -/
theorem Fresh.back {x : T} {v : V} (f : Fr A ρ σ H st ρ' σ H' st') (h : Fresh K A σ H' st' x ρ2 v H2 st2) : Fresh K A σ H st x ρ2 v H2 st2 := by
  rcases h with ⟨ds, a, vs, e1, e2, n, h⟩ | h
  · refine .inl ⟨ds, a, vs, e1, e2, ?_, h⟩
    rcases n with n | n
    · exact .inl (f.free a n)
    · exact (f.own a n).elim .inr .inl
  · exact .inr h

/-! ### leaking -/
theorem getElem?_set' {α : Type} {l : List α} {i j : Nat} {a b : α} (h : (l.set i a)[j]? = some b) : (j = i ∧ b = a) ∨ (j ≠ i ∧ l[j]? = some b) := by
  by_cases e : j = i
  · subst e
    by_cases hl : j < l.length
    · rw [List.getElem?_set_self hl] at h; exact .inl ⟨rfl, (Option.some.inj h).symm⟩
    · rw [List.getElem?_eq_none (by simpa using hl)] at h; cases h
  · rw [List.getElem?_set_ne (fun z => e z.symm)] at h
    exact .inr ⟨e, h⟩
theorem own_set {env : Env} {i : Nat} {d : D} {a : Addr} (h : Own (env.set i (.val d)) σ a) : Own env σ a := by
  obtain ⟨j, e, h1, h2⟩ := h
  rcases getElem?_set' h1 with ⟨_, z⟩ | ⟨_, z⟩
  · cases z
  · exact ⟨j, e, z, h2⟩
/-- a slot's own object is frozen -/
theorem Rel.frozen (r : Rel K A ρ σ H st) {i : Nat} {d : D} (e : st.env[i]? = some (Slot.own d)) : Rel K A ρ σ H { st with env := st.env.set i (.val d) } ∧ ∃ v, σ[i]? = some (some v) ∧ Rep K ρ st.S.length (Ch A ρ σ { st with env := st.env.set i (.val d) }) H d v := by
  have hi : i < st.env.length := (List.getElem?_eq_some_iff.mp e).1
  have kp : Keep ρ st.S.length (Ch A ρ σ st) H ρ st.S.length (Ch A ρ σ { st with env := st.env.set i (.val d) }) H :=
    Keep.less (fun a z => (show Ch A ρ σ st a from z.elim (fun z => Or.inl z) fun z => z.elim (fun z => Or.inr (Or.inl z)) fun z => Or.inr (Or.inr (own_set z)))) fun a z => r.chH z
  obtain ⟨a, e1, na, c⟩ := r.own i d e
  have hrep : Rep K ρ st.S.length (Ch A ρ σ { st with env := st.env.set i (.val d) }) H d (.ref a) := by
    cases d with
    | lst ds =>
      obtain ⟨vs, z, q⟩ := c
      refine ⟨a, vs, rfl, .inl ⟨_, z, fun y => ?_, .inl rfl⟩, Reps.keep kp q⟩
      rcases y with y | y | y
      · exact na y
      · obtain ⟨n, xs, h1, h2⟩ := y
        exact r.oc i _ n xs e h1 (by rw [h2]; exact e1)
      · obtain ⟨j, d', h1, h2⟩ := y
        rcases getElem?_set' h1 with ⟨_, z⟩ | ⟨ne, z⟩
        · cases z
        · exact ne (r.oo j i _ _ a z e h2 e1)
    | _ => exact (show False from c).elim
  refine ⟨⟨by simpa using r.len, fun j d' h => ?_, fun j d' h => ?_, fun n xs h => ?_, r.tr, fun j k d1 d2 b h1 h2 h3 h4 => ?_, r.cc, fun j d' n xs h1 h2 => ?_⟩, .ref a, e1, hrep⟩
  · rcases getElem?_set' h with ⟨z1, z⟩ | ⟨ne, z⟩
    · cases z; subst z1; exact ⟨_, e1, hrep⟩
    · obtain ⟨v, h1, q⟩ := r.val j d' z
      exact ⟨v, h1, Rep.keep kp q⟩
  · rcases getElem?_set' h with ⟨z1, z⟩ | ⟨ne, z⟩
    · cases z
    · obtain ⟨b, h1, nb, c'⟩ := r.own j d' z
      refine ⟨b, h1, nb, ?_⟩
      cases d' with
      | lst ds => obtain ⟨vs, z, q⟩ := c'; exact ⟨vs, z, Reps.keep kp q⟩
      | _ => exact (show False from c').elim
  · obtain ⟨na', vs, z, q⟩ := r.cell n xs h
    exact ⟨na', vs, z, Reps.keep kp q⟩
  · rcases getElem?_set' h1 with ⟨_, z⟩ | ⟨_, z⟩
    · cases z
    · rcases getElem?_set' h2 with ⟨_, z'⟩ | ⟨_, z'⟩
      · cases z'
      · exact r.oo j k d1 d2 b z z' h3 h4
  · rcases getElem?_set' h1 with ⟨_, z⟩ | ⟨_, z⟩
    · cases z
    · exact r.oc j d' n xs z h2
theorem busy_set {env : Env} {i j : Nat} {s : Slot} (hs : s ≠ .busy) (h : (env.set i s)[j]? = some Slot.busy) : j ≠ i ∧ env[j]? = some Slot.busy := by
  rcases getElem?_set' h with ⟨_, z⟩ | z
  · exact absurd z.symm hs
  · exact z
theorem Fr.frozen {i : Nat} {d : D} : Fr A ρ σ H st ρ σ H { st with env := st.env.set i (.val d) } :=
  ⟨fun _ _ => rfl, Nat.le_refl _, fun _ _ e _ _ => e, fun _ e => e, fun _ e => .inl e, fun _ e => .inl (own_set e), fun _ e => ⟨(busy_set (fun z => by cases z) e).2, rfl⟩⟩
theorem leak_ok (r : Rel K A ρ σ H st) {x : T} {v : V} {d : D} {s1 : Sta} (hx : RepT K A ρ σ H st x v) (e : leak x st = .ok d s1) :
    Fr A ρ σ H st ρ σ H s1 ∧ Rel K A ρ σ H s1 ∧ Rep K ρ s1.S.length (Ch A ρ σ s1) H d v := by
  cases x with
  | v d0 => cases e; exact ⟨Fr.refl, r, hx⟩
  | slot i =>
    unfold leak at e
    cases h : st.env[i]? with
    | none => simp [h] at e
    | some s =>
      cases s with
      | no => simp [h] at e
      | busy => simp [h] at e
      | val d0 =>
        simp only [h] at e
        cases e
        obtain ⟨v', e1, q⟩ := r.val i _ h
        have hx' : σ[i]? = some (some v) := hx
        rw [hx'] at e1; cases e1
        exact ⟨Fr.refl, r, q⟩
      | own d0 =>
        simp only [h] at e
        cases e
        obtain ⟨r', v', e1, q⟩ := r.frozen h
        have hx' : σ[i]? = some (some v) := hx
        rw [hx'] at e1; cases e1
        exact ⟨Fr.frozen, r', q⟩
theorem pe_lk {X : Cx} {e : Expr} {f : Sta → Out T} (h : PE X e (tT X.K f)) : PE X e (tD X.K fun st => lk (f st)) :=
  h.imp fun σ H Q ⟨A, ρ, st, d, s2, r, ef, q⟩ => by
    obtain ⟨x, s1, e1, e2⟩ := Out.bind_ok ef
    refine ⟨A, ρ, st, x, s1, r, e1, fun ρ' v H' fr r' hx => ?_⟩
    obtain ⟨f2, r2, h2⟩ := leak_ok r' hx e2
    exact q ρ' v H' (fr.trans f2) r2 h2
end
end Gp

/-! Gp, part D: the operators and built-ins by data. -/
namespace Gp
open PySem L2

theorem line6 : 1000000 ≤ sizeLine := by rw [sizeLine_eq]; decide

section
variable {K : PySem.W.Frag} {A : Addr → Prop} {ρ ρ' : Nat → Addr} {σ : L2.St} {H H' : Hp} {st st' : Sta} {n : Nat} {L : Addr → Prop}

/-! ### data without addresses -/
theorem Fresh.val {d : D} {v : V} (r : Rel K A ρ σ H st) (h : Rep K ρ st.S.length (Ch A ρ σ st) H d v) (hd : ∀ ds, d ≠ .lst ds) : Fresh K A σ H st (.v d) ρ v H st :=
  .inr ⟨fun ds e => hd ds (T.v.inj e), r, h⟩
theorem Seen.int {i : Int} {v : V} (h : Seen K ρ n L H (.int i) v) : v = .int i := h
theorem Seen.lst {ds : List D} {v : V} (h : Seen K ρ n L H (.lst ds) v) : ∃ a vs, v = .ref a ∧ SqL K H a vs ∧ Reps K ρ n L H ds vs := h
theorem Seen.tup {ds : List D} {v : V} (h : Seen K ρ n L H (.tup ds) v) : ∃ a vs, v = .ref a ∧ SqT K H a vs ∧ Reps K ρ n L H ds vs := h
theorem Reps.append : ∀ {ds es : List D} {vs ws : List V}, Reps K ρ n L H ds vs → Reps K ρ n L H es ws → Reps K ρ n L H (ds ++ es) (vs ++ ws)
  | [], _, _, _, h, h' => by rw [show _ = [] from h]; exact h'
  | d :: ds, _, _, _, h, h' => by
    obtain ⟨v, r, rfl, h1, h2⟩ := h
    exact ⟨v, _, rfl, h1, Reps.append h2 h'⟩
theorem Reps.nil : Reps K ρ n L H [] [] := rfl
theorem Reps.get : ∀ {ds : List D} {vs : List V} {i : Nat} {d : D}, Reps K ρ n L H ds vs → ds[i]? = some d → ∃ v, vs[i]? = some v ∧ Rep K ρ n L H d v
  | [], _, _, _, _, e => by simp at e
  | d :: ds, _, 0, _, h, e => by
    obtain ⟨v, r, rfl, h1, h2⟩ := h
    simp at e; subst e
    exact ⟨v, rfl, h1⟩
  | d :: ds, _, i + 1, _, h, e => by
    obtain ⟨v, r, rfl, h1, h2⟩ := h
    obtain ⟨w, e1, e2⟩ := Reps.get (i := i) h2 (by simpa using e)
    exact ⟨w, by simpa using e1, e2⟩
theorem Reps.take : ∀ {ds : List D} {vs : List V} (k : Nat), Reps K ρ n L H ds vs → Reps K ρ n L H (ds.take k) (vs.take k)
  | _, _, 0, _ => rfl
  | [], _, k + 1, h => by rw [show _ = [] from h]; rfl
  | d :: ds, _, k + 1, h => by
    obtain ⟨v, r, rfl, h1, h2⟩ := h
    exact ⟨v, _, rfl, h1, Reps.take k h2⟩
theorem Reps.drop : ∀ {ds : List D} {vs : List V} (k : Nat), Reps K ρ n L H ds vs → Reps K ρ n L H (ds.drop k) (vs.drop k)
  | _, _, 0, h => h
  | [], _, k + 1, h => by rw [show _ = [] from h]; rfl
  | d :: ds, _, k + 1, h => by
    obtain ⟨v, r, rfl, h1, h2⟩ := h
    exact Reps.drop k h2
theorem Reps.reverse {ds : List D} {vs : List V} (h : Reps K ρ n L H ds vs) : Reps K ρ n L H ds.reverse vs.reverse := by
  induction ds generalizing vs with
  | nil => rw [show vs = [] from h]; rfl
  | cons d ds ih =>
    obtain ⟨v, r, rfl, h1, h2⟩ := h
    rw [List.reverse_cons, List.reverse_cons]
    exact (ih h2).append ⟨v, [], rfl, h1, rfl⟩
theorem Reps.flat (k : Nat) {ds : List D} {vs : List V} (h : Reps K ρ n L H ds vs) : Reps K ρ n L H (List.replicate k ds).flatten (List.replicate k vs).flatten := by
  induction k with
  | zero => rfl
  | succ k ih => rw [List.replicate_succ, List.replicate_succ, List.flatten_cons, List.flatten_cons]; exact h.append ih
theorem Reps.set {d : D} {v : V} (h1 : Rep K ρ n L H d v) : ∀ {ds : List D} {vs : List V} (k : Nat), Reps K ρ n L H ds vs → Reps K ρ n L H (ds.set k d) (vs.set k v)
  | [], _, _, h => by rw [show _ = [] from h]; rfl
  | _ :: ds, _, 0, h => by
    obtain ⟨w, r, rfl, _, h2⟩ := h
    exact ⟨v, r, rfl, h1, h2⟩
  | d' :: ds, _, k + 1, h => by
    obtain ⟨w, r, rfl, h3, h2⟩ := h
    exact ⟨w, _, rfl, h3, Reps.set h1 k h2⟩
theorem Reps.erase : ∀ {ds : List D} {vs : List V} (k : Nat), Reps K ρ n L H ds vs → Reps K ρ n L H (ds.eraseIdx k) (vs.eraseIdx k)
  | [], _, _, h => by rw [show _ = [] from h]; rfl
  | _ :: ds, _, 0, h => by
    obtain ⟨w, r, rfl, _, h2⟩ := h
    exact h2
  | d' :: ds, _, k + 1, h => by
    obtain ⟨w, r, rfl, h3, h2⟩ := h
    exact ⟨w, _, rfl, h3, Reps.erase k h2⟩
theorem Reps.ints : ∀ {ds : List D} {vs : List V} {is : List Int}, Reps K ρ n L H ds vs → D.ints ds = some is → vs = is.map V.int
  | [], _, _, h, e => by cases e; exact h
  | d :: ds, _, is, h, e => by
    obtain ⟨v, r, rfl, h1, h2⟩ := h
    cases d with
    | int i =>
      unfold D.ints at e
      cases q : D.ints ds with
      | none => rw [q] at e; cases e
      | some js =>
        rw [q] at e; cases e
        rw [Reps.ints h2 q, show v = .int i from h1]; rfl
    | _ => cases e
theorem Reps.bls : ∀ {ds : List D} {vs : List V} {is : List Bool}, Reps K ρ n L H ds vs → D.bls ds = some is → vs = is.map V.bl
  | [], _, _, h, e => by cases e; exact h
  | d :: ds, _, is, h, e => by
    obtain ⟨v, r, rfl, h1, h2⟩ := h
    cases d with
    | bl i =>
      unfold D.bls at e
      cases q : D.bls ds with
      | none => rw [q] at e; cases e
      | some js =>
        rw [q] at e; cases e
        rw [Reps.bls h2 q, show v = .bl i from h1]; rfl
    | _ => cases e
theorem Reps.range (a b : Int) : Reps K ρ n L H (rangeL a b) (rgV a b) := by
  unfold rangeL rgV
  generalize List.range (b - a).toNat = l
  induction l with
  | nil => rfl
  | cons k l ih => exact ⟨_, _, rfl, rfl, ih⟩
theorem Reps.map_int (ns : List Int) : Reps K ρ n L H (ns.map D.int) (ns.map V.int) := by
  induction ns with
  | nil => rfl
  | cons k l ih => exact ⟨_, _, rfl, rfl, ih⟩

/-! ### two operands -/
/-- what an operator by data asks, F the data's own -/
def rOf (K : PySem.W.Frag) (F : D → D → Option D) : R2 := fun x y H Q => ∃ A ρ σ st d e z, Rel K A ρ σ H st ∧ Seen K ρ st.S.length (Ch A ρ σ st) H d x ∧ Seen K ρ st.S.length (Ch A ρ σ st) H e y ∧ F d e = some z ∧
  ∀ w H', Fr A ρ σ H st ρ σ H' st → Fresh K A σ H st (.v z) ρ w H' st → Q w H'
section
variable {X : Cx}
theorem _root_.L2.OpR.imp {f : Value → Value → Sem Value} {r r' : R2} (h : OpR X f r) (i : ∀ x y H Q, r' x y H Q → r x y H Q) : OpR X f r' := fun pins s σ H x y v u Q I r1 r2 q => h pins s σ H x y v u Q I r1 r2 (i _ _ _ _ q)
theorem _root_.L2.CallR.imp {f : Value} {r r' : List V → Hp → VK → Prop} (h : CallR X f r) (i : ∀ x H Q, r' x H Q → r x H Q) : CallR X f r' := fun pins s σ H xs us Q I r1 q => h pins s σ H xs us Q I r1 (i _ _ _ q)
theorem _root_.L2.IxR.imp {r r' : R2} (h : IxR X r) (i : ∀ x y H Q, r' x y H Q → r x y H Q) : IxR X r' := fun a b pins s σ H x y v u Q I r1 r2 q e => h a b pins s σ H x y v u Q I r1 r2 (i _ _ _ _ q) e
/-- a new value's end -/
theorem fin_val {z : D} {w : V} {Q : VK} (r : Rel K A ρ σ H st) (h : Rep K ρ st.S.length (Ch A ρ σ st) H z w) (hd : ∀ ds, z ≠ .lst ds)
    (q : ∀ w H', Fr A ρ σ H st ρ σ H' st → Fresh K A σ H st (.v z) ρ w H' st → Q w H') : Q w H := q w H Fr.refl (Fresh.val r h hd)
theorem fin_lst {ds : List D} {vs : List V} {Q : VK} (r : Rel K A ρ σ H st) (h : Reps K ρ st.S.length (Ch A ρ σ st) H ds vs)
    (q : ∀ w H', Fr A ρ σ H st ρ σ H' st → Fresh K A σ H st (.v (.lst ds)) ρ w H' st → Q w H') : ∀ p, H p = none → Q (.ref p) (upd H p (.lst vs)) := fun p hp => q _ _ (Fr.laid hp) (Fresh.new r hp h)

theorem fin_tup {ds : List D} {vs : List V} {Q : VK} (r : Rel K A ρ σ H st) (h : Reps K ρ st.S.length (Ch A ρ σ st) H ds vs)
    (q : ∀ w H', Fr A ρ σ H st ρ σ H' st → Fresh K A σ H st (.v (.tup ds)) ρ w H' st → Q w H') : ∀ p, H p = none → Q (.ref p) (upd H p (.tup vs)) := fun p hp =>
  q _ _ (Fr.laid hp) (.inr ⟨(fun _ z => by cases z), r.laid hp, p, vs, rfl, SqT.of upd_same, r.reps (Fr.laid hp) h⟩)

theorem op_catS : OpR X (binaryOp .Add) (fun x y H Q => ∃ l b xs zs, x = .ref l ∧ y = .ref b ∧ SqL X.K H l xs ∧ SqL X.K H b zs ∧ xs.length + zs.length ≤ sizeLine ∧ ∀ p, H p = none → Q (.ref p) (upd H p (.lst (xs ++ zs)))) := by
  intro pins s σ H x y v u Q I rx ry h
  obtain ⟨l, b, xs, zs, rfl, rfl, hH, hB, hz, q⟩ := h
  cases rx
  cases ry
  obtain ⟨its, r, hl, _⟩ := I.list hH
  obtain ⟨its2, r2, hl2, _⟩ := I.list hB
  obtain ⟨⟨cls, dd, data, sl⟩, ho, hc, n, hd⟩ := id hl.isList
  obtain ⟨⟨cls2, dd2, data2, sl2⟩, ho2, hc2, n2, hd2⟩ := id hl2.isList
  simp only at hc hd hc2 hd2
  subst hc hd hc2 hd2
  have e : its.toArray ++ its2.toArray = (its ++ its2).toArray := by simp
  have l1 := r.length
  have l2 := r2.length
  refine concat_meets ⟨_, ho, rfl⟩ ⟨_, ho2, rfl⟩ noFill_list_add seq_list_add PySem.F.slot_list_add PySem.F.entry_list_add (PySem.F.args_list_add_2 _ _)
    (PyProof.Rows.list_addW l b its.toArray its2.toArray n n2 dd dd2 sl sl2 (by rw [List.size_toArray, List.size_toArray]; omega)) ⟨ho, ho2, ?_⟩
  rw [e]
  exact ⟨.ref _, _, I.lnew (t' := s.toks) (r.append r2) (by rw [List.length_append]; omega), rfl, q _ I.fresh⟩
end
end
/-- the operator that a BOp is -/
def BOp.py : BOp → Operator
  | .add => .Add | .sub => .Sub | .mul => .Mult | .fdiv => .FloorDiv | .mod => .Mod | .shl => .LShift | .shr => .RShift | .band => .BitAnd | .bor => .BitOr | .bxor => .BitXor
def COp.py : COp → CmpOp
  | .eq => .Eq | .ne => .NotEq | .lt => .Lt | .le => .LtE | .gt => .Gt | .ge => .GtE | .isn => .Is | .notn => .IsNot | .inn => .In | .notin => .NotIn
section
variable {X : Cx}
def rIntF (f : Int → Int → Option Int) : R2 := fun x y H Q => ∃ i j z, x = .int i ∧ y = .int j ∧ f i j = some z ∧ Q (.int z) H
theorem int_of {f : Value → Value → Sem Value} {C : Int → Int → Prop} {g : Int → Int → Int} {F : Int → Int → Option Int} (h : OpR X f (rI C fun i j => .int (g i j)))
    (hF : ∀ i j z, F i j = some z → C i j ∧ z = g i j) : OpR X f (rIntF F) :=
  h.imp fun x y H Q ⟨i, j, z, e1, e2, e3, q⟩ => by
    obtain ⟨c, rfl⟩ := hF i j z e3
    exact ⟨i, j, e1, e2, c, q⟩
theorem int_of0 {f : Value → Value → Sem Value} {g : Int → Int → Int} {F : Int → Int → Option Int} (h : OpR X f (rI0 fun i j => .int (g i j)))
    (hF : ∀ i j, F i j = some (g i j)) : OpR X f (rIntF F) :=
  h.imp fun x y H Q ⟨i, j, z, e1, e2, e3, q⟩ => by
    rw [hF i j] at e3; cases e3
    exact ⟨i, j, e1, e2, q⟩
theorem ite_some {c : Prop} [Decidable c] {α : Type} {a b : α} (h : (if c then some a else none) = some b) : c ∧ b = a := by
  split at h
  · rename_i hc; exact ⟨hc, (Option.some.inj h).symm⟩
  · cases h
theorem intF_ok : ∀ op : BOp, OpR X (binaryOp op.py) (rIntF (intF op))
  | .add => int_of0 op_add fun _ _ => rfl
  | .sub => int_of0 op_sub fun _ _ => rfl
  | .mul => int_of op_mul fun i j _ h => ite_some (c := bigI i ∨ bigI j) h
  | .fdiv => int_of op_fdiv fun i j _ h => ite_some (c := 0 < j ∧ j < 1073741824) h
  | .mod => int_of op_mod fun _ _ _ h => ite_some h
  | .shl => int_of op_shl fun i j _ h => ite_some (c := 0 ≤ j ∧ j ≤ 1000000 ∧ i.natAbs < 2 ^ 64) h
  | .shr => int_of op_shr fun _ _ _ h => ite_some h
  | .band => int_of0 op_and fun _ _ => rfl
  | .bor => int_of0 op_or fun _ _ => rfl
  | .bxor => int_of0 op_xor fun _ _ => rfl
theorem intFi_ok : ∀ op : BOp, (op = .add ∨ op = .sub ∨ op = .bor) → OpR X (inplaceOp op.py) (rIntF (intF op))
  | .add, _ => int_of0 iop_add fun _ _ => rfl
  | .sub, _ => int_of0 iop_sub fun _ _ => rfl
  | .bor, _ => int_of0 iop_or fun _ _ => rfl
  | .mul, h => by simp at h
  | .fdiv, h => by simp at h
  | .mod, h => by simp at h
  | .shl, h => by simp at h
  | .shr, h => by simp at h
  | .band, h => by simp at h
  | .bxor, h => by simp at h
theorem binF_int {op : BOp} {d e z : D} (h : binF op d e = some z) : (∃ i j k, d = .int i ∧ e = .int j ∧ intF op i j = some k ∧ z = .int k) ∨ ∃ xs ys, op = .add ∧ d = .lst xs ∧ e = .lst ys ∧ xs.length + ys.length ≤ 1000000 ∧ z = .lst (xs ++ ys) := by
  unfold binF at h
  split at h
  · rename_i i j
    cases q : intF op i j with
    | none => rw [q] at h; cases h
    | some k => rw [q] at h; cases h; exact .inl ⟨i, j, k, rfl, rfl, q, rfl⟩
  · obtain ⟨⟨h1, h2⟩, h3⟩ := ite_some h
    exact .inr ⟨_, _, h1, rfl, rfl, h2, h3⟩
  · cases h
theorem bin_ok (op : BOp) : OpR X (binaryOp op.py) (rOf X.K (binF op)) := by
  have key : ∀ (x y : V) (H : Hp) (Q : VK), rOf X.K (binF op) x y H Q → rIntF (intF op) x y H Q ∨ (op = .add ∧ ∃ l b xs zs, x = .ref l ∧ y = .ref b ∧ SqL X.K H l xs ∧ SqL X.K H b zs ∧ xs.length + zs.length ≤ sizeLine ∧ ∀ p, H p = none → Q (.ref p) (upd H p (.lst (xs ++ zs)))) := by
    rintro x y H Q ⟨A, ρ, σ, st, d, e, z, r, s1, s2, hz, q⟩
    rcases binF_int hz with ⟨i, j, k, rfl, rfl, hk, rfl⟩ | ⟨xs, ys, ho, rfl, rfl, hl, rfl⟩
    · exact .inl ⟨i, j, k, s1, s2, hk, fin_val (z := .int k) r (show V.int k = V.int k from rfl) (fun _ z => by cases z) q⟩
    · obtain ⟨a, vs, rfl, h1, h2⟩ := s1
      obtain ⟨b, ws, rfl, h3, h4⟩ := s2
      refine .inr ⟨ho, a, b, vs, ws, rfl, rfl, h1, h3, ?_, fin_lst r (h2.append h4) q⟩
      rw [h2.length, h4.length]
      exact Nat.le_trans hl line6
  by_cases ho : op = .add
  · subst ho
    exact (OpR.or (intF_ok .add) op_catS).imp fun x y H Q h => (key x y H Q h).elim .inl fun z => .inr z.2
  · exact (intF_ok op).imp fun x y H Q h => (key x y H Q h).elim id fun z => absurd z.1 ho

/-! ### comparisons -/
mutual
theorem D.pd_of : ∀ (n : Nat) (d : D), D.deep n d = true → ∃ e, D.pd d = some e ∧ PyData.canLay0 e = true ∧ e.depth ≤ n
  | n, .non, _ => ⟨_, rfl, rfl, Nat.zero_le _⟩
  | n, .bl b, _ => ⟨_, rfl, rfl, Nat.zero_le _⟩
  | n, .int b, _ => ⟨_, rfl, rfl, Nat.zero_le _⟩
  | n, .str b, h => ⟨_, rfl, by cases n <;> exact h, Nat.zero_le _⟩
  | 0, .lst ds, h => by cases h
  | n + 1, .lst ds, h => by
    obtain ⟨es, e1, e2, e3⟩ := D.pds_of n ds h
    exact ⟨.list es, by rw [D.pd, e1]; rfl, e2, by show PyData.depthAll es + 1 ≤ n + 1; omega⟩
  | 0, .tup ds, h => by cases h
  | n + 1, .tup ds, h => by
    obtain ⟨es, e1, e2, e3⟩ := D.pds_of n ds h
    exact ⟨.tuple es, by rw [D.pd, e1]; rfl, e2, by show PyData.depthAll es + 1 ≤ n + 1; omega⟩
  | 0, .loc _, h => by cases h
  | n + 1, .loc _, h => by cases h
theorem D.pds_of : ∀ (n : Nat) (ds : List D), D.deeps n ds = true → ∃ es, D.pds ds = some es ∧ PyData.canLayAll0 es = true ∧ PyData.depthAll es ≤ n
  | n, [], _ => ⟨[], rfl, rfl, Nat.zero_le _⟩
  | n, d :: ds, h => by
    have h' : (D.deep n d && D.deeps n ds) = true := h
    obtain ⟨h1, h2⟩ := Bool.and_eq_true_iff.mp h'
    obtain ⟨e, a1, a2, a3⟩ := D.pd_of n d h1
    obtain ⟨es, b1, b2, b3⟩ := D.pds_of n ds h2
    refine ⟨e :: es, by rw [D.pds, a1, b1], ?_, ?_⟩
    · show (PyData.canLay0 e && PyData.canLayAll0 es) = true
      rw [a2, b2]; rfl
    · show max e.depth (PyData.depthAll es) ≤ n
      omega
end
mutual
theorem D.eqv_pd : ∀ (d e : D) (a b : PyData), D.pd d = some a → D.pd e = some b → D.eqv d e = PyData.eqv a b
  | .loc _, _, _, _, h, _ => by cases h
  | .non, e, a, b, h, h' => by
    cases h
    cases e with
    | lst ds => rw [D.pd] at h'; cases q : D.pds ds with
      | none => rw [q] at h'; cases h'
      | some es => rw [q] at h'; cases h'; rfl
    | tup ds => rw [D.pd] at h'; cases q : D.pds ds with
      | none => rw [q] at h'; cases h'
      | some es => rw [q] at h'; cases h'; rfl
    | loc => cases h'
    | _ => cases h'; rfl
  | .bl _, e, a, b, h, h' => by
    cases h
    cases e with
    | lst ds => rw [D.pd] at h'; cases q : D.pds ds with
      | none => rw [q] at h'; cases h'
      | some es => rw [q] at h'; cases h'; rfl
    | tup ds => rw [D.pd] at h'; cases q : D.pds ds with
      | none => rw [q] at h'; cases h'
      | some es => rw [q] at h'; cases h'; rfl
    | loc => cases h'
    | _ => cases h'; rfl
  | .int _, e, a, b, h, h' => by
    cases h
    cases e with
    | lst ds => rw [D.pd] at h'; cases q : D.pds ds with
      | none => rw [q] at h'; cases h'
      | some es => rw [q] at h'; cases h'; rfl
    | tup ds => rw [D.pd] at h'; cases q : D.pds ds with
      | none => rw [q] at h'; cases h'
      | some es => rw [q] at h'; cases h'; rfl
    | loc => cases h'
    | _ => cases h'; rfl
  | .str _, e, a, b, h, h' => by
    cases h
    cases e with
    | lst ds => rw [D.pd] at h'; cases q : D.pds ds with
      | none => rw [q] at h'; cases h'
      | some es => rw [q] at h'; cases h'; rfl
    | tup ds => rw [D.pd] at h'; cases q : D.pds ds with
      | none => rw [q] at h'; cases h'
      | some es => rw [q] at h'; cases h'; rfl
    | loc => cases h'
    | _ => cases h'; rfl
  | .lst xs, e, a, b, h, h' => by
    rw [D.pd] at h
    cases p : D.pds xs with
    | none => rw [p] at h; cases h
    | some as =>
      rw [p] at h; cases h
      cases e with
      | lst ds => rw [D.pd] at h'; cases q : D.pds ds with
        | none => rw [q] at h'; cases h'
        | some es => rw [q] at h'; cases h'; exact D.eqvs_pd xs ds as es p q
      | tup ds => rw [D.pd] at h'; cases q : D.pds ds with
        | none => rw [q] at h'; cases h'
        | some es => rw [q] at h'; cases h'; rfl
      | loc => cases h'
      | _ => cases h'; rfl
  | .tup xs, e, a, b, h, h' => by
    rw [D.pd] at h
    cases p : D.pds xs with
    | none => rw [p] at h; cases h
    | some as =>
      rw [p] at h; cases h
      cases e with
      | tup ds => rw [D.pd] at h'; cases q : D.pds ds with
        | none => rw [q] at h'; cases h'
        | some es => rw [q] at h'; cases h'; exact D.eqvs_pd xs ds as es p q
      | lst ds => rw [D.pd] at h'; cases q : D.pds ds with
        | none => rw [q] at h'; cases h'
        | some es => rw [q] at h'; cases h'; rfl
      | loc => cases h'
      | _ => cases h'; rfl
theorem D.eqvs_pd : ∀ (d e : List D) (a b : List PyData), D.pds d = some a → D.pds e = some b → D.eqvs d e = PyData.eqvAll a b
  | [], [], _, _, h, h' => by cases h; cases h'; rfl
  | [], d :: ds, _, b, h, h' => by
    cases h
    rw [D.pds] at h'
    split at h' <;> cases h'
    rfl
  | d :: ds, [], _, b, h, h' => by
    cases h'
    rw [D.pds] at h
    split at h <;> cases h
    rfl
  | d :: ds, e :: es, a, b, h, h' => by
    rw [D.pds] at h h'
    split at h <;> cases h
    split at h' <;> cases h'
    rename_i a1 as1 h1 h2 _ _ b1 bs1 h3 h4
    show (D.eqv d e && D.eqvs ds es) = (PyData.eqv a1 b1 && PyData.eqvAll as1 bs1)
    rw [D.eqv_pd d e a1 b1 h1 h3, D.eqvs_pd ds es as1 bs1 h2 h4]
end
section
variable {K : PySem.W.Frag} {A : Addr → Prop} {ρ ρ' : Nat → Addr} {σ : L2.St} {H H' : Hp} {st st' : Sta} {n : Nat} {L : Addr → Prop}
mutual
theorem Rep.dp : ∀ {d : D} {v : V} {e : PyData}, Rep K ρ n L H d v → D.pd d = some e → Dp K H v e
  | .non, _, _, h, h' => by cases h'; rw [show _ = V.non from h]; exact .non
  | .bl b, _, _, h, h' => by cases h'; rw [show _ = V.bl b from h]; exact .bl b
  | .int b, _, _, h, h' => by cases h'; rw [show _ = V.int b from h]; exact .int b
  | .str b, _, _, h, h' => by cases h'; rw [show _ = V.str b from h]; exact .str b
  | .lst ds, _, _, h, h' => by
    obtain ⟨a, vs, rfl, h1, h2⟩ := h
    rw [D.pd] at h'
    cases q : D.pds ds with
    | none => rw [q] at h'; cases h'
    | some es => rw [q] at h'; cases h'; exact .lst h1.sq (Reps.dp h2 q)
  | .tup ds, _, _, h, h' => by
    obtain ⟨a, vs, rfl, h1, h2⟩ := h
    rw [D.pd] at h'
    cases q : D.pds ds with
    | none => rw [q] at h'; cases h'
    | some es => rw [q] at h'; cases h'; exact .tup h1 (Reps.dp h2 q)
  | .loc _, _, _, _, h' => by cases h'
theorem Reps.dp : ∀ {d : List D} {v : List V} {e : List PyData}, Reps K ρ n L H d v → D.pds d = some e → DpAll K H v e
  | [], _, _, h, h' => by cases h'; rw [show _ = [] from h]; exact .nil
  | d :: ds, _, _, h, h' => by
    obtain ⟨v, r, rfl, h1, h2⟩ := h
    rw [D.pds] at h'
    split at h' <;> cases h'
    rename_i e es q1 q2
    exact .cons (Rep.dp h1 q1) (Reps.dp h2 q2)
end
theorem Seen.dp {d : D} {v : V} {e : PyData} (h : Seen K ρ n L H d v) (h' : D.pd d = some e) : Dp K H v e := by
  cases d with
  | lst ds =>
    obtain ⟨a, vs, rfl, h1, h2⟩ := h
    rw [D.pd] at h'
    cases q : D.pds ds with
    | none => rw [q] at h'; cases h'
    | some es => rw [q] at h'; cases h'; exact .lst h1 (Reps.dp h2 q)
  | _ => exact Rep.dp h h'
end
theorem shaped_of {n : Nat} {e : PyData} (h : PyData.canLay0 e = true) (h' : e.depth ≤ n) (hn : n ≤ 64) : SeqAt.shaped e = true := by
  unfold SeqAt.shaped
  rw [h, Bool.true_and]
  exact decide_eq_true (Nat.le_trans h' hn)
theorem isNon_of {K : PySem.W.Frag} {ρ : Nat → Addr} {n : Nat} {L : Addr → Prop} {H : Hp} {d : D} {v : V} (h : Seen K ρ n L H d v) : d.isNon = decide (v = V.non) := by
  cases d with
  | lst ds => obtain ⟨a, vs, rfl, _⟩ := h; simp [D.isNon]
  | tup ds => obtain ⟨a, vs, rfl, _⟩ := h; simp [D.isNon]
  | loc m => obtain ⟨rfl, _⟩ := h; simp [D.isNon]
  | non => rw [show v = V.non from h]; simp [D.isNon]
  | bl b => rw [show v = V.bl b from h]; simp [D.isNon]
  | int b => rw [show v = V.int b from h]; simp [D.isNon]
  | str b => rw [show v = V.str b from h]; simp [D.isNon]
theorem ord_ok {op : CmpOp} {g : Int → Int → Bool} {F : D → D → Option D} (h : OpR X (compareOp op) (rI0 fun i j => .bl (g i j))) (hF : ∀ d e z, F d e = some z → ∃ i j, d = .int i ∧ e = .int j ∧ z = .bl (g i j)) : OpR X (compareOp op) (rOf X.K F) :=
  h.imp fun x y H Q ⟨A, ρ, σ, st, d, e, z, r, s1, s2, hz, q⟩ => by
    obtain ⟨i, j, rfl, rfl, rfl⟩ := hF d e z hz
    exact ⟨i, j, s1, s2, fin_val (z := .bl (g i j)) r (show V.bl _ = V.bl _ from rfl) (fun _ z => by cases z) q⟩
theorem cmp_ord {op : COp} {g : Int → Int → Bool} (h1 : ∀ a b, cmpF op a b = match a, b with | .int i, .int j => (ordF op i j).map .bl | _, _ => none) (h2 : ∀ i j, ordF op i j = some (g i j)) : ∀ d e z, cmpF op d e = some z → ∃ i j, d = .int i ∧ e = .int j ∧ z = .bl (g i j) := by
  intro d e z h
  rw [h1] at h
  split at h
  · rename_i i j
    rw [h2] at h
    cases h
    exact ⟨i, j, rfl, rfl, rfl⟩
  · cases h
theorem cmp_ok (hu : X.A.units + 64 < cLine) : ∀ op : COp, OpR X (compareOp op.py) (rOf X.K (cmpF op))
  | .eq => (op_eqD hu).imp fun x y H Q ⟨A, ρ, σ, st, d, e, z, r, s1, s2, hz, q⟩ => by
    obtain ⟨hd, rfl⟩ := ite_some hz
    obtain ⟨h1, h2⟩ := Bool.and_eq_true_iff.mp hd
    obtain ⟨a, a1, a2, a3⟩ := D.pd_of _ _ h1
    obtain ⟨b, b1, b2, b3⟩ := D.pd_of _ _ h2
    refine ⟨a, b, s1.dp a1, s2.dp b1, shaped_of a2 a3 (by decide), shaped_of b2 b3 (by decide), ?_⟩
    rw [← D.eqv_pd d e a b a1 b1]
    exact fin_val (z := .bl (D.eqv d e)) r (show V.bl _ = V.bl _ from rfl) (fun _ z => by cases z) q
  | .ne => (op_neD hu).imp fun x y H Q ⟨A, ρ, σ, st, d, e, z, r, s1, s2, hz, q⟩ => by
    obtain ⟨hd, rfl⟩ := ite_some hz
    obtain ⟨h1, h2⟩ := Bool.and_eq_true_iff.mp hd
    obtain ⟨a, a1, a2, a3⟩ := D.pd_of _ _ h1
    obtain ⟨b, b1, b2, b3⟩ := D.pd_of _ _ h2
    refine ⟨a, b, s1.dp a1, s2.dp b1, shaped_of a2 a3 (by decide), shaped_of b2 b3 (by decide), ?_⟩
    rw [← D.eqv_pd d e a b a1 b1]
    exact fin_val (z := .bl (!D.eqv d e)) r (show V.bl _ = V.bl _ from rfl) (fun _ z => by cases z) q
  | .lt => ord_ok op_lt (cmp_ord (fun _ _ => rfl) fun _ _ => rfl)
  | .le => ord_ok op_le (cmp_ord (fun _ _ => rfl) fun _ _ => rfl)
  | .gt => ord_ok op_gt (cmp_ord (fun _ _ => rfl) fun _ _ => rfl)
  | .ge => ord_ok op_ge (cmp_ord (fun _ _ => rfl) fun _ _ => rfl)
  | .isn => op_isN.imp fun x y H Q ⟨A, ρ, σ, st, d, e, z, r, s1, s2, hz, q⟩ => by
    obtain ⟨hd, rfl⟩ := ite_some hz
    rw [isNon_of s2] at hd
    refine ⟨of_decide_eq_true hd, ?_⟩
    rw [← isNon_of s1]
    exact fin_val (z := .bl d.isNon) r (show V.bl _ = V.bl _ from rfl) (fun _ z => by cases z) q
  | .notn => op_notN.imp fun x y H Q ⟨A, ρ, σ, st, d, e, z, r, s1, s2, hz, q⟩ => by
    obtain ⟨hd, rfl⟩ := ite_some hz
    rw [isNon_of s2] at hd
    refine ⟨of_decide_eq_true hd, ?_⟩
    rw [← isNon_of s1]
    exact fin_val (z := .bl (!d.isNon)) r (show V.bl _ = V.bl _ from rfl) (fun _ z => by cases z) q
  | .inn => fun pins s σ H x y v u Q I r1 r2 ⟨A, ρ, σ', st, d, e, z, r, s1, s2, hz, q⟩ => by
    cases d <;> cases e <;> cases hz
  | .notin => fun pins s σ H x y v u Q I r1 r2 ⟨A, ρ, σ', st, d, e, z, r, s1, s2, hz, q⟩ => by
    cases d <;> cases e <;> cases hz
theorem place_ixN (n : Nat) (i : Int) : place n i = ixN n i := rfl
theorem sIx_eq (n d : Nat) (o : Option Int) : sIx n d o = HT.sIx n d o := by cases o <;> rfl
/-- what an operator by data asks that makes nothing new -/
def rOfV (K : PySem.W.Frag) (F : D → D → Option D) : R2 := fun x y H Q => ∃ A ρ σ st d e z, Rel K A ρ σ H st ∧ Seen K ρ st.S.length (Ch A ρ σ st) H d x ∧ Seen K ρ st.S.length (Ch A ρ σ st) H e y ∧ F d e = some z ∧
  ∀ w, Rep K ρ st.S.length (Ch A ρ σ st) H z w → Q w H
/-- a subscript -/
theorem item_ok : IxR X (rOfV X.K itemF) := (ix_list.or ix_tup).imp fun x y H Q ⟨A, ρ, σ, st, d, e, z, r, s1, s2, hz, q⟩ => by
  have key : ∀ (ds : List D) (vs : List V) (i : Int), Reps X.K ρ st.S.length (Ch A ρ σ st) H ds vs → (place ds.length i).bind (fun k => ds[k]?) = some z → ∃ w, atI vs i = some w ∧ Rep X.K ρ st.S.length (Ch A ρ σ st) H z w := fun ds vs i hr hz => by
    cases p : place ds.length i with
    | none => rw [p] at hz; cases hz
    | some k =>
      rw [p] at hz
      obtain ⟨w, w1, w2⟩ := hr.get (show ds[k]? = some z from hz)
      refine ⟨w, ?_, w2⟩
      unfold atI
      rw [hr.length, ← place_ixN, p]
      exact w1
  unfold itemF at hz
  split at hz
  · obtain ⟨a, vs, rfl, h1, h2⟩ := s1
    obtain ⟨w, w1, w2⟩ := key _ _ _ h2 hz
    exact .inl ⟨a, vs, _, w, rfl, s2, h1, w1, q w w2⟩
  · obtain ⟨a, vs, rfl, h1, h2⟩ := s1
    obtain ⟨w, w1, w2⟩ := key _ _ _ h2 hz
    exact .inr ⟨a, vs, _, w, rfl, s2, h1, w1, q w w2⟩
  · cases hz
theorem cut_eq {K : PySem.W.Frag} {ρ : Nat → Addr} {n : Nat} {L : Addr → Prop} {H : Hp} {ds : List D} {vs : List V} (h : Reps K ρ n L H ds vs) (lo hi : Option Int) : Reps K ρ n L H (cutD ds lo hi) (cutV vs lo hi) := by
  unfold cutD cutV
  rw [h.length, sIx_eq, sIx_eq]
  exact (h.drop _).take _
/-- a slice -/
theorem cut_ok : SlR X (fun x lo hi H Q => ∃ A ρ σ st d z, Rel X.K A ρ σ H st ∧ Seen X.K ρ st.S.length (Ch A ρ σ st) H d x ∧ cutF d lo hi = some z ∧
    ∀ w H', Fr A ρ σ H st ρ σ H' st → Fresh X.K A σ H st (.v z) ρ w H' st → Q w H') := by
  have h := SlR.or (X := X) sl_list sl_tup
  intro pins s σ0 H x v vl vu lo hi sl Q I rx hs pl pu ⟨A, ρ, σ, st, d, z, r, s1, hz, q⟩
  refine h pins s σ0 H x v vl vu lo hi sl Q I rx hs pl pu ?_
  unfold cutF at hz
  split at hz
  · cases hz
    obtain ⟨a, vs, rfl, h1, h2⟩ := s1
    exact .inl ⟨a, vs, rfl, h1, fin_lst r (cut_eq h2 lo hi) q⟩
  · split at hz
    · cases hz
    · rename_i hn
      cases hz
      obtain ⟨a, vs, rfl, h1, h2⟩ := s1
      refine .inr ⟨a, vs, rfl, h1, ?_, fin_tup r (cut_eq h2 lo hi) q⟩
      rw [h2.length, ← sIx_eq, ← sIx_eq]; exact hn
  · cases hz

/-! ### built-ins of one argument -/
def rOf1 (K : PySem.W.Frag) (F : D → Option D) : List V → Hp → VK → Prop := fun xs H Q => ∃ A ρ σ st d z x, xs = [x] ∧ Rel K A ρ σ H st ∧ Seen K ρ st.S.length (Ch A ρ σ st) H d x ∧ F d = some z ∧
  ∀ w H', Fr A ρ σ H st ρ σ H' st → Fresh K A σ H st (.v z) ρ w H' st → Q w H'
def B1.py : B1 → Str × Value
  | .len => ("len", .builtin "len") | .all => ("all", .builtin "all") | .any => ("any", .builtin "any") | .list => ("list", .type "list") | .sum => ("sum", .builtin "sum") | .int => ("int", .type "int") | .abs => ("abs", .builtin "abs")
theorem omap_some {α β : Type} {o : Option α} {f : α → β} {b : β} (h : o.map f = some b) : ∃ a, o = some a ∧ b = f a := by
  cases o with
  | none => cases h
  | some a => exact ⟨a, rfl, (Option.some.inj h).symm⟩
theorem b1_ok (hc : X.calm = true) : ∀ b : B1, CallR X b.py.2 (rOf1 X.K (b1F b))
  | .len => call_len_seq.imp fun xs H Q ⟨A, ρ, σ, st, d, z, x, e, r, s1, hz, q⟩ => by
    subst e
    cases d <;> cases hz
    · obtain ⟨a, vs, rfl, h1, h2⟩ := s1
      refine ⟨a, vs, rfl, .inl h1, ?_⟩
      rw [h2.length]
      exact fin_val (z := .int _) r (show V.int _ = V.int _ from rfl) (fun _ z => by cases z) q
    · obtain ⟨a, vs, rfl, h1, h2⟩ := s1
      refine ⟨a, vs, rfl, .inr h1, ?_⟩
      rw [h2.length]
      exact fin_val (z := .int _) r (show V.int _ = V.int _ from rfl) (fun _ z => by cases z) q
  | .all => (cr_all hc).imp fun xs H Q ⟨A, ρ, σ, st, d, z, x, e, r, s1, hz, q⟩ => by
    subst e
    cases d with
    | lst ds =>
      obtain ⟨bs, hb, rfl⟩ := omap_some (show (D.bls ds).map _ = some z from hz)
      obtain ⟨a, vs, rfl, h1, h2⟩ := s1
      exact ⟨a, bs, rfl, by rw [← h2.bls hb]; exact h1, fin_val (z := .bl _) r (show V.bl _ = V.bl _ from rfl) (fun _ z => by cases z) q⟩
    | _ => cases hz
  | .any => (cr_any hc).imp fun xs H Q ⟨A, ρ, σ, st, d, z, x, e, r, s1, hz, q⟩ => by
    subst e
    cases d with
    | lst ds =>
      obtain ⟨bs, hb, rfl⟩ := omap_some (show (D.bls ds).map _ = some z from hz)
      obtain ⟨a, vs, rfl, h1, h2⟩ := s1
      exact ⟨a, bs, rfl, by rw [← h2.bls hb]; exact h1, fin_val (z := .bl _) r (show V.bl _ = V.bl _ from rfl) (fun _ z => by cases z) q⟩
    | _ => cases hz
  | .list => call_list_of.imp fun xs H Q ⟨A, ρ, σ, st, d, z, x, e, r, s1, hz, q⟩ => by
    subst e
    cases d <;> cases hz
    · obtain ⟨a, vs, rfl, h1, h2⟩ := s1
      exact ⟨a, vs, rfl, .inl h1, fin_lst r h2 q⟩
    · obtain ⟨a, vs, rfl, h1, h2⟩ := s1
      exact ⟨a, vs, rfl, .inr h1, fin_lst r h2 q⟩
  | .sum => (cr_sum hc).imp fun xs H Q ⟨A, ρ, σ, st, d, z, x, e, r, s1, hz, q⟩ => by
    subst e
    cases d with
    | lst ds =>
      obtain ⟨bs, hb, rfl⟩ := omap_some (show (D.ints ds).map _ = some z from hz)
      obtain ⟨a, vs, rfl, h1, h2⟩ := s1
      exact ⟨a, bs, rfl, by rw [← h2.ints hb]; exact h1, fin_val (z := .int _) r (show V.int _ = V.int _ from rfl) (fun _ z => by cases z) q⟩
    | _ => cases hz
  | .int => call_int1.imp fun xs H Q ⟨A, ρ, σ, st, d, z, x, e, r, s1, hz, q⟩ => by
    subst e
    cases d <;> cases hz
    · rename_i k
      exact .inr ⟨k, by rw [show x = V.bl k from s1], fin_val (z := .int _) r (show V.int _ = V.int _ from rfl) (fun _ z => by cases z) q⟩
    · rename_i k
      exact .inl ⟨k, by rw [show x = V.int k from s1], fin_val (z := .int _) r (show V.int _ = V.int _ from rfl) (fun _ z => by cases z) q⟩
  | .abs => call_abs.imp fun xs H Q ⟨A, ρ, σ, st, d, z, x, e, r, s1, hz, q⟩ => by
    subst e
    cases d <;> cases hz
    rename_i k
    exact ⟨k, by rw [show x = V.int k from s1], fin_val (z := .int _) r (show V.int _ = V.int _ from rfl) (fun _ z => by cases z) q⟩
def rOf2 (K : PySem.W.Frag) (F : D → D → Option D) : List V → Hp → VK → Prop := fun xs H Q => ∃ A ρ σ st d e z x y, xs = [x, y] ∧ Rel K A ρ σ H st ∧ Rep K ρ st.S.length (Ch A ρ σ st) H d x ∧ Rep K ρ st.S.length (Ch A ρ σ st) H e y ∧ F d e = some z ∧
  ∀ w H', Fr A ρ σ H st ρ σ H' st → Fresh K A σ H st (.v z) ρ w H' st → Q w H'
def B2.py : B2 → Str × Value
  | .min => ("min", .builtin "min") | .max => ("max", .builtin "max")
theorem b2_ok (hc : X.calm = true) : ∀ b : B2, CallR X b.py.2 (rOf2 X.K (b2F b))
  | .min => (call_min2 hc).imp fun xs H Q ⟨A, ρ, σ, st, d, e, z, x, y, ee, r, s1, s2, hz, q⟩ => by
    subst ee
    cases d <;> (first | (cases hz; done) | skip) <;> cases e <;> cases hz
    exact ⟨_, _, by rw [show x = V.int _ from s1, show y = V.int _ from s2], fin_val (z := .int _) r (show V.int _ = V.int _ from rfl) (fun _ z => by cases z) q⟩
  | .max => (call_max2 hc).imp fun xs H Q ⟨A, ρ, σ, st, d, e, z, x, y, ee, r, s1, s2, hz, q⟩ => by
    subst ee
    cases d <;> (first | (cases hz; done) | skip) <;> cases e <;> cases hz
    exact ⟨_, _, by rw [show x = V.int _ from s1, show y = V.int _ from s2], fin_val (z := .int _) r (show V.int _ = V.int _ from rfl) (fun _ z => by cases z) q⟩
/-! ### isinstance -/
def Ty.py : Ty → String
  | .int => "int" | .bool => "bool" | .str => "str" | .list => "list" | .tuple => "tuple"
def D.ty : D → Option String
  | .non => some "NoneType"
  | .bl _ => some "bool"
  | .int _ => some "int"
  | .str _ => some "str"
  | .lst _ => some "list"
  | .tup _ => some "tuple"
  | .loc _ => none
theorem isi_kit : ∀ (t : Ty) (d : D) (k : Bool), isiF t d = some k → ∃ y, d.ty = some y ∧ kitB y t.py = some k := by
  intro t d k h
  cases d <;> cases t <;> cases h <;> exact ⟨_, rfl, by decide +kernel⟩
theorem Seen.ty {K : PySem.W.Frag} {ρ : Nat → Addr} {n : Nat} {L : Addr → Prop} {H : Hp} {d : D} {v : V} {y : String} (h : Seen K ρ n L H d v) (e : d.ty = some y) : TyX K H v (.type y) := by
  cases d <;> cases e
  · rw [show v = V.non from h]; exact .base .non
  · rw [show v = V.bl _ from h]; exact .base (.bl _)
  · rw [show v = V.int _ from h]; exact .base (.int _)
  · rw [show v = V.str _ from h]; exact .base (.str _)
  · obtain ⟨a, vs, rfl, (h1 | ⟨o, h1⟩) | ⟨o, its, m, h1, h2, _⟩, _⟩ := h
    · exact .base (.lst h1)
    · exact .base (.frz h1)
    · exact .kList h1 h2
  · obtain ⟨a, vs, rfl, (h1 | ⟨o, h1⟩) | ⟨o, its, m, h1, h2, _⟩, _⟩ := h
    · exact .base (.tup h1)
    · exact .fTuple h1
    · exact .kTuple h1 h2
theorem isi_ok (t : Ty) : CallR X (.builtin "isinstance") (fun xs H Q => ∃ A ρ σ st d k x, xs = [x, .ty t.py] ∧ Rel X.K A ρ σ H st ∧ Seen X.K ρ st.S.length (Ch A ρ σ st) H d x ∧ isiF t d = some k ∧ Q (.bl k) H) :=
  call_isi.imp fun xs H Q ⟨A, ρ, σ, st, d, k, x, e, r, s1, hk, q⟩ => by
    obtain ⟨y, h1, h2⟩ := isi_kit t d k hk
    exact ⟨x, .ty t.py, _, _, k, e, .ty _, s1.ty h1, kit_ty h2, q⟩
end
end Gp

/-! Gp, part E: objects changed; calls; comprehensions. -/
namespace Gp
open PySem L2

section
variable {K : PySem.W.Frag} {A : Addr → Prop} {ρ ρ' : Nat → Addr} {σ : L2.St} {H H' : Hp} {st st' : Sta} {n : Nat} {L : Addr → Prop}

/-- an object that may change is changed -/
theorem Keep.upd {a : Addr} {o : HO} (r : Rel K A ρ σ H st) (ha : Ch A ρ σ st a) (hs : st'.S.length = st.S.length) (hc : ∀ b, Ch A ρ σ st' b → Ch A ρ σ st b) : Keep ρ st.S.length (Ch A ρ σ st) H ρ st'.S.length (Ch A ρ σ st') (upd H a o) where
  rho := fun _ _ => rfl
  sz := Nat.le_of_eq hs.symm
  at_ := fun b u e l => ⟨by rw [upd_ne (fun z => l (by rw [z]; exact ha))]; exact e, fun q => l (hc b q)⟩
  tup := fun b u e l xs => by
    obtain ⟨o', e', q⟩ := r.chH l
    rw [e] at e'; cases e'
    exact q xs
theorem own_set_own {env : Env} {i : Nat} {d d' : D} {a : Addr} (e : env[i]? = some (Slot.own d)) : Own (env.set i (.own d')) σ a ↔ Own env σ a := by
  have hi : i < env.length := (List.getElem?_eq_some_iff.mp e).1
  constructor
  · rintro ⟨j, e', h1, h2⟩
    rcases getElem?_set' h1 with ⟨z1, z⟩ | ⟨_, z⟩
    · subst z1; exact ⟨j, d, e, h2⟩
    · exact ⟨j, e', z, h2⟩
  · rintro ⟨j, e', h1, h2⟩
    by_cases q : j = i
    · subst q; exact ⟨j, d', by rw [List.getElem?_set_self hi], h2⟩
    · exact ⟨j, e', by rw [List.getElem?_set_ne (fun z => q z.symm)]; exact h1, h2⟩
theorem live_set {S : Store} {k : Nat} {xs ys : List D} {a : Addr} (e : S[k]? = some (Cell.lst xs)) : Live ρ (S.set k (.lst ys)) a ↔ Live ρ S a := by
  have hi : k < S.length := (List.getElem?_eq_some_iff.mp e).1
  constructor
  · rintro ⟨j, e', h1, h2⟩
    rcases getElem?_set' h1 with ⟨z1, z⟩ | ⟨_, z⟩
    · subst z1; exact ⟨j, xs, e, h2⟩
    · exact ⟨j, e', z, h2⟩
  · rintro ⟨j, e', h1, h2⟩
    by_cases q : j = k
    · subst q; exact ⟨j, ys, by rw [List.getElem?_set_self hi], h2⟩
    · exact ⟨j, e', by rw [List.getElem?_set_ne (fun z => q z.symm)]; exact h1, h2⟩
theorem Rel.put_own (r : Rel K A ρ σ H st) {i : Nat} {xs ys : List D} {a : Addr} {ws : List V} (e : st.env[i]? = some (Slot.own (.lst xs))) (ea : σ[i]? = some (some (V.ref a)))
    (hw : Reps K ρ st.S.length (Ch A ρ σ st) H ys ws) : Fr A ρ σ H st ρ σ (upd H a (.lst ws)) { st with env := st.env.set i (.own (.lst ys)) } ∧ Rel K A ρ σ (upd H a (.lst ws)) { st with env := st.env.set i (.own (.lst ys)) } := by
  have hi : i < st.env.length := (List.getElem?_eq_some_iff.mp e).1
  have hown : Own st.env σ a := ⟨i, _, e, ea⟩
  have hch : ∀ b, Ch A ρ σ { st with env := st.env.set i (.own (.lst ys)) } b → Ch A ρ σ st b := fun b z => z.elim (fun z => Or.inl z) fun z => z.elim (fun z => Or.inr (Or.inl z)) fun z => Or.inr (Or.inr ((own_set_own e).mp z))
  have kp : Keep ρ st.S.length (Ch A ρ σ st) H ρ st.S.length (Ch A ρ σ { st with env := st.env.set i (.own (.lst ys)) }) (upd H a (.lst ws)) := Keep.upd (st' := { st with env := st.env.set i (.own (.lst ys)) }) r (.inr (.inr hown)) rfl hch
  have hA : ¬ A a := by
    obtain ⟨b, q', nb, _⟩ := r.own i _ e
    rw [ea] at q'; cases q'
    exact nb
  refine ⟨⟨fun _ _ => rfl, Nat.le_refl _, fun b o q h1 h2 => by rw [upd_ne (fun z => h2 (by rw [z]; exact hown))]; exact q, fun b q => ?_, fun b q => .inl q, fun b q => .inl ((own_set_own e).mp q), fun _ z => ⟨(busy_set (fun z => by cases z) z).2, rfl⟩⟩,
    ⟨by simpa using r.len, fun j d h => ?_, fun j d h => ?_, fun m zs h => ?_, fun b hb => ?_, fun j k d1 d2 b h1 h2 h3 h4 => ?_, r.cc, fun j d m zs h1 h2 => ?_⟩⟩
  · by_cases z : b = a
    · subst z; rw [upd_same] at q; cases q
    · rw [upd_ne z] at q; exact q
  · rcases getElem?_set' h with ⟨_, z⟩ | ⟨_, z⟩
    · cases z
    · obtain ⟨v, h1, q⟩ := r.val j d z
      exact ⟨v, h1, Rep.keep kp q⟩
  · rcases getElem?_set' h with ⟨z1, z⟩ | ⟨ne, z⟩
    · cases z; subst z1
      exact ⟨a, ea, hA, ws, upd_same, Reps.keep kp hw⟩
    · obtain ⟨b, h1, nb, c⟩ := r.own j d z
      refine ⟨b, h1, nb, ?_⟩
      have hne : b ≠ a := fun q => ne (r.oo j i _ _ a z e (by rw [← q]; exact h1) ea)
      cases d with
      | lst ds => obtain ⟨vs, z, q⟩ := c; exact ⟨vs, by rw [upd_ne hne]; exact z, Reps.keep kp q⟩
      | _ => exact (show False from c).elim
  · obtain ⟨na, vs, z, q⟩ := r.cell m zs h
    have hne : ρ m ≠ a := fun q => r.oc i _ m zs e h (by rw [q]; exact ea)
    exact ⟨na, vs, by rw [upd_ne hne]; exact z, Reps.keep kp q⟩
  · obtain ⟨o, e1, q⟩ := r.tr b hb
    exact ⟨o, by rw [upd_ne (fun z => hA (by rw [← z]; exact hb))]; exact e1, q⟩
  · have h1' : ∃ d, st.env[j]? = some (Slot.own d) := by
      rcases getElem?_set' h1 with ⟨z1, _⟩ | ⟨_, z⟩
      · subst z1; exact ⟨_, e⟩
      · exact ⟨_, z⟩
    have h2' : ∃ d, st.env[k]? = some (Slot.own d) := by
      rcases getElem?_set' h2 with ⟨z1, _⟩ | ⟨_, z⟩
      · subst z1; exact ⟨_, e⟩
      · exact ⟨_, z⟩
    obtain ⟨d1, h1'⟩ := h1'
    obtain ⟨d2, h2'⟩ := h2'
    exact r.oo j k _ _ b h1' h2' h3 h4
  · have h1' : ∃ d, st.env[j]? = some (Slot.own d) := by
      rcases getElem?_set' h1 with ⟨z1, _⟩ | ⟨_, z⟩
      · subst z1; exact ⟨_, e⟩
      · exact ⟨_, z⟩
    obtain ⟨d1, h1'⟩ := h1'
    exact r.oc j _ m zs h1' h2
theorem Rel.put_cell (r : Rel K A ρ σ H st) {k : Nat} {xs ys : List D} {ws : List V} (e : st.S[k]? = some (Cell.lst xs))
    (hw : Reps K ρ st.S.length (Ch A ρ σ st) H ys ws) : Fr A ρ σ H st ρ σ (upd H (ρ k) (.lst ws)) { st with S := st.S.set k (.lst ys) } ∧ Rel K A ρ σ (upd H (ρ k) (.lst ws)) { st with S := st.S.set k (.lst ys) } := by
  have hlive : Live ρ st.S (ρ k) := ⟨k, xs, e, rfl⟩
  have hch : ∀ b, Ch A ρ σ { st with S := st.S.set k (.lst ys) } b → Ch A ρ σ st b := fun b z => z.elim (fun z => Or.inl z) fun z => z.elim (fun z => Or.inr (Or.inl ((live_set e).mp z))) fun z => Or.inr (Or.inr z)
  have hl : (st.S.set k (.lst ys)).length = st.S.length := List.length_set
  have kp : Keep ρ st.S.length (Ch A ρ σ st) H ρ (st.S.set k (.lst ys)).length (Ch A ρ σ { st with S := st.S.set k (.lst ys) }) (upd H (ρ k) (.lst ws)) := Keep.upd (st' := { st with S := st.S.set k (.lst ys) }) r (.inr (.inl hlive)) hl hch
  have hA : ¬ A (ρ k) := (r.cell k xs e).1
  refine ⟨⟨fun _ _ => rfl, Nat.le_of_eq hl.symm, fun b o q h1 h2 => by rw [upd_ne (fun z => h1 (by rw [z]; exact hlive))]; exact q, fun b q => ?_, fun b q => .inl ((live_set e).mp q), fun b q => .inl q, fun _ z => ⟨z, rfl⟩⟩,
    ⟨r.len, fun j d h => ?_, fun j d h => ?_, fun m zs h => ?_, fun b hb => ?_, r.oo, fun m m' zs zs' h1 h2 h3 => ?_, fun j d m zs h1 h2 => ?_⟩⟩
  · by_cases z : b = ρ k
    · subst z; rw [upd_same] at q; cases q
    · rw [upd_ne z] at q; exact q
  · obtain ⟨v, h1, q⟩ := r.val j d h
    exact ⟨v, h1, Rep.keep kp q⟩
  · obtain ⟨b, h1, nb, c⟩ := r.own j d h
    refine ⟨b, h1, nb, ?_⟩
    have hne : b ≠ ρ k := fun q => r.oc j d k xs h e (by rw [← q]; exact h1)
    cases d with
    | lst ds => obtain ⟨vs, z, q⟩ := c; exact ⟨vs, by rw [upd_ne hne]; exact z, Reps.keep kp q⟩
    | _ => exact (show False from c).elim
  · rcases getElem?_set' h with ⟨z1, z⟩ | ⟨ne, z⟩
    · cases z; subst z1
      exact ⟨hA, ws, upd_same, Reps.keep kp hw⟩
    · obtain ⟨na, vs, z2, q⟩ := r.cell m zs z
      have hne : ρ m ≠ ρ k := fun q => ne (r.cc m k zs xs z e q)
      exact ⟨na, vs, by rw [upd_ne hne]; exact z2, Reps.keep kp q⟩
  · obtain ⟨o, e1, q⟩ := r.tr b hb
    exact ⟨o, by rw [upd_ne (fun z => hA (by rw [← z]; exact hb))]; exact e1, q⟩
  · have h1' : ∃ d, st.S[m]? = some (Cell.lst d) := by
      rcases getElem?_set' h1 with ⟨z1, _⟩ | ⟨_, z⟩
      · subst z1; exact ⟨_, e⟩
      · exact ⟨_, z⟩
    have h2' : ∃ d, st.S[m']? = some (Cell.lst d) := by
      rcases getElem?_set' h2 with ⟨z1, _⟩ | ⟨_, z⟩
      · subst z1; exact ⟨_, e⟩
      · exact ⟨_, z⟩
    obtain ⟨d1, h1'⟩ := h1'
    obtain ⟨d2, h2'⟩ := h2'
    exact r.cc m m' d1 d2 h1' h2' h3
  · have h2' : ∃ d, st.S[m]? = some (Cell.lst d) := by
      rcases getElem?_set' h2 with ⟨z1, _⟩ | ⟨_, z⟩
      · subst z1; exact ⟨_, e⟩
      · exact ⟨_, z⟩
    obtain ⟨d2, h2'⟩ := h2'
    exact r.oc j d m d2 h1 h2'
/-- an object that may be changed: where it stands -/
theorem put_ok (r : Rel K A ρ σ H st) {x : T} {v : V} {xs ys : List D} (hx : RepT K A ρ σ H st x v) (hl : look x st = some (.lst xs)) (hp : put x ys st = some st') :
    ∃ a vs, v = .ref a ∧ H a = some (.lst vs) ∧ Reps K ρ st.S.length (Ch A ρ σ st) H xs vs ∧ ∀ ws, Reps K ρ st.S.length (Ch A ρ σ st) H ys ws →
      Fr A ρ σ H st ρ σ (upd H a (.lst ws)) st' ∧ Rel K A ρ σ (upd H a (.lst ws)) st' := by
  have cell : ∀ k, v = .ref (ρ k) → look (.v (.loc k)) st = some (.lst xs) → put (.v (.loc k)) ys st = some st' → ∃ a vs, v = .ref a ∧ H a = some (.lst vs) ∧ Reps K ρ st.S.length (Ch A ρ σ st) H xs vs ∧ ∀ ws, Reps K ρ st.S.length (Ch A ρ σ st) H ys ws →
      Fr A ρ σ H st ρ σ (upd H a (.lst ws)) st' ∧ Rel K A ρ σ (upd H a (.lst ws)) st' := fun k hv hl hp => by
    unfold look at hl
    unfold put at hp
    simp only at hl hp
    cases e : st.S[k]? with
    | none => rw [e] at hl; cases hl
    | some c =>
      cases c with
      | dead => rw [e] at hl; cases hl
      | lst zs =>
        rw [e] at hl hp
        cases hl
        cases hp
        obtain ⟨_, vs, z, q⟩ := r.cell k xs e
        exact ⟨ρ k, vs, hv, z, q, fun ws hw => r.put_cell e hw⟩
  cases x with
  | v d =>
    cases d with
    | loc k => exact cell k hx.1 hl hp
    | _ => cases hp
  | slot i =>
    cases e : st.env[i]? with
    | none => unfold put at hp; simp only [e] at hp; cases hp
    | some s =>
      cases s with
      | no => unfold put at hp; simp only [e] at hp; cases hp
      | busy => unfold put at hp; simp only [e] at hp; cases hp
      | val d =>
        cases d with
        | loc k =>
          refine cell k ?_ ?_ ?_
          · obtain ⟨v', e1, q, _⟩ := r.val i _ e
            have hx' : σ[i]? = some (some v) := hx
            rw [hx'] at e1; cases e1
            exact q
          · unfold look at hl; simp only [e] at hl; exact hl
          · unfold put at hp; simp only [e] at hp; exact hp
        | _ => unfold put at hp; simp only [e] at hp; cases hp
      | own d =>
        cases d with
        | lst zs =>
          unfold look at hl
          unfold put at hp
          simp only [e] at hl hp
          cases hl
          cases hp
          obtain ⟨a, e1, _, vs, z, q⟩ := r.own i _ e
          have hx' : σ[i]? = some (some v) := hx
          rw [hx'] at e1; cases e1
          exact ⟨a, vs, rfl, z, q, fun ws hw => r.put_own e hx' hw⟩
        | _ => unfold put at hp; simp only [e] at hp; cases hp

/-! ### methods of lists -/
/-- the receiver and the arguments as they lie, and what is wanted behind -/
def rMe (K : PySem.W.Frag) (m : Me) : V → List V → Hp → VK → Prop := fun v vs H Q => ∃ A ρ σ st x ds z s1, Rel K A ρ σ H st ∧ RepT K A ρ σ H st x v ∧ Reps K ρ st.S.length (Ch A ρ σ st) H ds vs ∧ methO m x ds st = .ok z s1 ∧
  ∀ w H', Fr A ρ σ H st ρ σ H' s1 → Rel K A ρ σ H' s1 → RepT K A ρ σ H' s1 z w → Q w H'
def Me.py : Me → Str × String
  | .append => ("append", "list.append") | .pop0 => ("pop", "list.pop") | .pop => ("pop", "list.pop") | .index => ("index", "list.index") | .clear => ("clear", "list.clear")
theorem methO_cases {m : Me} {x : T} {ds : List D} {z : T} {s1 : Sta} (h : methO m x ds st = .ok z s1) : ∃ xs d o, look x st = some (.lst xs) ∧ methF m xs ds = some (d, o) ∧ z = .v d ∧ ((o = none ∧ s1 = st) ∨ ∃ ys, o = some ys ∧ put x ys st = some s1) := by
  unfold methO at h
  split at h
  · rename_i xs hl
    split at h
    · rename_i d hm
      cases h
      exact ⟨xs, d, none, hl, hm, rfl, .inl ⟨rfl, rfl⟩⟩
    · rename_i d ys hm
      split at h
      · rename_i s3 hp
        cases h
        exact ⟨xs, d, some ys, hl, hm, rfl, .inr ⟨ys, rfl, hp⟩⟩
      · cases h
    · cases h
  · cases h
theorem reps1 {d : D} {vs : List V} (h : Reps K ρ n L H [d] vs) : ∃ v, vs = [v] ∧ Rep K ρ n L H d v := by
  obtain ⟨v, r, rfl, h1, h2⟩ := h
  rw [show r = [] from h2]
  exact ⟨v, rfl, h1⟩
theorem idxOf_before (i : Int) : ∀ (is : List Int) (m : Nat) (j : Int), m < is.idxOf i → is[m]? = some j → (j == i) = false
  | [], m, j, h, e => by simp at e
  | x :: xs, m, j, h, e => by
    rw [List.idxOf_cons] at h
    cases q : (x == i) with
    | true => rw [q] at h; exact absurd h (Nat.not_lt_zero _)
    | false =>
      rw [q] at h
      cases m with
      | zero => cases e; exact q
      | succ m => exact idxOf_before i xs m j (Nat.lt_of_succ_lt_succ h) (by simpa using e)
section
variable {X : Cx}
theorem _root_.L2.MtM.imp {id : String} {r r' : V → List V → Hp → VK → Prop} (h : MtM X id r) (i : ∀ x vs H Q, r' x vs H Q → r x vs H Q) : MtM X id r' := fun pins s σ H x xs v us Q I r1 r2 q => h pins s σ H x xs v us Q I r1 r2 (i _ _ _ _ q)
theorem meth_ok : ∀ m : Me, MtR X m.py.2 (rMe X.K m)
  | .append => L2.MtM.imp mt_append fun v vs H Q ⟨A, ρ, σ, st, x, ds, z, s1, r, hx, hd, hm, q⟩ => by
    obtain ⟨xs, d, o, h1, h2, rfl, h3⟩ := methO_cases hm
    replace h2 : mAppend xs ds = some (d, o) := h2
    unfold mAppend at h2
    split at h2
    · rename_i e
      obtain ⟨hl, h2⟩ := ite_some h2
      cases h2
      obtain ⟨h3, _⟩ | ⟨ys, h3, hp⟩ := h3
      · cases h3
      · cases h3
        obtain ⟨w, rfl, hw⟩ := reps1 hd
        obtain ⟨a, vs, rfl, ha, hv, hput⟩ := put_ok r hx h1 hp
        obtain ⟨f, r'⟩ := hput (vs ++ [w]) (hv.append hd)
        refine ⟨a, vs, w, rfl, rfl, ha, ?_, q _ _ f r' (show V.non = V.non from rfl)⟩
        rw [hv.length]
        exact Nat.lt_of_lt_of_le hl line6
    · cases h2
  | .pop0 => L2.MtM.imp mt_pop fun v vs H Q ⟨A, ρ, σ, st, x, ds, z, s1, r, hx, hd, hm, q⟩ => by
    obtain ⟨xs, d, o, h1, h2, rfl, h3⟩ := methO_cases hm
    replace h2 : mPop0 xs ds = some (d, o) := h2
    unfold mPop0 at h2
    split at h2
    · split at h2
      · rename_i y hy
        cases h2
        obtain ⟨h3, _⟩ | ⟨ys, h3, hp⟩ := h3
        · cases h3
        · cases h3
          rw [show vs = [] from hd]
          obtain ⟨a, vs, rfl, ha, hv, hput⟩ := put_ok r hx h1 hp
          obtain ⟨w, w1, w2⟩ := hv.get hy
          obtain ⟨f, r'⟩ := hput vs.dropLast (by rw [List.dropLast_eq_take, List.dropLast_eq_take, hv.length]; exact hv.take _)
          exact ⟨a, vs, w, rfl, rfl, ha, by rw [hv.length]; exact w1, q _ _ f r' (r.rep f w2)⟩
      · cases h2
    · cases h2
  | .pop => L2.MtM.imp mt_popAt fun v vs H Q ⟨A, ρ, σ, st, x, ds, z, s1, r, hx, hd, hm, q⟩ => by
    obtain ⟨xs, d, o, h1, h2, rfl, h3⟩ := methO_cases hm
    replace h2 : mPop xs ds = some (d, o) := h2
    unfold mPop at h2
    split at h2
    · rename_i i
      split at h2
      · rename_i hi
        split at h2
        · rename_i y hy
          cases h2
          obtain ⟨h3, _⟩ | ⟨ys, h3, hp⟩ := h3
          · cases h3
          · cases h3
            obtain ⟨u, rfl, hu⟩ := reps1 hd
            obtain ⟨a, vs, rfl, ha, hv, hput⟩ := put_ok r hx h1 hp
            obtain ⟨w, w1, w2⟩ := hv.get hy
            obtain ⟨f, r'⟩ := hput (vs.eraseIdx i.toNat) (hv.erase _)
            have hlt : i.toNat < vs.length := (List.getElem?_eq_some_iff.mp w1).1
            exact ⟨a, vs, i, i.toNat, w, rfl, by rw [show u = V.int i from hu], ha, by omega, hi.2, PySem.StrLaws.seqIndex_nonneg hi.1 (by omega), w1, q _ _ f r' (r.rep f w2)⟩
        · cases h2
      · cases h2
    · cases h2
  | .clear => L2.MtM.imp mt_clear fun v vs H Q ⟨A, ρ, σ, st, x, ds, z, s1, r, hx, hd, hm, q⟩ => by
    obtain ⟨xs, d, o, h1, h2, rfl, h3⟩ := methO_cases hm
    replace h2 : mClear xs ds = some (d, o) := h2
    unfold mClear at h2
    split at h2
    · cases h2
      obtain ⟨h3, _⟩ | ⟨ys, h3, hp⟩ := h3
      · cases h3
      · cases h3
        rw [show vs = [] from hd]
        obtain ⟨a, vs, rfl, ha, hv, hput⟩ := put_ok r hx h1 hp
        obtain ⟨f, r'⟩ := hput [] rfl
        exact ⟨a, vs, rfl, rfl, ha, q _ _ f r' (show V.non = V.non from rfl)⟩
    · cases h2
  | .index => L2.MtM.imp (X := X) (id := "list.index") (r := rIndex X.K) mt_index fun v vs H Q ⟨A, ρ, σ, st, x, ds, z, s1, r, hx, hd, hm, q⟩ => by
    obtain ⟨xs, d, o, h1, h2, rfl, h3⟩ := methO_cases hm
    replace h2 : mIndex xs ds = some (d, o) := h2
    unfold mIndex at h2
    split at h2
    · rename_i i
      split at h2
      · rename_i is his
        obtain ⟨hi, h2⟩ := ite_some h2
        cases h2
        obtain ⟨_, h3⟩ | ⟨ys, h3, hp⟩ := h3
        · subst h3
          obtain ⟨u, rfl, hu⟩ := reps1 hd
          obtain ⟨a, vs, rfl, ha, hv⟩ := (r.look hx h1).lst
          have ev := hv.ints his
          subst ev
          have hlt : is.idxOf i < is.length := List.idxOf_lt_length_iff.mpr hi
          have hget : is[is.idxOf i]? = some i := by
            rw [List.getElem?_eq_getElem hlt]
            exact congrArg some (List.getElem_idxOf hlt)
          refine ⟨a, is.map V.int, .int i, is.idxOf i, .int i, rfl, by rw [show u = V.int i from hu], ha, rfl, ?_, by rw [List.getElem?_map, hget]; rfl, ?_, fun m z' hm hz => ?_, q _ _ Fr.refl r (show V.int _ = V.int _ from rfl)⟩
          · rw [List.all_map]; exact List.all_eq_true.mpr fun _ _ => rfl
          · show (i == i) = true; exact beq_self_eq_true i
          · rw [List.getElem?_map] at hz
            cases e : is[m]? with
            | none => rw [e] at hz; cases hz
            | some j =>
              rw [e] at hz; cases hz
              show (j == i) = false
              exact idxOf_before i is m j hm e
        · cases h3
      · cases h2
    · cases h2
end
end
end Gp

/-! Gp, part F: defs called, things walked. -/
namespace Gp
open PySem L2

section
variable {K : PySem.W.Frag} {A B : Addr → Prop} {ρ ρ' : Nat → Addr} {σ σ' : L2.St} {H H' : Hp} {st st' : Sta} {n : Nat} {L : Addr → Prop}

/-! ### calls -/
def spF (K : PySem.W.Frag) (F : List D → Store → Option (D × Store)) (np : Nat) (fr : Bool) : Sp := fun vs H Q _ => ∃ A ρ S ds d S', ds.length = np ∧ Rel K A ρ [] H ⟨[], S⟩ ∧ Reps K ρ S.length (Ch A ρ [] ⟨[], S⟩) H ds vs ∧ F ds S = some (d, S') ∧
  ∀ ρ' v H', Fr A ρ [] H ⟨[], S⟩ ρ' [] H' ⟨[], S'⟩ → (if fr = true then Fresh K A [] H ⟨[], S⟩ (.v d) ρ' v H' ⟨[], S'⟩ else Rel K A ρ' [] H' ⟨[], S'⟩ ∧ Rep K ρ' S'.length (Ch A ρ' [] ⟨[], S'⟩) H' d v) → Q v H'
theorem own_nil {σ : L2.St} {a : Addr} : ¬ Own [] σ a := fun ⟨i, d, h, _⟩ => by simp at h
/-- the slots' objects handed over to those around -/
abbrev Hand (A : Addr → Prop) (env : Env) (σ : L2.St) : Addr → Prop := fun a => A a ∨ Own env σ a
theorem ch_hand {ρ : Nat → Addr} {S : Store} {a : Addr} : Ch (Hand A st.env σ) ρ [] ⟨[], S⟩ a ↔ Ch A ρ σ ⟨st.env, S⟩ a := by
  constructor
  · rintro ((h | h) | h | h)
    · exact .inl h
    · exact .inr (.inr h)
    · exact .inr (.inl h)
    · exact (own_nil h).elim
  · rintro (h | h | h)
    · exact .inl (.inl h)
    · exact .inr (.inl h)
    · exact .inl (.inr h)
theorem Rel.drop (r : Rel K A ρ σ H st) : Rel K (Hand A st.env σ) ρ [] H ⟨[], st.S⟩ where
  len := rfl
  val := fun i d e => by simp at e
  own := fun i d e => by simp at e
  cell := fun m xs e => by
    obtain ⟨na, vs, z, q⟩ := r.cell m xs e
    refine ⟨fun z => z.elim na fun ⟨i, d, h1, h2⟩ => r.oc i d m xs h1 e h2, vs, z, Reps.keep (Keep.less (fun a z => ch_hand.mp z) fun a z => r.chH z) q⟩
  tr := fun a ha => r.chH (ha.elim (fun z => Or.inl z) fun z => Or.inr (Or.inr z))
  oo := fun i j d e a h => by simp at h
  cc := r.cc
  oc := fun i d m xs h => by simp at h
/-- from one state of knowledge to a later one that avoids more -/
theorem Rel.keepB (r : Rel K A ρ σ H st) (f : Fr A ρ σ H st ρ' σ' H' st') (hB : ∀ a, B a → A a ∨ H a = none) : Keep ρ st.S.length (Ch A ρ σ st) H ρ' st'.S.length (Ch B ρ' σ' st') H' where
  rho := f.rho
  sz := f.sz
  at_ := fun a o e h => ⟨f.at_ a o e (fun z => h (.inr (.inl z))) fun z => h (.inr (.inr z)), fun q => by
    rcases q with q | q | q
    · exact (hB a q).elim (fun z => h (.inl z)) fun z => by rw [z] at e; cases e
    · exact (f.live a q).elim (fun z => h (.inr (.inl z))) fun z => by rw [z] at e; cases e
    · exact (f.own a q).elim (fun z => h (.inr (.inr z))) fun z => by rw [z] at e; cases e⟩
  tup := fun a o e h xs => by
    obtain ⟨o', e', q⟩ := r.chH h
    rw [e] at e'; cases e'
    exact q xs
/-- behind a call: the slots' objects are taken back -/
theorem Rel.undrop {S' : Store} (r : Rel K A ρ σ H st) (r' : Rel K (Hand B st.env σ) ρ' [] H' ⟨[], S'⟩) (f : Fr (Hand A st.env σ) ρ [] H ⟨[], st.S⟩ ρ' [] H' ⟨[], S'⟩) (hB : ∀ a, B a → A a ∨ H a = none) :
    Fr A ρ σ H st ρ' σ H' ⟨st.env, S'⟩ ∧ Rel K B ρ' σ H' ⟨st.env, S'⟩ := by
  have fr : Fr A ρ σ H st ρ' σ H' ⟨st.env, S'⟩ := ⟨f.rho, f.sz, fun a o e h1 h2 => f.at_ a o e h1 own_nil, f.free, f.live, fun a h => .inl h, fun _ z => ⟨z, rfl⟩⟩
  have kp : Keep ρ st.S.length (Ch A ρ σ st) H ρ' S'.length (Ch B ρ' σ ⟨st.env, S'⟩) H' := r.keepB fr hB
  refine ⟨fr, ⟨r.len, fun i d e => ?_, fun i d e => ?_, fun m xs e => ?_, fun a ha => r'.tr a (.inl ha), r.oo, r'.cc, fun i d m xs h1 h2 h3 => ?_⟩⟩
  · obtain ⟨v, h1, q⟩ := r.val i d e
    exact ⟨v, h1, Rep.keep kp q⟩
  · obtain ⟨a, h1, na, c⟩ := r.own i d e
    cases d with
    | lst ds =>
      obtain ⟨vs, z, q⟩ := c
      refine ⟨a, h1, (fun q => (hB a q).elim na fun y => by rw [y] at z; cases z), vs, f.at_ a _ z (fun ⟨m, xs, e1, e2⟩ => r.oc i _ m xs e e1 (by rw [e2]; exact h1)) own_nil, Reps.keep kp q⟩
    | _ => exact (show False from c).elim
  · obtain ⟨na, vs, z, q⟩ := r'.cell m xs e
    exact ⟨fun z => na (.inl z), vs, z, Reps.keep (Keep.less (fun a z => ch_hand.mpr z) fun a z => r'.chH z) q⟩
  · exact (r'.cell m xs h2).1 (.inr ⟨i, d, h1, h3⟩)
theorem call_ok {F : List D → Store → Option (D × Store)} {np : Nat} {fr : Bool} {ds : List D} {vs : List V} {d : D} {S' : Store} {Q : VK} {E : XK} (r : Rel K A ρ σ H st) (hn : ds.length = np) (hr : Reps K ρ st.S.length (Ch A ρ σ st) H ds vs) (hF : F ds st.S = some (d, S'))
    (q : ∀ ρ' v H', Fr A ρ σ H st ρ' σ H' ⟨st.env, S'⟩ → (if fr = true then Fresh K A σ H st (.v d) ρ' v H' ⟨st.env, S'⟩ else Rel K A ρ' σ H' ⟨st.env, S'⟩ ∧ Rep K ρ' S'.length (Ch A ρ' σ ⟨st.env, S'⟩) H' d v) → Q v H') : spF K F np fr vs H Q E := by
  refine ⟨Hand A st.env σ, ρ, st.S, ds, d, S', hn, r.drop, Reps.keep (Keep.less (fun a z => ch_hand.mp z) fun a z => r.chH z) hr, hF, fun ρ' v H' f h => ?_⟩
  cases fr with
  | false =>
    simp only [Bool.false_eq_true, if_false] at h
    obtain ⟨f', r'⟩ := r.undrop h.1 f fun a z => .inl z
    refine q ρ' v H' f' ?_
    simp only [Bool.false_eq_true, if_false]
    exact ⟨r', Rep.keep (Keep.less (fun a z => ch_hand.mpr z) fun a z => h.1.chH z) h.2⟩
  | true =>
    simp only [if_true] at h
    rcases h with ⟨ds', a, ws, e1, e2, hn, h1, h2, h3⟩ | ⟨h0, h1, h2⟩
    · have hn : H a = none := hn.elim id fun z => (own_nil z).elim
      have h1' : Rel K (Hand (And1 A a) st.env σ) ρ' [] H' ⟨[], S'⟩ := h1.weak fun b z => z.elim (fun z => z.elim (fun z => Or.inl (Or.inl z)) fun z => Or.inr z) fun z => Or.inl (Or.inr z)
      have hB : ∀ b, And1 A a b → A b ∨ H b = none := fun b z => z.elim .inl fun z => by rw [z]; exact .inr hn
      obtain ⟨f', r'⟩ := r.undrop h1' f hB
      refine q ρ' v H' f' ?_
      simp only [if_true]
      exact .inl ⟨ds', a, ws, e1, e2, .inl hn, r', h2, Reps.keep (Keep.less (fun b z => (by
        rcases ch_hand.mpr z with (z | z) | z
        · exact z.elim (fun z => Or.inl (Or.inl (Or.inl z))) fun z => Or.inl (Or.inr z)
        · exact Or.inl (Or.inl (Or.inr z))
        · exact Or.inr z)) fun b z => h1.chH z) h3⟩
    · obtain ⟨f', r'⟩ := r.undrop h1 f fun a z => .inl z
      refine q ρ' v H' f' ?_
      simp only [if_true]
      exact .inr ⟨h0, r', Rep.keep (Keep.less (fun a z => ch_hand.mpr z) fun a z => h1.chH z) h2⟩

/-! ### calls that ask the store nothing -/
/-- the slots' objects that are lent -/
def Bor (ts : List T) (env : Env) (σ : L2.St) (a : Addr) : Prop := ∃ i d, T.slot i ∈ ts ∧ env[i]? = some (Slot.own d) ∧ σ[i]? = some (some (V.ref a))
def Lend (A : Addr → Prop) (ρ : Nat → Addr) (σ : L2.St) (st : Sta) (ts : List T) : Addr → Prop := fun a => Ch A ρ σ st a ∧ ¬ Bor ts st.env σ a
theorem mask_no {S : Store} {m : Nat} {xs : List D} : ¬ (mask S)[m]? = some (Cell.lst xs) := fun h => by
  unfold mask at h
  rw [List.getElem?_map] at h
  cases e : S[m]? with
  | none => rw [e] at h; cases h
  | some c => rw [e] at h; cases h
theorem mask_len (S : Store) : (mask S).length = S.length := List.length_map _
theorem live_mask {S : Store} {a : Addr} : ¬ Live ρ (mask S) a := fun ⟨m, xs, h, _⟩ => mask_no h
theorem Rel.lend (r : Rel K A ρ σ H st) (ts : List T) : Rel K (Lend A ρ σ st ts) ρ [] H ⟨[], mask st.S⟩ where
  len := rfl
  val := fun i d e => by simp at e
  own := fun i d e => by simp at e
  cell := fun m xs e => (mask_no e).elim
  tr := fun a ha => r.chH ha.1
  oo := fun i j d e a h => by simp at h
  cc := fun m m' xs ys h => (mask_no h).elim
  oc := fun i d m xs h => by simp at h
theorem ch_lend {ts : List T} {S : Store} {a : Addr} (h : Ch (Lend A ρ σ st ts) ρ' [] ⟨[], mask S⟩ a) : Lend A ρ σ st ts a := by
  rcases h with h | h | h
  · exact h
  · exact (live_mask h).elim
  · exact (own_nil h).elim
theorem lent_ok (r : Rel K A ρ σ H st) {ts : List T} {t : T} {d : D} {v : V} (ht : t ∈ ts) (hx : RepT K A ρ σ H st t v) (h : lent t st = some d) : Rep K ρ (mask st.S).length (Ch (Lend A ρ σ st ts) ρ [] ⟨[], mask st.S⟩) H d v := by
  have kp : Keep ρ st.S.length (Ch A ρ σ st) H ρ (mask st.S).length (Ch (Lend A ρ σ st ts) ρ [] ⟨[], mask st.S⟩) H := by
    rw [mask_len]
    exact Keep.less (fun a z => (ch_lend z).1) fun a z => r.chH z
  cases t with
  | v d0 => cases h; exact Rep.keep kp hx
  | slot i =>
    unfold lent at h
    cases e : st.env[i]? with
    | none => simp only [e] at h; cases h
    | some s =>
      cases s with
      | no => simp only [e] at h; cases h
      | busy => simp only [e] at h; cases h
      | val d0 =>
        simp only [e] at h; cases h
        obtain ⟨v', e1, q⟩ := r.val i _ e
        have hx' : σ[i]? = some (some v) := hx
        rw [hx'] at e1; cases e1
        exact Rep.keep kp q
      | own d0 =>
        simp only [e] at h; cases h
        obtain ⟨a, e1, na, c⟩ := r.own i _ e
        have hx' : σ[i]? = some (some v) := hx
        rw [hx'] at e1; cases e1
        cases d with
        | lst ds =>
          obtain ⟨vs, z, q⟩ := c
          exact ⟨a, vs, rfl, .inl ⟨_, z, fun y => (ch_lend y).2 ⟨i, _, ht, e, hx'⟩, .inl rfl⟩, Reps.keep kp q⟩
        | _ => exact (show False from c).elim
theorem lents_ok (r : Rel K A ρ σ H st) {ts : List T} : ∀ {us : List T} {ds : List D} {vs : List V}, (∀ t ∈ us, t ∈ ts) → RepTs K A ρ σ H st us vs → lents us st = some ds → Reps K ρ (mask st.S).length (Ch (Lend A ρ σ st ts) ρ [] ⟨[], mask st.S⟩) H ds vs
  | [], _, _, _, hx, h => by cases h; exact hx
  | u :: us, _, _, hs, hx, h => by
    obtain ⟨v, r', rfl, h1, h2⟩ := hx
    unfold lents at h
    split at h
    · rename_i d ds e1 e2
      cases h
      exact ⟨v, r', rfl, lent_ok r (hs u List.mem_cons_self) h1 e1, lents_ok r (fun t ht => hs t (List.mem_cons_of_mem _ ht)) h2 e2⟩
    · cases h
/-- all that is tracked is kept -/
theorem Rel.moved (r : Rel K A ρ σ H st) (kept : ∀ a o, H a = some o → H' a = some o) (rho : ∀ m, m < st.S.length → ρ' m = ρ m) (free : ∀ a, H' a = none → H a = none) (hB : ∀ a, B a → A a ∨ H a = none)
    (trB : ∀ a, B a → ∃ o, H' a = some o ∧ ∀ xs, o ≠ .tup xs ∧ ∀ ob, o ≠ .frz ob (.tup xs)) : Fr A ρ σ H st ρ' σ H' st ∧ Rel K B ρ' σ H' st := by
  have lv : ∀ a, Live ρ' st.S a → Live ρ st.S a := fun a ⟨m, xs, e, h⟩ => ⟨m, xs, e, by rw [← rho m (List.getElem?_eq_some_iff.mp e).1]; exact h⟩
  have fr : Fr A ρ σ H st ρ' σ H' st := ⟨rho, Nat.le_refl _, fun a o e _ _ => kept a o e, free, fun a h => .inl (lv a h), fun a h => .inl h, fun _ z => ⟨z, rfl⟩⟩
  have kp := r.keepB fr hB
  refine ⟨fr, ⟨r.len, fun i d e => ?_, fun i d e => ?_, fun m xs e => ?_, trB, r.oo, fun m m' xs ys h1 h2 h3 => ?_, fun i d m xs h1 h2 h3 => ?_⟩⟩
  · obtain ⟨v, h1, q⟩ := r.val i d e
    exact ⟨v, h1, Rep.keep kp q⟩
  · obtain ⟨a, h1, na, c⟩ := r.own i d e
    cases d with
    | lst ds =>
      obtain ⟨vs, z, q⟩ := c
      exact ⟨a, h1, (fun q => (hB a q).elim na fun y => by rw [y] at z; cases z), vs, kept a _ z, Reps.keep kp q⟩
    | _ => exact (show False from c).elim
  · obtain ⟨na, vs, z, q⟩ := r.cell m xs e
    have hm : ρ' m = ρ m := rho m (List.getElem?_eq_some_iff.mp e).1
    exact ⟨(fun q => by rw [hm] at q; exact (hB _ q).elim na fun y => by rw [y] at z; cases z), vs, by rw [hm]; exact kept _ _ z, Reps.keep kp q⟩
  · exact r.cc m m' xs ys h1 h2 (by rw [← rho m (List.getElem?_eq_some_iff.mp h1).1, ← rho m' (List.getElem?_eq_some_iff.mp h2).1]; exact h3)
  · exact r.oc i d m xs h1 h2 (by rw [← rho m (List.getElem?_eq_some_iff.mp h2).1]; exact h3)
theorem Rep.flat {d : D} {v : V} {ρ1 ρ2 : Nat → Addr} {n1 n2 : Nat} {L1 L2 : Addr → Prop} {H1 H2 : Hp} (hd : d.flat = true) (h : Rep K ρ1 n1 L1 H1 d v) : Rep K ρ2 n2 L2 H2 d v := by
  cases d with
  | lst => cases hd
  | tup => cases hd
  | loc => cases hd
  | _ => exact h
theorem freeze_slot {i : Nat} {env : Env} : freeze (.slot i) env = env ∨ ∃ d, env[i]? = some (Slot.own d) ∧ freeze (.slot i) env = env.set i (.val d) := by
  unfold freeze
  cases e : env[i]? with
  | none => exact .inl (by simp only [e])
  | some s =>
    cases s with
    | no => exact .inl (by simp only [e])
    | busy => exact .inl (by simp only [e])
    | val d => exact .inl (by simp only [e])
    | own d => exact .inr ⟨d, rfl, by simp only [e]⟩
theorem Rel.freezes (ts : List T) : ∀ {env : Env}, Rel K A ρ σ H ⟨env, st.S⟩ → Fr A ρ σ H ⟨env, st.S⟩ ρ σ H ⟨freezes ts env, st.S⟩ ∧ Rel K A ρ σ H ⟨freezes ts env, st.S⟩ := by
  induction ts with
  | nil => intro env r; exact ⟨Fr.refl, r⟩
  | cons t ts ih =>
    intro env r
    have h1 : Fr A ρ σ H ⟨env, st.S⟩ ρ σ H ⟨freeze t env, st.S⟩ ∧ Rel K A ρ σ H ⟨freeze t env, st.S⟩ := by
      cases t with
      | v d => exact ⟨Fr.refl, r⟩
      | slot i =>
        rcases freeze_slot (i := i) (env := env) with e | ⟨d, e, e2⟩
        · rw [e]; exact ⟨Fr.refl, r⟩
        · rw [e2]; exact ⟨Fr.frozen (st := ⟨env, st.S⟩), (r.frozen e).1⟩
    obtain ⟨f2, r2⟩ := ih h1.2
    exact ⟨h1.1.trans f2, r2⟩
theorem freeze_get {t : T} {env : Env} {j : Nat} {d : D} (h : (freeze t env)[j]? = some (Slot.own d)) : env[j]? = some (Slot.own d) ∧ t ≠ .slot j := by
  cases t with
  | v d' => exact ⟨h, fun z => by cases z⟩
  | slot i =>
    unfold freeze at h
    cases e : env[i]? with
    | none => simp only [e] at h; exact ⟨h, fun z => by cases z; rw [e] at h; cases h⟩
    | some s =>
      cases s with
      | no => simp only [e] at h; exact ⟨h, fun z => by cases z; rw [e] at h; cases h⟩
      | busy => simp only [e] at h; exact ⟨h, fun z => by cases z; rw [e] at h; cases h⟩
      | val d' => simp only [e] at h; exact ⟨h, fun z => by cases z; rw [e] at h; cases h⟩
      | own d' =>
        simp only [e] at h
        rcases getElem?_set' h with ⟨_, z⟩ | ⟨ne, z⟩
        · cases z
        · exact ⟨z, fun y => ne (by cases y; rfl)⟩
theorem freezes_get {ts : List T} : ∀ {env : Env} {j : Nat} {d : D}, (freezes ts env)[j]? = some (Slot.own d) → env[j]? = some (Slot.own d) ∧ T.slot j ∉ ts := by
  induction ts with
  | nil => intro env j d h; exact ⟨h, by simp⟩
  | cons t ts ih =>
    intro env j d h
    obtain ⟨h1, h2⟩ := ih (env := freeze t env) h
    obtain ⟨h3, h4⟩ := freeze_get h1
    exact ⟨h3, by simp only [List.mem_cons, not_or]; exact ⟨fun z => h4 z.symm, h2⟩⟩
theorem pcall_ok {F : List D → Store → Option (D × Store)} {np : Nat} {fr : Bool} {ts : List T} {ds : List D} {vs : List V} {d : D} {S' : Store} {Q : VK} {E : XK} (r : Rel K A ρ σ H st) (hl : lents ts st = some ds) (hn : ds.length = np) (hr : RepTs K A ρ σ H st ts vs) (hF : F ds (mask st.S) = some (d, S'))
    (hS : S'.length = st.S.length)
    (q : ∀ ρ' v H' s1, s1 = (if d.flat then st else { st with env := freezes ts st.env }) → Fr A ρ σ H st ρ' σ H' s1 → (if fr = true then Fresh K A σ H st (.v d) ρ' v H' s1 else Rel K A ρ' σ H' s1 ∧ Rep K ρ' s1.S.length (Ch A ρ' σ s1) H' d v) → Q v H') : spF K F np fr vs H Q E := by
  refine ⟨Lend A ρ σ st ts, ρ, mask st.S, ds, d, S', hn, r.lend ts, lents_ok r (fun _ h => h) hr hl, hF, fun ρ' v H' f h => ?_⟩
  have kept : ∀ a o, H a = some o → H' a = some o := fun a o e => f.at_ a o e live_mask own_nil
  have rho : ∀ m, m < st.S.length → ρ' m = ρ m := fun m hm => f.rho m (by show m < (mask st.S).length; rw [mask_len]; exact hm)
  have trA : ∀ a, A a → ∃ o, H' a = some o ∧ ∀ xs, o ≠ .tup xs ∧ ∀ ob, o ≠ .frz ob (.tup xs) := fun a ha => let ⟨o, e, z⟩ := r.tr a ha; ⟨o, kept a o e, z⟩
  -- the state behind, where s1's slots are frozen
  have after : ∀ {B : Addr → Prop}, (∀ a, B a → A a ∨ H a = none) → (∀ a, B a → ∃ o, H' a = some o ∧ ∀ xs, o ≠ .tup xs ∧ ∀ ob, o ≠ .frz ob (.tup xs)) →
      Fr A ρ σ H st ρ' σ H' { st with env := freezes ts st.env } ∧ Rel K B ρ' σ H' { st with env := freezes ts st.env } := fun {B} hB trB => by
    obtain ⟨f1, r1⟩ := r.moved kept rho f.free hB trB
    obtain ⟨f2, r2⟩ := Rel.freezes (st := st) ts (env := st.env) r1
    exact ⟨f1.trans ⟨f2.rho, f2.sz, f2.at_, f2.free, f2.live, f2.own, f2.busy⟩, r2⟩
  have notBor : ∀ a, Ch A ρ' σ { st with env := freezes ts st.env } a → Lend A ρ σ st ts a := fun a z => by
    rcases z with z | z | z
    · refine ⟨.inl z, fun ⟨i, d', _, e1, e2⟩ => ?_⟩
      obtain ⟨b, e3, nb, _⟩ := r.own i _ e1
      rw [e2] at e3; cases e3
      exact nb z
    · obtain ⟨m, xs, e, h⟩ := z
      have hm : ρ' m = ρ m := rho m (List.getElem?_eq_some_iff.mp e).1
      rw [hm] at h
      exact ⟨.inr (.inl ⟨m, xs, e, h⟩), fun ⟨i, d', _, e1, e2⟩ => r.oc i _ m xs e1 e (by rw [h]; exact e2)⟩
    · obtain ⟨j, d', e, h⟩ := z
      obtain ⟨h1, h2⟩ := freezes_get e
      refine ⟨.inr (.inr ⟨j, d', h1, h⟩), fun ⟨i, d2, hm, e1, e2⟩ => h2 ?_⟩
      rw [r.oo j i _ _ a h1 e1 h e2]
      exact hm
  have plain : Rel K (Lend A ρ σ st ts) ρ' [] H' ⟨[], S'⟩ → Rep K ρ' S'.length (Ch (Lend A ρ σ st ts) ρ' [] ⟨[], S'⟩) H' d v → ∃ s1, s1 = (if d.flat then st else { st with env := freezes ts st.env }) ∧ Fr A ρ σ H st ρ' σ H' s1 ∧ Rel K A ρ' σ H' s1 ∧ Rep K ρ' s1.S.length (Ch A ρ' σ s1) H' d v := fun r' h' => by
    cases hf : d.flat with
    | true =>
      obtain ⟨f1, r1⟩ := r.moved (B := A) kept rho f.free (fun a z => .inl z) trA
      exact ⟨st, rfl, f1, r1, Rep.flat hf h'⟩
    | false =>
      obtain ⟨f1, r1⟩ := after (B := A) (fun a z => .inl z) trA
      refine ⟨_, rfl, f1, r1, ?_⟩
      show Rep K ρ' st.S.length (Ch A ρ' σ { st with env := freezes ts st.env }) H' d v
      rw [← hS]
      exact Rep.keep (Keep.less (fun a z => .inl (notBor a z)) fun a z => r'.chH z) h'
  cases fr with
  | false =>
    simp only [Bool.false_eq_true, if_false] at h
    obtain ⟨s1, e, f1, h1, h2⟩ := plain h.1 h.2
    exact q ρ' v H' s1 e f1 (by simp only [Bool.false_eq_true, if_false]; exact ⟨h1, h2⟩)
  | true =>
    simp only [if_true] at h
    rcases h with ⟨ds', a, ws, e1, e2, hn, h1, h2, h3⟩ | ⟨h0, h1, h2⟩
    · have hn : H a = none := hn.elim id fun z => (own_nil z).elim
      have hf : d.flat = false := by cases e1; rfl
      obtain ⟨f1, r1⟩ := after (B := And1 A a) (fun b z => z.elim .inl fun z => by rw [z]; exact .inr hn) (fun b z => z.elim (trA b) fun z => by
        rw [z]; exact ⟨_, h2, fun xs => ⟨(fun z => by cases z), fun ob z => by cases z⟩⟩)
      refine q ρ' v H' { st with env := freezes ts st.env } (by rw [hf]; rfl) f1 ?_
      simp only [if_true]
      refine .inl ⟨ds', a, ws, e1, e2, .inl hn, r1, h2, ?_⟩
      show Reps K ρ' st.S.length (Ch (And1 A a) ρ' σ { st with env := freezes ts st.env }) H' ds' ws
      rw [← hS]
      exact Reps.keep (Keep.less (fun b z => (Ch.and1.mp z).elim (fun z => Or.inl (Or.inl (notBor b z))) fun z => Or.inl (Or.inr z)) fun b z => h1.chH z) h3
    · obtain ⟨s1, e, f1, h3, h4⟩ := plain h1 h2
      exact q ρ' v H' s1 e f1 (by simp only [if_true]; exact .inr ⟨h0, h3, h4⟩)
end
end Gp

/-! Gp, part G: what is walked; comprehensions; loops. -/
namespace Gp
open PySem L2

section
variable {K : PySem.W.Frag} {A B : Addr → Prop} {ρ ρ' ρ2 : Nat → Addr} {σ σ' σ2 : L2.St} {H H' H2 : Hp} {st st' st2 : Sta} {n : Nat} {L : Addr → Prop}

/-- from here on J yields these, whatever happens that the state lets happen -/
def Yields (K : PySem.W.Frag) (A : Addr → Prop) (ρ : Nat → Addr) (σ : L2.St) (H : Hp) (st : Sta) (J : It) (ds : List D) : Prop :=
  ∀ B i ρ' σ' H' st', Fr A ρ σ H st ρ' σ' H' st' → Rel K B ρ' σ' H' st' → (∀ a, B a → A a ∨ H a = none) →
    (∀ d, ds[i]? = some d → J.go i H' ∧ ∀ x H2, J.yld i H' x H2 → Fr B ρ' σ' H' st' ρ' σ' H2 st' ∧ Rel K B ρ' σ' H2 st' ∧ Rep K ρ' st'.S.length (Ch B ρ' σ' st') H2 d x) ∧ (ds.length ≤ i → J.stop i H')
def tI (K : PySem.W.Frag) (f : Sta → Out (List D)) : TI := fun σ H R => ∃ A ρ st ds s1, Rel K A ρ σ H st ∧ f st = .ok ds s1 ∧
  ∀ ρ' J H', Fr A ρ σ H st ρ' σ H' s1 → Rel K A ρ' σ H' s1 → Yields K A ρ' σ H' s1 J ds → R J H'
theorem SqL.keepL {a : Addr} {vs : List V} (r : Rel K A ρ σ H st) (f : Fr A ρ σ H st ρ' σ' H' st') (hB : ∀ b, B b → A b ∨ H b = none) (h : FzL K (Ch A ρ σ st) H a vs) : SqL K H' a vs := ((r.keepB f hB).fz h).sq
theorem yields_list (r : Rel K A ρ σ H st) {ds : List D} {vs : List V} {a : Addr} (h1 : FzL K (Ch A ρ σ st) H a vs) (h2 : Reps K ρ st.S.length (Ch A ρ σ st) H ds vs) : Yields K A ρ σ H st (Itl K a) ds := fun B i ρ' σ' H' st' f r' hB => by
  have hs : SqL K H' a vs := SqL.keepL r f hB h1
  have hr := Reps.keep (r.keepB f hB) h2
  refine ⟨fun d hd => ?_, fun hl => ⟨vs, hs, by rw [h2.length]; exact hl⟩⟩
  obtain ⟨v, e1, e2⟩ := hr.get hd
  exact ⟨⟨vs, v, hs, e1⟩, fun x H2 ⟨e, hx⟩ => by
    subst e
    have := hx vs hs
    rw [e1] at this; cases this
    exact ⟨Fr.refl, r', e2⟩⟩
theorem yields_tup (r : Rel K A ρ σ H st) {ds : List D} {vs : List V} {a : Addr} (h1 : SqT K H a vs) (h2 : Reps K ρ st.S.length (Ch A ρ σ st) H ds vs) : Yields K A ρ σ H st (Itt K a) ds := fun B i ρ' σ' H' st' f r' hB => by
  have hs : SqT K H' a vs := (r.keepB f hB).sqT h1
  have hr := Reps.keep (r.keepB f hB) h2
  refine ⟨fun d hd => ?_, fun hl => ⟨vs, hs, by rw [h2.length]; exact hl⟩⟩
  obtain ⟨v, e1, e2⟩ := hr.get hd
  exact ⟨⟨vs, v, hs, e1⟩, fun x H2 ⟨e, hx⟩ => by
    subst e
    have := hx vs hs
    rw [e1] at this; cases this
    exact ⟨Fr.refl, r', e2⟩⟩
theorem yields_rev (r : Rel K A ρ σ H st) {ds : List D} {vs : List V} {a : Addr} (h1 : FzL K (Ch A ρ σ st) H a vs) (h2 : Reps K ρ st.S.length (Ch A ρ σ st) H ds vs) : Yields K A ρ σ H st (Itv K a vs.length) ds.reverse := fun B i ρ' σ' H' st' f r' hB => by
  have hs : SqL K H' a vs := SqL.keepL r f hB h1
  have hr := Reps.keep (r.keepB f hB) h2
  refine ⟨fun d hd => ?_, fun hl => by show vs.length ≤ i; rw [h2.length, ← List.length_reverse]; exact hl⟩
  have hi : i < ds.length := by
    have := (List.getElem?_eq_some_iff.mp hd).1
    rwa [List.length_reverse] at this
  rw [List.getElem?_reverse hi] at hd
  obtain ⟨v, e1, e2⟩ := hr.get hd
  have e1' : vs[vs.length - 1 - i]? = some v := by rw [h2.length]; exact e1
  exact ⟨⟨by rw [h2.length]; exact hi, vs, v, hs, e1'⟩, fun x H2 ⟨e, hx⟩ => by
    subst e
    have := hx vs hs
    rw [e1'] at this; cases this
    exact ⟨Fr.refl, r', e2⟩⟩
theorem yields_range (lo hi : Int) : Yields K A ρ σ H st (Itr lo (hi - lo).toNat) (rangeL lo hi) := fun B i ρ' σ' H' st' f r' hB => by
  have hl : (rangeL lo hi).length = (hi - lo).toNat := by unfold rangeL; rw [List.length_map, List.length_range]
  refine ⟨fun d hd => ?_, fun h => by show (hi - lo).toNat ≤ i; rw [← hl]; exact h⟩
  have hlt := (List.getElem?_eq_some_iff.mp hd).1
  rw [hl] at hlt
  refine ⟨hlt, fun x H2 ⟨e, hx⟩ => ?_⟩
  subst e
  unfold rangeL at hd
  rw [List.getElem?_map, List.getElem?_range hlt] at hd
  cases hd
  exact ⟨Fr.refl, r', hx⟩
/-- a pair is laid at a turn -/
theorem yield_tup (r : Rel K B ρ σ H st) {T : Addr} {ds : List D} {vs : List V} (hT : H T = none) (hr : Reps K ρ st.S.length (Ch B ρ σ st) H ds vs) : Fr B ρ σ H st ρ σ (upd H T (.tup vs)) st ∧ Rel K B ρ σ (upd H T (.tup vs)) st ∧ Rep K ρ st.S.length (Ch B ρ σ st) (upd H T (.tup vs)) (.tup ds) (.ref T) :=
  ⟨Fr.laid hT, r.laid hT, T, vs, rfl, SqT.of upd_same, r.reps (Fr.laid hT) hr⟩
theorem yields_enum (r : Rel K A ρ σ H st) {ds : List D} {vs : List V} {a : Addr} (h1 : FzL K (Ch A ρ σ st) H a vs) (h2 : Reps K ρ st.S.length (Ch A ρ σ st) H ds vs) :
    Yields K A ρ σ H st (Ite K a) ((List.range ds.length).zipWith (fun (k : Nat) d => .tup [.int k, d]) ds) := fun B i ρ' σ' H' st' f r' hB => by
  have hs : SqL K H' a vs := SqL.keepL r f hB h1
  have hr := Reps.keep (r.keepB f hB) h2
  have hl : ((List.range ds.length).zipWith (fun (k : Nat) d => D.tup [.int k, d]) ds).length = ds.length := by rw [List.length_zipWith, List.length_range, Nat.min_self]
  refine ⟨fun d hd => ?_, fun h => ⟨vs, hs, by rw [h2.length, ← hl]; exact h⟩⟩
  have hlt := (List.getElem?_eq_some_iff.mp hd).1
  rw [hl] at hlt
  rw [List.getElem?_zipWith, List.getElem?_range hlt, List.getElem?_eq_getElem hlt] at hd
  cases hd
  obtain ⟨v, e1, e2⟩ := hr.get (List.getElem?_eq_getElem hlt)
  refine ⟨⟨vs, v, hs, e1⟩, fun x H2 ⟨T, y, ex, hT, eH, hy⟩ => ?_⟩
  subst ex eH
  have := hy vs hs
  rw [e1] at this; cases this
  exact yield_tup r' hT ⟨_, _, rfl, rfl, _, _, rfl, e2, rfl⟩
theorem yields_zip (r : Rel K A ρ σ H st) {ds es : List D} {vs ws : List V} {a b : Addr} (h1 : FzL K (Ch A ρ σ st) H a vs) (h2 : Reps K ρ st.S.length (Ch A ρ σ st) H ds vs) (h3 : FzL K (Ch A ρ σ st) H b ws) (h4 : Reps K ρ st.S.length (Ch A ρ σ st) H es ws) :
    Yields K A ρ σ H st (Itz K a b) (ds.zipWith (fun x y => .tup [x, y]) es) := fun B i ρ' σ' H' st' f r' hB => by
  have hs : SqL K H' a vs := SqL.keepL r f hB h1
  have hs' : SqL K H' b ws := SqL.keepL r f hB h3
  have hr := Reps.keep (r.keepB f hB) h2
  have hr' := Reps.keep (r.keepB f hB) h4
  have hl : (ds.zipWith (fun x y => D.tup [x, y]) es).length = min ds.length es.length := List.length_zipWith ..
  refine ⟨fun d hd => ?_, fun h => ⟨vs, ws, hs, hs', by rw [h2.length, h4.length]; omega⟩⟩
  have hlt := (List.getElem?_eq_some_iff.mp hd).1
  rw [hl] at hlt
  have l1 : i < ds.length := by omega
  have l2 : i < es.length := by omega
  rw [List.getElem?_zipWith, List.getElem?_eq_getElem l1, List.getElem?_eq_getElem l2] at hd
  cases hd
  obtain ⟨v, e1, e2⟩ := hr.get (List.getElem?_eq_getElem l1)
  obtain ⟨w, e3, e4⟩ := hr'.get (List.getElem?_eq_getElem l2)
  refine ⟨⟨vs, ws, v, w, hs, hs', e1, e3⟩, fun x H2 ⟨T, y, z, ex, hT, eH, hy, hz⟩ => ?_⟩
  subst ex eH
  have := hy vs hs
  rw [e1] at this; cases this
  have := hz ws hs'
  rw [e3] at this; cases this
  exact yield_tup r' hT ⟨_, _, rfl, e2, _, _, rfl, e4, rfl⟩

/-! ### targets -/
/-- nothing but these slots is stored -/
def Stored (W : List Nat) (σ σ' : L2.St) : Prop := ∀ i, i ∉ W → σ'[i]? = σ[i]?
def tG (K : PySem.W.Frag) (W : List Nat) (f : D → Sta → Out Unit) : TG := fun v σ H Q => ∃ A ρ st d s1, Rel K A ρ σ H st ∧ Rep K ρ st.S.length (Ch A ρ σ st) H d v ∧ f d st = .ok () s1 ∧
  ∀ ρ' σ' H', Stored W σ σ' → Fr A ρ σ H st ρ' σ' H' s1 → Rel K A ρ' σ' H' s1 → Q σ' H'
def tGs (K : PySem.W.Frag) (W : List Nat) (f : List D → Sta → Out Unit) : TGs := fun v σ H Q => ∃ A ρ st d s1, Rel K A ρ σ H st ∧ Reps K ρ st.S.length (Ch A ρ σ st) H d v ∧ f d st = .ok () s1 ∧
  ∀ ρ' σ' H', Stored W σ σ' → Fr A ρ σ H st ρ' σ' H' s1 → Rel K A ρ' σ' H' s1 → Q σ' H'
theorem own_of_set {env : Env} {i : Nat} {s : Slot} {v : V} {a : Addr} (hs : ∀ d, s ≠ .own d) (h : Own (env.set i s) (σ.set i (some v)) a) : Own env σ a := by
  obtain ⟨j, d, h1, h2⟩ := h
  rcases getElem?_set' h1 with ⟨_, z⟩ | ⟨ne, z⟩
  · exact absurd z.symm (hs d)
  · rcases getElem?_set' h2 with ⟨z1, _⟩ | ⟨_, z2⟩
    · exact absurd z1 ne
    · exact ⟨j, d, z, z2⟩
/-- a name gets a value -/
theorem Rel.setv (r : Rel K A ρ σ H st) {i : Nat} {d : D} {v : V} (h : Rep K ρ st.S.length (Ch A ρ σ st) H d v) (hi : i < st.env.length) : Fr A ρ σ H st ρ (σ.set i (some v)) H (setName i d st) ∧ Rel K A ρ (σ.set i (some v)) H (setName i d st) := by
  have hσ : i < σ.length := by rw [← r.len]; exact hi
  have own : ∀ a, Own (st.env.set i (.val d)) (σ.set i (some v)) a → Own st.env σ a := fun a z => own_of_set (fun d z => by cases z) z
  have kp : Keep ρ st.S.length (Ch A ρ σ st) H ρ st.S.length (Ch A ρ (σ.set i (some v)) (setName i d st)) H :=
    Keep.less (fun a z => (show Ch A ρ σ st a from z.elim (fun z => Or.inl z) fun z => z.elim (fun z => Or.inr (Or.inl z)) fun z => Or.inr (Or.inr (own a z)))) fun a z => r.chH z
  have old : ∀ {j : Nat} {e : D}, (st.env.set i (.val d))[j]? = some (Slot.own e) → st.env[j]? = some (Slot.own e) ∧ ∀ o : Option V, (σ.set i (some v))[j]? = some o → σ[j]? = some o := fun {j e} h => by
    rcases getElem?_set' h with ⟨_, z⟩ | ⟨ne, z⟩
    · cases z
    · exact ⟨z, fun o ho => (getElem?_set' ho).elim (fun y => absurd y.1 ne) fun y => y.2⟩
  refine ⟨⟨fun _ _ => rfl, Nat.le_refl _, fun a o e _ _ => e, fun _ e => e, fun a z => .inl z, fun a z => .inl (own a z), fun j z => by
    obtain ⟨ne, z⟩ := busy_set (fun z => by cases z) (show (st.env.set i (.val d))[j]? = _ from z)
    exact ⟨z, List.getElem?_set_ne (fun y => ne y.symm)⟩⟩,
    ⟨by show (st.env.set i _).length = (σ.set i _).length; rw [List.length_set, List.length_set]; exact r.len, fun j e h' => ?_, fun j e h' => ?_, fun m xs e => ?_, r.tr, fun j k e e' a h1 h2 h3 h4 => ?_, r.cc, fun j e m xs h1 h2 h3 => ?_⟩⟩
  · rcases getElem?_set' h' with ⟨z1, z⟩ | ⟨ne, z⟩
    · cases z; subst z1
      exact ⟨v, by rw [List.getElem?_set_self hσ], Rep.keep kp h⟩
    · obtain ⟨w, h1, q⟩ := r.val j e z
      exact ⟨w, by rw [List.getElem?_set_ne (fun z => ne z.symm)]; exact h1, Rep.keep kp q⟩
  · rcases getElem?_set' h' with ⟨z1, z⟩ | ⟨ne, z⟩
    · cases z
    · obtain ⟨a, h1, na, c⟩ := r.own j e z
      refine ⟨a, by rw [List.getElem?_set_ne (fun z => ne z.symm)]; exact h1, na, ?_⟩
      cases e with
      | lst ds => obtain ⟨vs, z, q⟩ := c; exact ⟨vs, z, Reps.keep kp q⟩
      | _ => exact (show False from c).elim
  · obtain ⟨na, vs, z, q⟩ := r.cell m xs e
    exact ⟨na, vs, z, Reps.keep kp q⟩
  · obtain ⟨o1, l1⟩ := old h1
    obtain ⟨o2, l2⟩ := old h2
    exact r.oo j k _ _ a o1 o2 (l1 _ h3) (l2 _ h4)
  · obtain ⟨o1, l1⟩ := old h1
    exact r.oc j _ m xs o1 h2 (l1 _ h3)
/-- a name gets an object of its own -/
theorem Rel.seto (r : Rel K (And1 A a) ρ σ H st) {i : Nat} {ds : List D} {vs : List V} (ha : ¬ A a) (h : H a = some (.lst vs)) (h' : Reps K ρ st.S.length (Ch (And1 A a) ρ σ st) H ds vs) (hi : i < st.env.length) :
    Rel K A ρ (σ.set i (some (.ref a))) H { st with env := st.env.set i (.own (.lst ds)) } := by
  have hσ : i < σ.length := by rw [← r.len]; exact hi
  have own : ∀ b, Own (st.env.set i (.own (.lst ds))) (σ.set i (some (.ref a))) b → Own st.env σ b ∨ b = a := fun b ⟨j, e, h1, h2⟩ => by
    rcases getElem?_set' h1 with ⟨z1, z⟩ | ⟨ne, z⟩
    · subst z1
      rw [List.getElem?_set_self hσ] at h2
      cases h2; exact .inr rfl
    · rcases getElem?_set' h2 with ⟨z1, _⟩ | ⟨_, z2⟩
      · exact absurd z1 ne
      · exact .inl ⟨j, e, z, z2⟩
  have kp : Keep ρ st.S.length (Ch (And1 A a) ρ σ st) H ρ st.S.length (Ch A ρ (σ.set i (some (.ref a))) { st with env := st.env.set i (.own (.lst ds)) }) H :=
    Keep.less (fun b z => Ch.and1.mpr (z.elim (fun z => Or.inl (Or.inl z)) fun z => z.elim (fun z => Or.inl (Or.inr (Or.inl z))) fun z => (own b z).elim (fun z => Or.inl (Or.inr (Or.inr z))) Or.inr)) fun a z => r.chH z
  have old : ∀ {j : Nat} {e : D}, (st.env.set i (.own (.lst ds)))[j]? = some (Slot.own e) → (j = i) ∨ (st.env[j]? = some (Slot.own e) ∧ ∀ o : Option V, (σ.set i (some (.ref a)))[j]? = some o → σ[j]? = some o) := fun {j e} h => by
    rcases getElem?_set' h with ⟨z, _⟩ | ⟨ne, z⟩
    · exact .inl z
    · exact .inr ⟨z, fun o ho => (getElem?_set' ho).elim (fun y => absurd y.1 ne) fun y => y.2⟩
  have na : ∀ {j : Nat} {e : D}, st.env[j]? = some (Slot.own e) → σ[j]? ≠ some (some (V.ref a)) := fun {j e} h1 h2 => by
    obtain ⟨b, e1, nb, _⟩ := r.own j e h1
    rw [h2] at e1; cases e1
    exact nb (.inr rfl)
  refine ⟨by show (st.env.set i _).length = (σ.set i _).length; rw [List.length_set, List.length_set]; exact r.len, fun j e h' => ?_, fun j e h2 => ?_, fun m xs e => ?_, fun b hb => r.tr b (.inl hb), fun j k e e' b h1 h2 h3 h4 => ?_, r.cc, fun j e m xs h1 h2 h3 => ?_⟩
  · rcases getElem?_set' h' with ⟨z1, z⟩ | ⟨ne, z⟩
    · cases z
    · obtain ⟨w, h1, q⟩ := r.val j e z
      exact ⟨w, by rw [List.getElem?_set_ne (fun z => ne z.symm)]; exact h1, Rep.keep kp q⟩
  · rcases getElem?_set' h2 with ⟨z1, z⟩ | ⟨ne, z⟩
    · cases z; subst z1
      exact ⟨a, by rw [List.getElem?_set_self hσ], ha, vs, h, Reps.keep kp h'⟩
    · obtain ⟨b, h1, nb, c⟩ := r.own j e z
      refine ⟨b, by rw [List.getElem?_set_ne (fun z => ne z.symm)]; exact h1, fun z => nb (.inl z), ?_⟩
      cases e with
      | lst ds => obtain ⟨vs, z, q⟩ := c; exact ⟨vs, z, Reps.keep kp q⟩
      | _ => exact (show False from c).elim
  · obtain ⟨nb, ws, z, q⟩ := r.cell m xs e
    exact ⟨fun z => nb (.inl z), ws, z, Reps.keep kp q⟩
  · rcases old h1 with o1 | ⟨o1, l1⟩
    · rcases old h2 with o2 | ⟨o2, l2⟩
      · rw [o1, o2]
      · subst o1
        rw [List.getElem?_set_self hσ] at h3
        cases h3
        exact absurd (l2 _ h4) (na o2)
    · rcases old h2 with o2 | ⟨o2, l2⟩
      · subst o2
        rw [List.getElem?_set_self hσ] at h4
        cases h4
        exact absurd (l1 _ h3) (na o1)
      · exact r.oo j k _ _ b o1 o2 (l1 _ h3) (l2 _ h4)
  · rcases old h1 with o1 | ⟨o1, l1⟩
    · subst o1
      rw [List.getElem?_set_self hσ] at h3
      have : a = ρ m := by cases h3; rfl
      exact (r.cell m xs h2).1 (.inr this.symm)
    · exact r.oc j _ m xs o1 h2 (l1 _ h3)

/-! ### a comprehension's own names -/
theorem wipe_get (σ : L2.St) : ∀ (own : List Nat) (j : Nat), (wipe σ own)[j]? = if j ∈ own then (if j < σ.length then some none else none) else σ[j]?
  | [], j => by simp [wipe]
  | i :: own, j => by
    rw [wipe, List.getElem?_set, wipe_length, wipe_get σ own j]
    by_cases e : i = j
    · subst e
      simp
    · have e' : j ≠ i := fun z => e z.symm
      simp [e, e']
theorem wipeE_get (env : Env) : ∀ (own : List Nat) (j : Nat), (wipeE env own)[j]? = if j ∈ own then (if j < env.length then some .no else none) else env[j]?
  | [], j => by simp [wipeE]
  | i :: own, j => by
    have ih := wipeE_get env own j
    have hl : (wipeE env own).length = env.length := wipeE_len env own
    show ((wipeE env own).set i .no)[j]? = _
    rw [List.getElem?_set, hl, ih]
    by_cases e : i = j
    · subst e
      simp
    · have e' : j ≠ i := fun z => e z.symm
      simp [e, e']
where
  wipeE_len (env : Env) : ∀ own : List Nat, (wipeE env own).length = env.length
    | [] => rfl
    | i :: own => by
      show ((wipeE env own).set i .no).length = _
      rw [List.length_set]; exact wipeE_len env own
theorem unwipe_get (old env : Env) : ∀ (own : List Nat) (j : Nat), (unwipe old env own)[j]? = if j ∈ own then (if j < env.length then some (unSlot old j) else none) else env[j]?
  | [], j => by simp [unwipe]
  | i :: own, j => by
    have ih := unwipe_get old env own j
    have hl : (unwipe old env own).length = env.length := unwipe_len old env own
    show ((unwipe old env own).set i (unSlot old i))[j]? = _
    rw [List.getElem?_set, hl, ih]
    by_cases e : i = j
    · subst e
      simp
    · have e' : j ≠ i := fun z => e z.symm
      simp [e, e']
where
  unwipe_len (old env : Env) : ∀ own : List Nat, (unwipe old env own).length = env.length
    | [] => rfl
    | i :: own => by
      show ((unwipe old env own).set i _).length = _
      rw [List.length_set]; exact unwipe_len old env own
theorem wipe_stored {own W : List Nat} (h : Stored W σ σ') (hW : ∀ i ∈ W, i ∈ own) (hl : σ'.length = σ.length) : wipe σ' own = wipe σ own := by
  refine List.ext_getElem? fun j => ?_
  rw [wipe_get, wipe_get, hl]
  by_cases e : j ∈ own
  · simp [e]
  · simp only [e, if_false]
    exact h j fun z => e (hW j z)
abbrev Sta.wiped (st : Sta) (own : List Nat) : Sta := { st with env := wipeE st.env own }
theorem own_wiped {own : List Nat} {a : Addr} (h : Own (wipeE st.env own) (wipe σ own) a) : Own st.env σ a := by
  obtain ⟨j, d, h1, h2⟩ := h
  rw [wipeE_get] at h1
  rw [wipe_get] at h2
  by_cases e : j ∈ own
  · rw [if_pos e] at h1; split at h1 <;> cases h1
  · rw [if_neg e] at h1 h2
    exact ⟨j, d, h1, h2⟩
theorem Rel.wiped (r : Rel K A ρ σ H st) (own : List Nat) : Fr A ρ σ H st ρ (wipe σ own) H (st.wiped own) ∧ Rel K A ρ (wipe σ own) H (st.wiped own) := by
  have kp : Keep ρ st.S.length (Ch A ρ σ st) H ρ st.S.length (Ch A ρ (wipe σ own) (st.wiped own)) H :=
    Keep.less (fun a z => (show Ch A ρ σ st a from z.elim (fun z => Or.inl z) fun z => z.elim (fun z => Or.inr (Or.inl z)) fun z => Or.inr (Or.inr (own_wiped z)))) fun a z => r.chH z
  have old : ∀ {j : Nat} {s : Slot}, (wipeE st.env own)[j]? = some s → s ≠ .no → j ∉ own ∧ st.env[j]? = some s := fun {j s} h hs => by
    rw [wipeE_get] at h
    by_cases e : j ∈ own
    · rw [if_pos e] at h; split at h
      · cases h; exact absurd rfl hs
      · cases h
    · rw [if_neg e] at h; exact ⟨e, h⟩
  have sg : ∀ {j : Nat}, j ∉ own → (wipe σ own)[j]? = σ[j]? := fun {j} h => by rw [wipe_get, if_neg h]
  refine ⟨⟨fun _ _ => rfl, Nat.le_refl _, fun a o e _ _ => e, fun _ e => e, fun a z => .inl z, fun a z => .inl (own_wiped z), fun j z => by
    obtain ⟨h0, h1⟩ := old z (fun z => by cases z)
    exact ⟨h1, sg h0⟩⟩,
    ⟨by show (wipeE st.env own).length = (wipe σ own).length; rw [wipeE_get.wipeE_len, wipe_length]; exact r.len, fun j d h => ?_, fun j d h => ?_, fun m xs e => ?_, r.tr, fun j k d e a h1 h2 h3 h4 => ?_, r.cc, fun j d m xs h1 h2 h3 => ?_⟩⟩
  · obtain ⟨h0, h1⟩ := old h (fun z => by cases z)
    obtain ⟨v, h2, q⟩ := r.val j d h1
    exact ⟨v, by rw [sg h0]; exact h2, Rep.keep kp q⟩
  · obtain ⟨h0, h1⟩ := old h (fun z => by cases z)
    obtain ⟨a, h2, na, c⟩ := r.own j d h1
    refine ⟨a, by rw [sg h0]; exact h2, na, ?_⟩
    cases d with
    | lst ds => obtain ⟨vs, z, q⟩ := c; exact ⟨vs, z, Reps.keep kp q⟩
    | _ => exact (show False from c).elim
  · obtain ⟨na, vs, z, q⟩ := r.cell m xs e
    exact ⟨na, vs, z, Reps.keep kp q⟩
  · obtain ⟨o1, l1⟩ := old h1 (fun z => by cases z)
    obtain ⟨o2, l2⟩ := old h2 (fun z => by cases z)
    rw [sg o1] at h3
    rw [sg o2] at h4
    exact r.oo j k d e a l1 l2 h3 h4
  · obtain ⟨o1, l1⟩ := old h1 (fun z => by cases z)
    rw [sg o1] at h3
    exact r.oc j d m xs l1 h2 h3
/-- the state behind a comprehension -/
theorem Rel.unwiped {own : List Nat} {st0 : Sta} (r0 : Rel K A ρ σ H st0) (r : Rel K B ρ' (wipe σ own) H' (st.wiped own)) (f : Fr A ρ σ H st0 ρ' (wipe σ own) H' (st.wiped own)) (hB : ∀ a, B a → A a ∨ H a = none) :
    Fr A ρ σ H st0 ρ' σ H' { st with env := unwipe st0.env st.env own } ∧ Rel K B ρ' σ H' { st with env := unwipe st0.env st.env own } ∧ ∀ a, Ch B ρ' σ { st with env := unwipe st0.env st.env own } a → Ch B ρ' (wipe σ own) (st.wiped own) a := by
  have hlen : st.env.length = σ.length := by
    have := r.len
    rw [show (st.wiped own).env = wipeE st.env own from rfl, wipeE_get.wipeE_len, wipe_length] at this
    exact this
  have old : ∀ {j : Nat} {s : Slot}, (unwipe st0.env st.env own)[j]? = some s → (j ∈ own ∧ s = unSlot st0.env j) ∨ (j ∉ own ∧ (wipeE st.env own)[j]? = some s) := fun {j s} h => by
    rw [unwipe_get] at h
    by_cases e : j ∈ own
    · rw [if_pos e] at h; split at h
      · cases h; exact .inl ⟨e, rfl⟩
      · cases h
    · rw [if_neg e] at h; exact .inr ⟨e, by rw [wipeE_get, if_neg e]; exact h⟩
  have noown : ∀ {j : Nat} {d : D}, (unwipe st0.env st.env own)[j]? = some (Slot.own d) → j ∉ own ∧ (wipeE st.env own)[j]? = some (Slot.own d) := fun {j d} h => by
    rcases old h with ⟨_, z⟩ | z
    · unfold unSlot at z; split at z <;> cases z
    · exact z
  have sg : ∀ {j : Nat}, j ∉ own → (wipe σ own)[j]? = σ[j]? := fun {j} h => by rw [wipe_get, if_neg h]
  have ow : ∀ a, Own (unwipe st0.env st.env own) σ a → Own (wipeE st.env own) (wipe σ own) a := fun a ⟨j, d, h1, h2⟩ => by
    obtain ⟨h0, h1⟩ := noown h1
    exact ⟨j, d, h1, by rw [sg h0]; exact h2⟩
  have hch : ∀ a, Ch B ρ' σ { st with env := unwipe st0.env st.env own } a → Ch B ρ' (wipe σ own) (st.wiped own) a := fun a z => z.elim (fun z => Or.inl z) fun z => z.elim (fun z => Or.inr (Or.inl z)) fun z => Or.inr (Or.inr (ow a z))
  have kp : Keep ρ' st.S.length (Ch B ρ' (wipe σ own) (st.wiped own)) H' ρ' st.S.length (Ch B ρ' σ { st with env := unwipe st0.env st.env own }) H' := Keep.less hch fun a z => r.chH z
  have fr : Fr A ρ σ H st0 ρ' σ H' { st with env := unwipe st0.env st.env own } := ⟨f.rho, f.sz, f.at_, f.free, f.live, fun a z => f.own a (ow a z), fun j z => by
    rcases old z with ⟨_, z⟩ | ⟨h0, z⟩
    · unfold unSlot at z; split at z <;> cases z
    · exact ⟨(f.busy j z).1, rfl⟩⟩
  have kp0 := r0.keepB fr hB
  refine ⟨fr, ⟨by show (unwipe st0.env st.env own).length = σ.length; rw [unwipe_get.unwipe_len]; exact hlen, fun j d h => ?_, fun j d h => ?_, fun m xs e => ?_, r.tr, fun j k d e a h1 h2 h3 h4 => ?_, r.cc, fun j d m xs h1 h2 h3 => ?_⟩, hch⟩
  · rcases old h with ⟨h0, z⟩ | ⟨h0, z⟩
    · unfold unSlot at z
      split at z
      · rename_i d' e
        cases z
        obtain ⟨v, h2, q⟩ := r0.val j d e
        exact ⟨v, h2, Rep.keep kp0 q⟩
      · cases z
    · obtain ⟨v, h2, q⟩ := r.val j d z
      exact ⟨v, by rw [← sg h0]; exact h2, Rep.keep kp q⟩
  · obtain ⟨h0, z⟩ := noown h
    obtain ⟨a, h2, na, c⟩ := r.own j d z
    refine ⟨a, by rw [← sg h0]; exact h2, na, ?_⟩
    cases d with
    | lst ds => obtain ⟨vs, z, q⟩ := c; exact ⟨vs, z, Reps.keep kp q⟩
    | _ => exact (show False from c).elim
  · obtain ⟨na, vs, z, q⟩ := r.cell m xs e
    exact ⟨na, vs, z, Reps.keep kp q⟩
  · obtain ⟨o1, l1⟩ := noown h1
    obtain ⟨o2, l2⟩ := noown h2
    exact r.oo j k d e a l1 l2 (by rw [sg o1]; exact h3) (by rw [sg o2]; exact h4)
  · obtain ⟨o1, l1⟩ := noown h1
    exact r.oc j d m xs l1 h2 (by rw [sg o1]; exact h3)
/-- a list that the state avoids is changed -/
theorem Keep.updA {p : Addr} {o : HO} (r : Rel K A ρ σ H st) (hp : A p) : Keep ρ st.S.length (Ch A ρ σ st) H ρ st.S.length (Ch A ρ σ st) (L2.upd H p o) := Keep.upd r (.inl hp) rfl fun _ z => z
theorem Rel.updA (r : Rel K A ρ σ H st) {p : Addr} {ws : List V} (hp : A p) : Rel K A ρ σ (upd H p (.lst ws)) st where
  len := r.len
  val := fun i d e => by
    obtain ⟨v, e1, q⟩ := r.val i d e
    exact ⟨v, e1, Rep.keep (Keep.updA r hp) q⟩
  own := fun i d e => by
    obtain ⟨a, e1, na, c⟩ := r.own i d e
    refine ⟨a, e1, na, ?_⟩
    cases d with
    | lst ds => obtain ⟨vs, z, q⟩ := c; exact ⟨vs, by rw [upd_ne (fun y => na (by rw [y]; exact hp))]; exact z, Reps.keep (Keep.updA r hp) q⟩
    | _ => exact (show False from c).elim
  cell := fun m xs e => by
    obtain ⟨na, vs, z, q⟩ := r.cell m xs e
    exact ⟨na, vs, by rw [upd_ne (fun y => na (by rw [y]; exact hp))]; exact z, Reps.keep (Keep.updA r hp) q⟩
  tr := fun a ha => by
    by_cases e : a = p
    · rw [e]; exact ⟨_, upd_same, fun xs => ⟨(fun z => by cases z), fun ob z => by cases z⟩⟩
    · obtain ⟨o, e1, q⟩ := r.tr a ha
      exact ⟨o, by rw [upd_ne e]; exact e1, q⟩
  oo := r.oo
  cc := r.cc
  oc := r.oc
theorem Rel.σlen (r : Rel K A ρ σ H st) (r' : Rel K B ρ' σ' H' st') (h : st'.env.length = st.env.length) : σ'.length = σ.length := by rw [← r.len, ← r'.len, h]
theorem tLc_ok {fi : Sta → Out (List D)} {tg : D → Sta → Out Unit} {c : Sta → Out Bool} {e : Sta → Out D} {own W : List Nat} (hW : ∀ i ∈ W, i ∈ own) (hlen : ∀ d st s1, tg d st = .ok () s1 → s1.env.length = st.env.length) :
    ∀ σ H Q, tF K (fun st => (fi st).bind fun ds s1 => (compL tg c e own ds [] s1).bind fun xs s2 => vO (.lst xs) { s2 with env := unwipe s1.env s2.env own }) σ H Q → tLc (tI K fi) (tG K W tg) (tBo K c) (tD K e) own σ H Q := by
  rintro σ H Q ⟨A, ρ, st, x, s1, r, ef, q⟩
  obtain ⟨ds, s0, e1, ef⟩ := Out.bind_ok ef
  obtain ⟨xs, s2, e2, ef⟩ := Out.bind_ok ef
  cases ef
  refine ⟨A, ρ, st, ds, s0, r, e1, fun ρ1 J H1 f1 r1 hy D hD => ?_⟩
  have hB : ∀ a, And1 A D a → A a ∨ H1 a = none := fun a z => z.elim .inl fun z => by rw [z]; exact .inr hD
  have nD : ∀ a o, H1 a = some o → a ≠ D := fun a o z y => by rw [y, hD] at z; cases z
  refine ⟨fun i m H2 => ∃ ρ2 st2 acc vacc, m = ds.length - i ∧ i ≤ ds.length ∧ Fr A ρ1 σ H1 s0 ρ2 (wipe σ own) H2 (st2.wiped own) ∧ Rel K (And1 A D) ρ2 (wipe σ own) H2 (st2.wiped own) ∧ H2 D = some (.lst vacc) ∧
    Reps K ρ2 st2.S.length (Ch (And1 A D) ρ2 (wipe σ own) (st2.wiped own)) H2 acc vacc ∧ compL tg c e own (ds.drop i) acc st2 = .ok xs s2, ⟨ds.length, ρ1, s0, [], [], by simp, Nat.zero_le _, ?_, ?_, upd_same, rfl, e2⟩, ?_⟩
  · have fw := (r1.wiped own).1
    exact ⟨fw.rho, fw.sz, fun a o z _ _ => by rw [upd_ne (nD a o z)]; exact z, fun a z => by
      by_cases y : a = D
      · rw [y]; exact hD
      · rw [upd_ne y] at z; exact z, fw.live, fw.own, fw.busy⟩
  · exact (r1.wiped own).2.new hD
  · rintro i m H2 ⟨ρ2, st2, acc, vacc, rfl, hi, f2, r2, hD2, hacc, hc⟩
    by_cases hlt : i < ds.length
    · have hd : ds[i]? = some ds[i] := List.getElem?_eq_getElem hlt
      rw [List.drop_eq_getElem_cons hlt] at hc
      have hc' : (tg ds[i] (st2.wiped own)).bind (fun _ s1 => (c s1).bind fun k s2 => if k then (e s2).bind fun x s3 => (if acc.length < 1000000 then compL tg c e own (ds.drop (i + 1)) (acc ++ [x]) s3 else .bad) else compL tg c e own (ds.drop (i + 1)) acc s2) = .ok xs s2 := hc
      obtain ⟨_, s3, t1, hc'⟩ := Out.bind_ok hc'
      obtain ⟨k, s4, t2, hc'⟩ := Out.bind_ok hc'
      obtain ⟨go, yl⟩ := (hy (And1 A D) i ρ2 (wipe σ own) H2 (st2.wiped own) f2 r2 hB).1 _ hd
      refine .inr ⟨go, fun H' => ∃ ρ2 st2 acc vacc, i + 1 ≤ ds.length ∧ Fr A ρ1 σ H1 s0 ρ2 (wipe σ own) H' (st2.wiped own) ∧ Rel K (And1 A D) ρ2 (wipe σ own) H' (st2.wiped own) ∧ H' D = some (.lst vacc) ∧
        Reps K ρ2 st2.S.length (Ch (And1 A D) ρ2 (wipe σ own) (st2.wiped own)) H' acc vacc ∧ compL tg c e own (ds.drop (i + 1)) acc st2 = .ok xs s2, fun H' ⟨ρ3, st3, acc3, vacc3, h⟩ => ⟨ds.length - (i + 1), by omega, ρ3, st3, acc3, vacc3, rfl, h⟩, fun x H3 hx => ?_⟩
      obtain ⟨fy, ry, py⟩ := yl x H3 hx
      refine ⟨And1 A D, ρ2, st2.wiped own, ds[i], s3, ry, py, t1, fun ρ4 σ4 H4 hs4 f4 r4 => ?_⟩
      have hl4 : σ4.length = (wipe σ own).length := ry.σlen r4 (hlen _ _ _ t1)
      have hw4 : wipe σ4 own = wipe σ own := by
        rw [wipe_stored hs4 hW hl4]
        refine List.ext_getElem? fun j => ?_
        rw [wipe_get, wipe_get, wipe_length]
        by_cases z : j ∈ own
        · simp [z]
        · simp [z]
      refine ⟨hw4, And1 A D, ρ4, s3, k, s4, r4, t2, fun ρ5 H5 f5 r5 => ?_⟩
      -- what stands behind the turn's tests and element
      have fall : ∀ {ρ6 : Nat → Addr} {H6 : Hp} {s6 : Sta}, Fr (And1 A D) ρ4 σ4 H4 s3 ρ6 σ4 H6 s6 → Rel K (And1 A D) ρ6 σ4 H6 s6 → Fr A ρ1 σ H1 s0 ρ6 (wipe σ own) H6 (s6.wiped own) ∧ Rel K (And1 A D) ρ6 (wipe σ own) H6 (s6.wiped own) ∧ Fr (And1 A D) ρ2 (wipe σ own) H2 (st2.wiped own) ρ6 (wipe σ own) H6 (s6.wiped own) := fun {ρ6 H6 s6} f6 r6 => by
        have fw := r6.wiped own
        rw [hw4] at fw
        have g1 : Fr (And1 A D) ρ2 (wipe σ own) H2 (st2.wiped own) ρ6 (wipe σ own) H6 (s6.wiped own) := ((fy.trans f4).trans f6).trans fw.1
        have g2 : Fr A ρ2 (wipe σ own) H2 (st2.wiped own) ρ6 (wipe σ own) H6 (s6.wiped own) := ⟨g1.rho, g1.sz, g1.at_, g1.free, g1.live, g1.own, g1.busy⟩
        exact ⟨f2.trans g2, fw.2, g1⟩
      have keepD : ∀ {ρ6 : Nat → Addr} {H6 : Hp} {s6 : Sta}, Fr (And1 A D) ρ2 (wipe σ own) H2 (st2.wiped own) ρ6 (wipe σ own) H6 (s6.wiped own) → H6 D = some (.lst vacc) := fun {ρ6 H6 s6} g => by
        refine g.at_ D _ hD2 (fun ⟨m, zs, z1, z2⟩ => (r2.cell m zs z1).1 (.inr z2)) fun ⟨j, d', z1, z2⟩ => ?_
        obtain ⟨b, z3, nb, _⟩ := r2.own j d' z1
        rw [z2] at z3; cases z3
        exact nb (.inr rfl)
      cases k with
      | false =>
        simp only [Bool.false_eq_true, if_false] at hc' ⊢
        obtain ⟨g1, g2, g3⟩ := fall f5 r5
        exact ⟨ρ5, s4, acc, vacc, hlt, g1, g2, keepD g3, r2.reps g3 hacc, hc'⟩
      | true =>
        simp only [if_true] at hc' ⊢
        obtain ⟨z, s5, t3, hc'⟩ := Out.bind_ok hc'
        split at hc'
        · rename_i hsz
          refine ⟨And1 A D, ρ5, s4, z, s5, r5, t3, fun ρ6 y H6 f6 r6 hz => ?_⟩
          obtain ⟨g1, g2, g3⟩ := fall (f5.trans f6) r6
          have hD6 := keepD g3
          refine ⟨vacc, hD6, by rw [hacc.length]; exact Nat.lt_of_lt_of_le hsz line6, ρ6, s5, acc ++ [z], vacc ++ [y], hlt, ?_, g2.updA (.inr rfl), upd_same, ?_, hc'⟩
          · exact ⟨g1.rho, g1.sz, fun a o z h1 h2 => by rw [upd_ne (nD a o z)]; exact g1.at_ a o z h1 h2, fun a z => by
              by_cases y : a = D
              · rw [y]; exact hD
              · rw [upd_ne y] at z; exact g1.free a z, g1.live, g1.own, g1.busy⟩
          · have kw : Keep ρ6 s5.S.length (Ch (And1 A D) ρ6 σ4 s5) H6 ρ6 s5.S.length (Ch (And1 A D) ρ6 (wipe σ own) (s5.wiped own)) H6 := by
              have := r6.keep (r6.wiped own).1
              rw [hw4] at this
              exact this
            exact Reps.keep (Keep.updA g2 (.inr rfl)) (Reps.append (es := [z]) (ws := [y]) (r2.reps g3 hacc) ⟨y, [], rfl, Rep.keep kw hz, rfl⟩)
        · cases hc'
    · have ei : i = ds.length := by omega
      subst ei
      rw [List.drop_length] at hc
      cases hc
      refine .inl ⟨(hy (And1 A D) _ ρ2 (wipe σ own) H2 _ f2 r2 hB).2 (Nat.le_refl _), ?_⟩
      obtain ⟨g1, g2, g3⟩ := r1.unwiped r2 f2 hB
      exact q ρ2 _ H2 (f1.trans g1) (.inl ⟨_, D, vacc, rfl, rfl, .inl (f1.free D hD), g2, hD2, Reps.keep (Keep.less g3 fun a z => r2.chH z) hacc⟩)
end
end Gp

/-! Gp, part H: each construct by the layer's rule. -/
namespace Gp
open PySem L2

section
variable {X : Cx} {cl : CallF} {x y z : Expr} {pos : Pos}

theorem d_var {i : Nat} {n : Str} (hN : X.N[i]? = some n) (hv : Vis X.env.scope n) (h1 : (n == ("__debug__" : Str)) = false) (h2 : (n == ("__classdict__" : Str)) = false) : PE X (.Name n pos) (tT X.K (evT cl (.var i))) :=
  (pe_var hN hv h1 h2).imp fun σ H Q ⟨A, ρ, st, t, s1, r, ef, q⟩ => by
    unfold evT at ef
    cases e : st.env[i]? with
    | none => simp only [e] at ef; cases ef
    | some s =>
      cases s with
      | no => simp only [e] at ef; cases ef
      | busy => simp only [e] at ef; cases ef
      | val d =>
        simp only [e] at ef; cases ef
        obtain ⟨v, h, _⟩ := r.val i d e
        exact ⟨v, h, q ρ v H Fr.refl r h⟩
      | own d =>
        simp only [e] at ef; cases ef
        obtain ⟨a, h, _⟩ := r.own i d e
        exact ⟨_, h, q ρ _ H Fr.refl r h⟩
/-- the object of a slot goes to whoever asks -/
theorem Rel.given {K : PySem.W.Frag} {A : Addr → Prop} {ρ : Nat → Addr} {σ : L2.St} {H : Hp} {st : Sta} (r : Rel K A ρ σ H st) {i : Nat} {d : D} (e : st.env[i]? = some (Slot.own d)) :
    ∃ v, σ[i]? = some (some v) ∧ Fr A ρ σ H st ρ σ H { st with env := st.env.set i .no } ∧ Fresh K A σ H st (.v d) ρ v H { st with env := st.env.set i .no } := by
  obtain ⟨a, ha, na, c⟩ := r.own i d e
  cases d with
  | lst ds =>
    obtain ⟨vs, z, q⟩ := c
    have own : ∀ b, Own (st.env.set i .no) σ b → Own st.env σ b ∧ b ≠ a := fun b ⟨j, d', h1, h2⟩ => by
      rcases getElem?_set' h1 with ⟨_, z⟩ | ⟨ne, z⟩
      · cases z
      · exact ⟨⟨j, d', z, h2⟩, fun y => ne (r.oo j i _ _ a z e (by rw [← y]; exact h2) ha)⟩
    have hch : ∀ b, Ch (And1 A a) ρ σ { st with env := st.env.set i .no } b → Ch A ρ σ st b := fun b z => (Ch.and1.mp z).elim (fun z => z.elim (fun z => Or.inl z) fun z => z.elim (fun z => Or.inr (Or.inl z)) fun z => Or.inr (Or.inr (own b z).1)) fun z => by
      rw [z]; exact Or.inr (Or.inr ⟨i, _, e, ha⟩)
    have kp : Keep ρ st.S.length (Ch A ρ σ st) H ρ st.S.length (Ch (And1 A a) ρ σ { st with env := st.env.set i .no }) H := Keep.less hch fun a z => r.chH z
    have old : ∀ {j : Nat} {s : Slot}, (st.env.set i .no)[j]? = some s → s ≠ .no → j ≠ i ∧ st.env[j]? = some s := fun {j s} h hs => by
      rcases getElem?_set' h with ⟨_, z⟩ | z
      · exact absurd z hs
      · exact z
    refine ⟨_, ha, ⟨fun _ _ => rfl, Nat.le_refl _, fun a o e _ _ => e, fun _ e => e, fun a z => .inl z, fun b z => .inl (own b z).1, fun j z => ⟨(busy_set (fun z => by cases z) z).2, rfl⟩⟩, .inl ⟨ds, a, vs, rfl, rfl, .inr ⟨i, _, e, ha⟩, ⟨by simpa using r.len, fun j d h => ?_, fun j d h => ?_, fun m xs h => ?_, fun b hb => ?_, fun j k d e' b h1 h2 h3 h4 => ?_, r.cc, fun j d m xs h1 h2 => ?_⟩, z, Reps.keep kp q⟩⟩
    · obtain ⟨_, h1⟩ := old h (fun z => by cases z)
      obtain ⟨v, h2, q⟩ := r.val j d h1
      exact ⟨v, h2, Rep.keep kp q⟩
    · obtain ⟨hne, h1⟩ := old h (fun z => by cases z)
      obtain ⟨b, h2, nb, c⟩ := r.own j d h1
      refine ⟨b, h2, fun z => z.elim nb fun z => hne (r.oo j i _ _ a h1 e (by rw [← z]; exact h2) ha), ?_⟩
      cases d with
      | lst ds => obtain ⟨vs, z, q⟩ := c; exact ⟨vs, z, Reps.keep kp q⟩
      | _ => exact (show False from c).elim
    · obtain ⟨nb, ws, z, q⟩ := r.cell m xs h
      exact ⟨fun y => y.elim nb fun y => r.oc i _ m xs e h (by rw [y]; exact ha), ws, z, Reps.keep kp q⟩
    · rcases hb with hb | hb
      · exact r.tr b hb
      · rw [hb]; exact ⟨_, z, fun xs => ⟨(fun z => by cases z), fun ob z => by cases z⟩⟩
    · exact r.oo j k d e' b (old h1 (fun z => by cases z)).2 (old h2 (fun z => by cases z)).2 h3 h4
    · exact r.oc j d m xs (old h1 (fun z => by cases z)).2 h2
  | _ => exact (show False from c).elim
theorem d_mv {i : Nat} {n : Str} (hN : X.N[i]? = some n) (hv : Vis X.env.scope n) (h1 : (n == ("__debug__" : Str)) = false) (h2 : (n == ("__classdict__" : Str)) = false) : PE X (.Name n pos) (tF X.K (evT cl (.mv i))) :=
  (pe_var hN hv h1 h2).imp fun σ H Q ⟨A, ρ, st, t, s1, r, ef, q⟩ => by
    unfold evT at ef
    cases e : st.env[i]? with
    | none => simp only [e] at ef; cases ef
    | some s =>
      cases s with
      | own d =>
        simp only [e] at ef; cases ef
        obtain ⟨v, h, f, fx⟩ := r.given e
        exact ⟨v, h, q ρ v H f fx⟩
      | _ => simp only [e] at ef; cases ef
/-- a constant -/
theorem d_c {v : V} {d : D} (h : PE X x (tC v)) (hr : ∀ (K : PySem.W.Frag) (ρ : Nat → Addr) (n : Nat) (L : Addr → Prop) (H : Hp), Rep K ρ n L H d v) : PE X x (tT X.K (evT cl (.cst d))) :=
  h.imp fun σ H Q ⟨A, ρ, st, t, s1, r, ef, q⟩ => by
    cases ef
    exact q ρ v H Fr.refl r (hr _ _ _ _ _)

theorem two_ok {a b : Sta → Out T} {f : D → D → Option D} {st s2 : Sta} {t : T} (h : two a b f st = .ok t s2) : ∃ u s1 w d e z, a st = .ok u s1 ∧ b s1 = .ok w s2 ∧ look u s2 = some d ∧ look w s2 = some e ∧ f d e = some z ∧ t = .v z := by
  unfold two at h
  obtain ⟨u, s1, e1, h⟩ := Out.bind_ok h
  obtain ⟨w, s3, e2, h⟩ := Out.bind_ok h
  split at h
  · rename_i d e hd he
    unfold vF at h
    split at h
    · rename_i z hz
      cases h
      exact ⟨u, s1, w, d, e, z, e1, e2, hd, he, hz, rfl⟩
    · cases h
  · cases h
/-- two operands, and a new value -/
theorem tOp_F {a b : Sta → Out T} {f : D → D → Option D} {σ : L2.St} {H : Hp} {Q : VK} (h : tF X.K (fun st => two a b f st) σ H Q) : tOp (rOf X.K f) (tT X.K a) (tT X.K b) σ H Q := by
  obtain ⟨A, ρ, st, t, s2, r, ef, q⟩ := h
  obtain ⟨u, s1, w, d, e, z, e1, e2, hd, he, hz, rfl⟩ := two_ok ef
  refine ⟨A, ρ, st, u, s1, r, e1, fun ρ1 v H1 f1 r1 hv => ?_⟩
  refine ⟨A, ρ1, s1, w, s2, r1, e2, fun ρ2 v2 H2 f2 r2 hv2 => ?_⟩
  exact ⟨A, ρ2, σ, s2, d, e, z, r2, r2.look (r1.repT f2 hv) hd, r2.look hv2 he, hz, fun w' H' f3 fx => q ρ2 w' H' ((f1.trans f2).trans f3) (fx.back (f1.trans f2))⟩
theorem tOp_V {a b : Sta → Out T} {f : D → D → Option D} {σ : L2.St} {H : Hp} {Q : VK} (h : tT X.K (fun st => two a b f st) σ H Q) : tOp (rOfV X.K f) (tT X.K a) (tT X.K b) σ H Q := by
  obtain ⟨A, ρ, st, t, s2, r, ef, q⟩ := h
  obtain ⟨u, s1, w, d, e, z, e1, e2, hd, he, hz, rfl⟩ := two_ok ef
  refine ⟨A, ρ, st, u, s1, r, e1, fun ρ1 v H1 f1 r1 hv => ?_⟩
  refine ⟨A, ρ1, s1, w, s2, r1, e2, fun ρ2 v2 H2 f2 r2 hv2 => ?_⟩
  exact ⟨A, ρ2, σ, s2, d, e, z, r2, r2.look (r1.repT f2 hv) hd, r2.look hv2 he, hz, fun w' hw => q ρ2 w' H2 (f1.trans f2) r2 hw⟩
theorem d_bin {op : BOp} {a b : E} (ha : PE X x (tT X.K (evT cl a))) (hb : PE X y (tT X.K (evT cl b))) : PE X (.BinOp x op.py y pos) (tF X.K (evT cl (.bin op a b))) :=
  (pe_op (bin_ok op) ha hb).imp fun σ H Q h => tOp_F (a := evT cl a) (b := evT cl b) (f := binF op) h
theorem d_cmp (hu : X.A.units + 64 < cLine) {op : COp} {a b : E} (ha : PE X x (tT X.K (evT cl a))) (hb : PE X y (tT X.K (evT cl b))) (hm : behindInMarks op.py y = false) : PE X (.Compare x [op.py] [y] pos) (tF X.K (evT cl (.cmp op a b))) :=
  (pe_cmpR (cmp_ok hu op) ha hb hm).imp fun σ H Q h => tOp_F (a := evT cl a) (b := evT cl b) (f := cmpF op) h
theorem d_sub {a b : E} (ha : PE X x (tT X.K (evT cl a))) (hb : PE X y (tT X.K (evT cl b))) (hs : PlainIx y) : PE X (.Subscript x y pos) (tT X.K (evT cl (.sub a b))) :=
  (pe_ix item_ok ha hb hs).imp fun σ H Q h => tOp_V (a := evT cl a) (b := evT cl b) (f := itemF) h

/-! ### one value -/
theorem intO_ok {o : Out D} {i : Int} {s1 : Sta} (h : intO o = .ok i s1) : o = .ok (.int i) s1 := by
  unfold intO at h
  obtain ⟨x, s, e, h⟩ := Out.bind_ok h
  split at h
  · cases h; exact e
  · cases h
def tInt (K : PySem.W.Frag) (f : Sta → Out Int) : St → Hp → (Int → Hp → Prop) → Prop := fun σ H Q => ∃ A ρ st i s1, Rel K A ρ σ H st ∧ f st = .ok i s1 ∧ ∀ ρ' H', Fr A ρ σ H st ρ' σ H' s1 → Rel K A ρ' σ H' s1 → Q i H'
theorem d_neg {a : E} (ha : PE X x (tT X.K (evT cl a))) : PE X (.UnaryOp .USub x pos) (tT X.K (evT cl (.neg a))) :=
  (pe_un un_neg (pe_lk ha)).imp fun σ H Q ⟨A, ρ, st, t, s1, r, ef, q⟩ => by
    obtain ⟨i, s2, e1, ef⟩ := Out.bind_ok (show (intO (lk (evT cl a st))).bind _ = _ from ef)
    cases ef
    exact ⟨A, ρ, st, .int i, s1, r, intO_ok e1, fun ρ' v H' f r' hv => ⟨i, hv, q ρ' _ H' f r' (show V.int _ = V.int _ from rfl)⟩⟩
theorem bl_of {K : PySem.W.Frag} {ρ : Nat → Addr} {n : Nat} {L : Addr → Prop} {H : Hp} {k : Bool} {v : V} (h : Rep K ρ n L H (.bl k) v) : v = .bl k := h
theorem d_and {a b : E} {rest : List Expr} (ha : PE X x (tT X.K (evT cl a))) (hb : PE X (.BoolOp .And (y :: rest) pos) (tT X.K (evT cl b))) : PE X (.BoolOp .And (x :: y :: rest) pos) (tT X.K (evT cl (.and a b))) :=
  (pe_and (pe_lk ha) (pe_lk hb)).imp fun σ H Q ⟨A, ρ, st, t, s2, r, ef, q⟩ => by
    obtain ⟨d, s1, e1, ef⟩ := Out.bind_ok (show (lk (evT cl a st)).bind _ = _ from ef)
    refine ⟨A, ρ, st, d, s1, r, e1, fun ρ1 v H1 f1 r1 hv => ?_⟩
    split at ef
    · refine ⟨true, hv, ?_⟩
      rw [if_pos rfl]
      obtain ⟨d2, s3, e2, ef⟩ := Out.bind_ok ef
      cases ef
      exact ⟨A, ρ1, s1, d2, s2, r1, e2, fun ρ2 v2 H2 f2 r2 hv2 => q ρ2 v2 H2 (f1.trans f2) r2 hv2⟩
    · cases ef
      refine ⟨false, hv, ?_⟩
      rw [if_neg Bool.false_ne_true]
      exact q ρ1 _ H1 f1 r1 (show V.bl _ = V.bl _ from rfl)
    · cases ef
theorem d_or {a b : E} {rest : List Expr} (ha : PE X x (tT X.K (evT cl a))) (hb : PE X (.BoolOp .Or (y :: rest) pos) (tT X.K (evT cl b))) : PE X (.BoolOp .Or (x :: y :: rest) pos) (tT X.K (evT cl (.or a b))) :=
  (pe_or (pe_lk ha) (pe_lk hb)).imp fun σ H Q ⟨A, ρ, st, t, s2, r, ef, q⟩ => by
    obtain ⟨d, s1, e1, ef⟩ := Out.bind_ok (show (lk (evT cl a st)).bind _ = _ from ef)
    refine ⟨A, ρ, st, d, s1, r, e1, fun ρ1 v H1 f1 r1 hv => ?_⟩
    split at ef
    · refine ⟨false, hv, ?_⟩
      rw [if_neg Bool.false_ne_true]
      obtain ⟨d2, s3, e2, ef⟩ := Out.bind_ok ef
      cases ef
      exact ⟨A, ρ1, s1, d2, s2, r1, e2, fun ρ2 v2 H2 f2 r2 hv2 => q ρ2 v2 H2 (f1.trans f2) r2 hv2⟩
    · cases ef
      refine ⟨true, hv, ?_⟩
      rw [if_pos rfl]
      exact q ρ1 _ H1 f1 r1 (show V.bl _ = V.bl _ from rfl)
    · cases ef
theorem d_one {op : BoolOp} {a : E} (ha : PE X x (tT X.K (evT cl a))) : PE X (.BoolOp op [x] pos) (tT X.K (evT cl a)) := pe_one ha
theorem d_not {a : E} (ha : PE X x (tT X.K (evT cl a))) : PE X (.UnaryOp .Not x pos) (tT X.K (evT cl (.not a))) :=
  (pe_not (pe_lk ha)).imp fun σ H Q ⟨A, ρ, st, t, s2, r, ef, q⟩ => by
    obtain ⟨d, s1, e1, ef⟩ := Out.bind_ok (show (lk (evT cl a st)).bind _ = _ from ef)
    refine ⟨A, ρ, st, d, s1, r, e1, fun ρ1 v H1 f1 r1 hv => ?_⟩
    split at ef
    · cases ef
      exact ⟨_, hv, q ρ1 _ H1 f1 r1 (show V.bl _ = V.bl _ from rfl)⟩
    · cases ef
theorem d_ife {c : C} {a b : E} (hc : PT X z (tBo X.K (evB cl c))) (ha : PE X x (tT X.K (evT cl a))) (hb : PE X y (tT X.K (evT cl b))) : PE X (.IfExp z x y pos) (tT X.K (evT cl (.ife c a b))) :=
  (pe_ifExp hc (pe_lk ha) (pe_lk hb)).imp fun σ H Q ⟨A, ρ, st, t, s2, r, ef, q⟩ => by
    obtain ⟨k, s1, e1, ef⟩ := Out.bind_ok (show (evB cl c st).bind _ = _ from ef)
    refine ⟨A, ρ, st, k, s1, r, e1, fun ρ1 H1 f1 r1 => ?_⟩
    cases k with
    | true =>
      simp only [if_true] at ef ⊢
      obtain ⟨d2, s3, e2, ef⟩ := Out.bind_ok ef
      cases ef
      exact ⟨A, ρ1, s1, d2, s2, r1, e2, fun ρ2 v2 H2 f2 r2 hv2 => q ρ2 v2 H2 (f1.trans f2) r2 hv2⟩
    | false =>
      simp only [Bool.false_eq_true, if_false] at ef ⊢
      obtain ⟨d2, s3, e2, ef⟩ := Out.bind_ok ef
      cases ef
      exact ⟨A, ρ1, s1, d2, s2, r1, e2, fun ρ2 v2 H2 f2 r2 hv2 => q ρ2 v2 H2 (f1.trans f2) r2 hv2⟩

/-! ### argument lists, displays -/
theorem d_nil : PA X [] (tDs X.K (evEs cl [])) := pa_nil.imp fun σ H Q ⟨A, ρ, st, t, s2, r, ef, q⟩ => by
  cases ef
  exact q ρ [] H Fr.refl r rfl
theorem d_cons {e : E} {es : List E} {xs : List Expr} (ha : PE X x (tT X.K (evT cl e))) (hb : PA X xs (tDs X.K (evEs cl es))) (hs : starEach (x :: xs) X.env = (false, eval x X.env) :: starEach xs X.env) : PA X (x :: xs) (tDs X.K (evEs cl (e :: es))) :=
  (pa_cons (pe_lk ha) hb hs).imp fun σ H Q ⟨A, ρ, st, t, s2, r, ef, q⟩ => by
    obtain ⟨d, s1, e1, ef⟩ := Out.bind_ok (show (lk (evT cl e st)).bind _ = _ from ef)
    obtain ⟨ds, s3, e2, ef⟩ := Out.bind_ok ef
    cases ef
    refine ⟨A, ρ, st, d, s1, r, e1, fun ρ1 v H1 f1 r1 hv => ⟨A, ρ1, s1, ds, s2, r1, e2, fun ρ2 vs H2 f2 r2 hvs => ?_⟩⟩
    exact q ρ2 _ H2 (f1.trans f2) r2 ⟨v, vs, rfl, r1.rep f2 hv, hvs⟩
theorem d_tnil : PA X [] (tTs X.K (evTs cl [])) := pa_nil.imp fun σ H Q ⟨A, ρ, st, t, s2, r, ef, q⟩ => by
  cases ef
  exact q ρ [] H Fr.refl r rfl
theorem d_tcons {e : E} {es : List E} {xs : List Expr} (ha : PE X x (tT X.K (evT cl e))) (hb : PA X xs (tTs X.K (evTs cl es))) (hs : starEach (x :: xs) X.env = (false, eval x X.env) :: starEach xs X.env) : PA X (x :: xs) (tTs X.K (evTs cl (e :: es))) :=
  (pa_cons ha hb hs).imp fun σ H Q ⟨A, ρ, st, t, s2, r, ef, q⟩ => by
    obtain ⟨d, s1, e1, ef⟩ := Out.bind_ok (show (evT cl e st).bind _ = _ from ef)
    obtain ⟨ds, s3, e2, ef⟩ := Out.bind_ok ef
    cases ef
    refine ⟨A, ρ, st, d, s1, r, e1, fun ρ1 v H1 f1 r1 hv => ⟨A, ρ1, s1, ds, s2, r1, e2, fun ρ2 vs H2 f2 r2 hvs => ?_⟩⟩
    exact q ρ2 _ H2 (f1.trans f2) r2 ⟨v, vs, rfl, r1.repT f2 hv, hvs⟩
theorem d_tup {es : List E} {xs : List Expr} {k : Nat} (ha : PA X xs (tDs X.K (evEs cl es))) : PE X (.Tuple xs k pos) (tT X.K (evT cl (.tup es))) :=
  (pe_tup ha).imp fun σ H Q ⟨A, ρ, st, t, s2, r, ef, q⟩ => by
    obtain ⟨ds, s1, e1, ef⟩ := Out.bind_ok (show (evEs cl es st).bind _ = _ from ef)
    split at ef
    · rename_i hl
      cases ef
      refine ⟨A, ρ, st, ds, s2, r, e1, fun ρ1 vs H1 f1 r1 hv => ⟨by rw [hv.length]; exact Nat.le_trans hl line6, fun p hp => ?_⟩⟩
      exact q ρ1 _ _ (f1.trans (Fr.laid hp)) (r1.laid hp) ⟨p, vs, rfl, SqT.of upd_same, r1.reps (Fr.laid hp) hv⟩
    · cases ef
theorem d_lst {es : List E} {xs : List Expr} (ha : PA X xs (tDs X.K (evEs cl es))) : PE X (.List xs pos) (tF X.K (evT cl (.lst es))) :=
  (pe_lst ha).imp fun σ H Q ⟨A, ρ, st, t, s2, r, ef, q⟩ => by
    obtain ⟨ds, s1, e1, ef⟩ := Out.bind_ok (show (evEs cl es st).bind _ = _ from ef)
    split at ef
    · rename_i hl
      cases ef
      refine ⟨A, ρ, st, ds, s2, r, e1, fun ρ1 vs H1 f1 r1 hv => ⟨by rw [hv.length]; exact Nat.le_trans hl line6, fun p hp => ?_⟩⟩
      exact q ρ1 _ _ (f1.trans (Fr.laid hp)) ((Fresh.new r1 hp hv).back f1)
    · cases ef
theorem d_rep {es : List E} {k : E} {xs : List Expr} {pl : Pos} (ha : PA X xs (tDs X.K (evEs cl es))) (hk : PE X y (tT X.K (evT cl k))) : PE X (.BinOp (.List xs pl) .Mult y pos) (tF X.K (evT cl (.rep es k))) :=
  (pe_op op_rep (pe_lst ha) (pe_lk hk)).imp fun σ H Q ⟨A, ρ, st, t, s2, r, ef, q⟩ => by
    obtain ⟨ds, s1, e1, ef⟩ := Out.bind_ok (show (evEs cl es st).bind _ = _ from ef)
    obtain ⟨i, s3, e2, ef⟩ := Out.bind_ok ef
    have e2 := intO_ok e2
    split at ef
    · rename_i hl
      unfold vF at ef
      split at ef
      · rename_i z hz
        cases ef
        unfold repF at hz
        obtain ⟨⟨k1, k2, k3⟩, rfl⟩ := ite_some hz
        refine ⟨A, ρ, st, ds, s1, r, e1, fun ρ1 vs H1 f1 r1 hv => ⟨by rw [hv.length]; exact Nat.le_trans hl line6, fun p hp => ?_⟩⟩
        have rn := r1.new (vs := vs) hp
        refine ⟨And1 A p, ρ1, s1, .int i, s2, rn, e2, fun ρ2 w H2 f2 r2 hw => ?_⟩
        have hp2 : H2 p = some (.lst vs) := f2.at_ p _ upd_same (fun ⟨m, xs, h1, h2⟩ => (rn.cell m xs h1).1 (.inr h2)) fun ⟨j, d, h1, h2⟩ => by
          obtain ⟨b, h3, nb, _⟩ := rn.own j d h1
          rw [h2] at h3; cases h3
          exact nb (.inr rfl)
        refine ⟨p, i, vs, rfl, hw, hp2, k1, k2, by rw [hv.length]; exact Nat.le_trans k3 line6, fun p2 hp3 => ?_⟩
        have r2' : Rel X.K A ρ2 σ H2 s2 := r2.weak fun a z => .inl z
        have hv2 : Reps X.K ρ2 s2.S.length (Ch A ρ2 σ s2) H2 ds vs := Reps.keep (Keep.less (fun a z => Ch.mono (fun a z => .inl z) z) fun a z => r2.chH z) (rn.reps f2 (Reps.keep (Keep.new r1 hp) hv))
        have f2' : Fr A ρ1 σ (upd H1 p (.lst vs)) s1 ρ2 σ H2 s2 := ⟨f2.rho, f2.sz, f2.at_, f2.free, f2.live, f2.own, f2.busy⟩
        exact q ρ2 _ _ (((f1.trans (Fr.laid hp)).trans f2').trans (Fr.laid hp3)) ((Fresh.new r2' hp3 (hv2.flat _)).back ((f1.trans (Fr.laid hp)).trans f2'))
      · cases ef
    · cases ef
end
end Gp

/-! Gp, part I: each construct by the layer's rule, further. -/
namespace Gp
open PySem L2

section
variable {X : Cx} {cl : CallF} {x y z : Expr} {pos : Pos}

theorem chain_imp {o1 o2 : COp} {a b c : E} {σ : L2.St} {H : Hp} {Q : VK} (h : tT X.K (evT cl (.chain o1 o2 a b c)) σ H Q) : tChain (rOf X.K (cmpF o1)) (rOf X.K (cmpF o2)) (tD X.K fun st => lk (evT cl a st)) (tD X.K fun st => lk (evT cl b st)) (tD X.K fun st => lk (evT cl c st)) σ H Q := by
    obtain ⟨A, ρ, st, t, s3, r, ef, q⟩ := h
    obtain ⟨d, s1, e1, ef⟩ := Out.bind_ok (show (lk (evT cl a st)).bind _ = _ from ef)
    obtain ⟨e, s2, e2, ef⟩ := Out.bind_ok ef
    refine ⟨A, ρ, st, d, s1, r, e1, fun ρ1 v H1 f1 r1 hv => ⟨A, ρ1, s1, e, s2, r1, e2, fun ρ2 w H2 f2 r2 hw => ?_⟩⟩
    have hv2 := r1.rep f2 hv
    split at ef
    · rename_i hk
      refine ⟨A, ρ2, σ, s2, d, e, _, r2, hv2.seen, hw.seen, hk, fun u H3 f3 fx => ?_⟩
      obtain ⟨r3, hu3⟩ := fx.rep r2
      refine ⟨true, hu3, ?_⟩
      rw [if_pos rfl]
      obtain ⟨g, s4, e3, ef⟩ := Out.bind_ok ef
      unfold vF at ef
      split at ef
      · rename_i zz hzz
        cases ef
        refine ⟨A, ρ2, s2, g, s3, r3, e3, fun ρ4 w4 H4 f4 r4 hg => ?_⟩
        refine ⟨A, ρ4, σ, s3, e, g, zz, r4, (r3.rep f4 (r2.rep f3 hw)).seen, hg.seen, hzz, fun u5 H5 f5 fx5 => ?_⟩
        obtain ⟨r5, hu5⟩ := fx5.rep r4
        exact q ρ4 u5 H5 ((((f1.trans f2).trans f3).trans f4).trans f5) r5 hu5
      · cases ef
    · rename_i hk
      cases ef
      refine ⟨A, ρ2, σ, _, d, e, _, r2, hv2.seen, hw.seen, hk, fun u H3 f3 fx => ?_⟩
      obtain ⟨r3, hu3⟩ := fx.rep r2
      have hu4 : u = V.bl false := hu3
      subst hu4
      refine ⟨false, rfl, ?_⟩
      rw [if_neg Bool.false_ne_true]
      exact q ρ2 _ H3 ((f1.trans f2).trans f3) r3 (show V.bl _ = V.bl _ from rfl)
    · cases ef
theorem cmpF_bl {op : COp} {d e z : D} (hz : cmpF op d e = some z) : ∃ k, z = .bl k := by
  unfold cmpF at hz
  split at hz <;> (try (obtain ⟨_, rfl⟩ := ite_some hz; exact ⟨_, rfl⟩))
  split at hz
  · obtain ⟨kk, _, rfl⟩ := omap_some hz; exact ⟨kk, rfl⟩
  · cases hz
theorem d_chain (hu : X.A.units + 64 < cLine) {o1 o2 : COp} {a b c : E} (ha : PE X x (tT X.K (evT cl a))) (hb : PE X y (tT X.K (evT cl b))) (hc : PE X z (tT X.K (evT cl c))) (hm : lastMarks [o1.py, o2.py] [y, z] = false) :
    PE X (.Compare x [o1.py, o2.py] [y, z] pos) (tT X.K (evT cl (.chain o1 o2 a b c))) :=
  (pe_chain (cmp_ok hu o1) (cmp_ok hu o2) (pe_lk ha) (pe_lk hb) (pe_lk hc) hm).imp fun σ H Q h => chain_imp h
/-! ### slices -/
def tPo (K : PySem.W.Frag) (f : Sta → Out (Option Int)) : TO := fun σ H Q => ∃ A ρ st i s1, Rel K A ρ σ H st ∧ f st = .ok i s1 ∧ ∀ ρ' H', Fr A ρ σ H st ρ' σ H' s1 → Rel K A ρ' σ H' s1 → Q i H'
theorem d_pnone : PO X none (tPo X.K (evP cl none)) := po_none.imp fun σ H Q ⟨A, ρ, st, i, s1, r, ef, q⟩ => by
  cases ef
  exact q ρ H Fr.refl r
theorem d_psome {a : E} (ha : PE X x (tT X.K (evT cl a))) : PO X (some x) (tPo X.K (evP cl (some a))) := (po_some (pe_lk ha)).imp fun σ H Q ⟨A, ρ, st, i, s1, r, ef, q⟩ => by
  obtain ⟨k, s2, e1, ef⟩ := Out.bind_ok (show (intO (lk (evT cl a st))).bind _ = _ from ef)
  cases ef
  exact ⟨A, ρ, st, .int k, s1, r, intO_ok e1, fun ρ' v H' f r' hv => ⟨k, hv, q ρ' H' f r'⟩⟩
theorem d_cut {a : E} {lo hi : Option E} {l h : Option Expr} {p2 : Pos} (ha : PE X x (tT X.K (evT cl a))) (hl : PO X l (tPo X.K (evP cl lo))) (hh : PO X h (tPo X.K (evP cl hi))) : PE X (.Subscript x (.Slice l h none p2) pos) (tF X.K (evT cl (.cut a lo hi))) :=
  (pe_slice cut_ok ha hl hh).imp fun σ H Q ⟨A, ρ, st, t, s4, r, ef, q⟩ => by
    obtain ⟨u, s1, e1, ef⟩ := Out.bind_ok (show (evT cl a st).bind _ = _ from ef)
    obtain ⟨i, s2, e2, ef⟩ := Out.bind_ok ef
    obtain ⟨j, s3, e3, ef⟩ := Out.bind_ok ef
    refine ⟨A, ρ, st, u, s1, r, e1, fun ρ1 v H1 f1 r1 hv => ⟨A, ρ1, s1, i, s2, r1, e2, fun ρ2 H2 f2 r2 => ⟨A, ρ2, s2, j, s3, r2, e3, fun ρ3 H3 f3 r3 => ?_⟩⟩⟩
    split at ef
    · rename_i d hd
      unfold vF at ef
      split at ef
      · rename_i zz hz
        cases ef
        exact ⟨A, ρ3, σ, s4, d, zz, r3, r3.look (r2.repT f3 (r1.repT f2 hv)) hd, hz, fun w H4 f4 fx => q ρ3 w H4 (((f1.trans f2).trans f3).trans f4) (fx.back ((f1.trans f2).trans f3))⟩
      · cases ef
    · cases ef
theorem d_back {a : E} {k : Nat} {p1 p2 p3 : Pos} (ha : PE X x (tT X.K (evT cl a))) : PE X (.Subscript x (.Slice none none (some (.UnaryOp .USub (.Constant (.int 1) k p1) p2)) p3) pos) (tF X.K (evT cl (.back a))) :=
  (pe_revL ha).imp fun σ H Q ⟨A, ρ, st, t, s4, r, ef, q⟩ => by
    obtain ⟨u, s1, e1, ef⟩ := Out.bind_ok (show (evT cl a st).bind _ = _ from ef)
    refine ⟨A, ρ, st, u, s1, r, e1, fun ρ1 v H1 f1 r1 hv => ?_⟩
    split at ef
    · rename_i ds hd
      cases ef
      obtain ⟨b, vs, rfl, h1, h2⟩ := (r1.look hv hd).lst
      exact ⟨b, vs, rfl, h1, fun p hp => q ρ1 _ _ (f1.trans (Fr.laid hp)) ((Fresh.new r1 hp h2.reverse).back f1)⟩
    · cases ef

/-! ### built-ins -/
theorem d_b1 (hc : X.calm = true) {b : B1} {a : E} {p : Pos} {r0 : List V → Hp → VK → Prop} (hcall : PA X [x] (tCons (tT X.K (evT cl a)) tNil) → PE X z (tCB (rOf1 X.K (b1F b)) (tCons (tT X.K (evT cl a)) tNil)))
    (ha : PE X x (tT X.K (evT cl a))) (hs : starEach [x] X.env = (false, eval x X.env) :: starEach [] X.env) : PE X z (tF X.K (evT cl (.b1 b a))) :=
  (hcall (pa_cons ha pa_nil hs)).imp fun σ H Q ⟨A, ρ, st, t, s4, r, ef, q⟩ => by
    obtain ⟨u, s1, e1, ef⟩ := Out.bind_ok (show (evT cl a st).bind _ = _ from ef)
    refine ⟨A, ρ, st, u, s1, r, e1, fun ρ1 v H1 f1 r1 hv => ?_⟩
    split at ef
    · rename_i d hd
      unfold vF at ef
      split at ef
      · rename_i zz hz
        cases ef
        exact ⟨A, ρ1, σ, s4, d, zz, v, rfl, r1, r1.look hv hd, hz, fun w H4 f4 fx => q ρ1 w H4 (f1.trans f4) (fx.back f1)⟩
      · cases ef
    · cases ef
theorem d_b2 {b : B2} {a c : E} (hcall : PA X [x, y] (tCons (tD X.K fun st => lk (evT cl a st)) (tCons (tD X.K fun st => lk (evT cl c st)) tNil)) → PE X z (tCB (rOf2 X.K (b2F b)) (tCons (tD X.K fun st => lk (evT cl a st)) (tCons (tD X.K fun st => lk (evT cl c st)) tNil))))
    (ha : PE X x (tT X.K (evT cl a))) (hb : PE X y (tT X.K (evT cl c))) (hs : starEach [x, y] X.env = (false, eval x X.env) :: starEach [y] X.env) (hs2 : starEach [y] X.env = (false, eval y X.env) :: starEach [] X.env) : PE X z (tF X.K (evT cl (.b2 b a c))) :=
  (hcall (pa_cons (pe_lk ha) (pa_cons (pe_lk hb) pa_nil hs2) hs)).imp fun σ H Q ⟨A, ρ, st, t, s4, r, ef, q⟩ => by
    obtain ⟨d, s1, e1, ef⟩ := Out.bind_ok (show (lk (evT cl a st)).bind _ = _ from ef)
    obtain ⟨e, s2, e2, ef⟩ := Out.bind_ok ef
    refine ⟨A, ρ, st, d, s1, r, e1, fun ρ1 v H1 f1 r1 hv => ⟨A, ρ1, s1, e, s2, r1, e2, fun ρ2 w H2 f2 r2 hw => ?_⟩⟩
    unfold vF at ef
    split at ef
    · rename_i zz hz
      cases ef
      exact ⟨A, ρ2, σ, s4, d, e, zz, v, w, rfl, r2, r1.rep f2 hv, hw, hz, fun u H4 f4 fx => q ρ2 u H4 ((f1.trans f2).trans f4) (fx.back (f1.trans f2))⟩
    · cases ef
theorem d_lrange {a b : E} (hcall : PE X z (tLstRg (tRg2 (tD X.K fun st => lk (evT cl a st)) (tD X.K fun st => lk (evT cl b st))))) : PE X z (tF X.K (evT cl (.lrange a b))) :=
  hcall.imp fun σ H Q ⟨A, ρ, st, t, s4, r, ef, q⟩ => by
    obtain ⟨i, s1, e1, ef⟩ := Out.bind_ok (show (intO (lk (evT cl a st))).bind _ = _ from ef)
    obtain ⟨j, s2, e2, ef⟩ := Out.bind_ok ef
    split at ef
    · rename_i hs
      obtain ⟨⟨a1, a2⟩, ⟨b1, b2⟩, h3⟩ := hs
      cases ef
      refine ⟨A, ρ, st, _, s1, r, intO_ok e1, fun ρ1 v H1 f1 r1 hv => ⟨A, ρ1, s1, _, s4, r1, intO_ok e2, fun ρ2 w H2 f2 r2 hw => ?_⟩⟩
      exact ⟨i, j, hv, hw, ⟨by omega, by omega, by omega, by omega, by omega⟩, fun p hp => q ρ2 _ _ ((f1.trans f2).trans (Fr.laid hp)) ((Fresh.new r2 hp (Reps.range i j)).back (f1.trans f2))⟩
    · cases ef
theorem d_isi {t : Ty} {a : E} (hcall : PE X z (tCB (fun xs H Q => ∃ A ρ σ st d k x, xs = [x, .ty t.py] ∧ Rel X.K A ρ σ H st ∧ Seen X.K ρ st.S.length (Ch A ρ σ st) H d x ∧ isiF t d = some k ∧ Q (.bl k) H) (tCons (tT X.K (evT cl a)) (tCons (tC (.ty t.py)) tNil)))) :
    PE X z (tT X.K (evT cl (.isi t a))) :=
  hcall.imp fun σ H Q ⟨A, ρ, st, u, s4, r, ef, q⟩ => by
    obtain ⟨u1, s1, e1, ef⟩ := Out.bind_ok (show (evT cl a st).bind _ = _ from ef)
    refine ⟨A, ρ, st, u1, s1, r, e1, fun ρ1 v H1 f1 r1 hv => ?_⟩
    split at ef
    · rename_i d hd
      split at ef
      · rename_i k hk
        cases ef
        exact ⟨A, ρ1, σ, s4, d, k, v, rfl, r1, r1.look hv hd, hk, q ρ1 _ H1 f1 r1 (show V.bl _ = V.bl _ from rfl)⟩
      · cases ef
    · cases ef

/-! ### methods -/
theorem d_lrange1 {b : E} (hcall : PE X z (tLstRg (tRg1 (tD X.K fun st => lk (evT cl b st))))) : PE X z (tF X.K (evT cl (.lrange1 b))) :=
  hcall.imp fun σ H Q ⟨A, ρ, st, t, s4, r, ef, q⟩ => by
    obtain ⟨j, s2, e2, ef⟩ := Out.bind_ok (show (intO (lk (evT cl b st))).bind _ = _ from ef)
    split at ef
    · rename_i hs
      obtain ⟨⟨a1, a2⟩, h3⟩ := hs
      cases ef
      refine ⟨A, ρ, st, _, s4, r, intO_ok e2, fun ρ2 w H2 f2 r2 hw => ?_⟩
      exact ⟨j, hw, ⟨by omega, by omega, by omega, by omega, by omega⟩, fun p hp => q ρ2 _ _ (f2.trans (Fr.laid hp)) ((Fresh.new r2 hp (Reps.range 0 j)).back f2)⟩
    · cases ef
theorem methT_ok {m : Me} {o : E} {es : List E} {st s4 : Sta} {u : T} (ef : evT cl (.meth m o es) st = .ok u s4) : ∃ t s1 xs ds s2, evT cl o st = .ok t s1 ∧ look t s1 = some (.lst xs) ∧ evEs cl es s1 = .ok ds s2 ∧ methO m t ds s2 = .ok u s4 := by
  obtain ⟨t, s1, e1, ef⟩ := Out.bind_ok (show (evT cl o st).bind _ = _ from ef)
  split at ef
  · rename_i xs hx
    obtain ⟨ds, s2, e2, ef⟩ := Out.bind_ok ef
    exact ⟨t, s1, xs, ds, s2, e1, hx, e2, ef⟩
  · cases ef
theorem d_meth {m : Me} {o : E} {es : List E} (hcall : PE X z (tBM X.K "list" (rMe X.K m) (tT X.K (evT cl o)) (tDs X.K (evEs cl es)))) : PE X z (tT X.K (evT cl (.meth m o es))) :=
  hcall.imp fun σ H Q ⟨A, ρ, st, u, s4, r, ef, q⟩ => by
    obtain ⟨t, s1, xs, ds, s2, e1, hx, e2, ef⟩ := methT_ok ef
    refine ⟨A, ρ, st, t, s1, r, e1, fun ρ1 v H1 f1 r1 hv => ⟨?_, A, ρ1, s1, ds, s2, r1, e2, fun ρ2 vs H2 f2 r2 hvs => ?_⟩⟩
    · obtain ⟨a, vs, rfl, h1, _⟩ := (r1.look hv hx).lst
      exact .inl ⟨rfl, vs, h1⟩
    · exact ⟨A, ρ2, σ, s2, t, ds, u, s4, r2, r1.repT f2 hv, hvs, ef, fun w H4 f4 r4 hw => q ρ2 w H4 ((f1.trans f2).trans f4) r4 hw⟩
theorem d_meth0 {m : Me} {o : E} (hcall : PE X z (tBM0 X.K "list" (rMe X.K m) (tT X.K (evT cl o)))) : PE X z (tT X.K (evT cl (.meth m o []))) :=
  hcall.imp fun σ H Q ⟨A, ρ, st, u, s4, r, ef, q⟩ => by
    obtain ⟨t, s1, xs, ds, s2, e1, hx, e2, ef⟩ := methT_ok ef
    cases e2
    refine ⟨A, ρ, st, t, s1, r, e1, fun ρ1 v H1 f1 r1 hv => ⟨?_, A, ρ1, σ, s1, t, [], u, s4, r1, hv, rfl, ef, fun w H4 f4 r4 hw => q ρ1 w H4 (f1.trans f4) r4 hw⟩⟩
    obtain ⟨a, vs, rfl, h1, _⟩ := (r1.look hv hx).lst
    exact .inl ⟨rfl, vs, h1⟩

/-! ### calls of the text's own defs -/
theorem d_call {f : Nat} {es : List E} {np : Nat} {fr : Bool} {E0' : XK} (hnp : ∀ ds S r, cl f ds S = some r → ds.length = np) (hcall : PE X z (tCall (spF X.K (cl f) np fr) [] E0' (tDs X.K (evEs cl es)))) :
    PE X z (if fr = true then tF X.K (evT cl (.call f es)) else tT X.K (evT cl (.call f es))) := by
  have key : ∀ σ H Q, (if fr = true then tF X.K (evT cl (.call f es)) else tT X.K (evT cl (.call f es))) σ H Q → tCall (spF X.K (cl f) np fr) [] E0' (tDs X.K (evEs cl es)) σ H Q := by
    intro σ H Q h
    cases fr with
    | true =>
      simp only [if_true] at h
      obtain ⟨A, ρ, st, u, s4, r, ef, q⟩ := h
      obtain ⟨ds, s1, e1, ef⟩ := Out.bind_ok (show (evEs cl es st).bind _ = _ from ef)
      refine ⟨A, ρ, st, ds, s1, r, e1, fun ρ1 vs H1 f1 r1 hv => ?_⟩
      unfold callO at ef
      split at ef
      · rename_i d S' hF
        cases ef
        refine call_ok r1 (hnp _ _ _ hF) (by rw [List.append_nil]; exact hv) hF fun ρ2 v H2 f2 h2 => ?_
        simp only [if_true] at h2
        exact q ρ2 v H2 (f1.trans f2) (h2.back f1)
      · cases ef
    | false =>
      simp only [Bool.false_eq_true, if_false] at h
      obtain ⟨A, ρ, st, u, s4, r, ef, q⟩ := h
      obtain ⟨ds, s1, e1, ef⟩ := Out.bind_ok (show (evEs cl es st).bind _ = _ from ef)
      refine ⟨A, ρ, st, ds, s1, r, e1, fun ρ1 vs H1 f1 r1 hv => ?_⟩
      unfold callO at ef
      split at ef
      · rename_i d S' hF
        cases ef
        refine call_ok r1 (hnp _ _ _ hF) (by rw [List.append_nil]; exact hv) hF fun ρ2 v H2 f2 h2 => ?_
        simp only [Bool.false_eq_true, if_false] at h2
        exact q ρ2 v H2 (f1.trans f2) h2.1 h2.2
      · cases ef
  exact hcall.imp key
theorem d_pcall {f : Nat} {es : List E} {np : Nat} {fr : Bool} {E0' : XK} (hnp : ∀ ds S r, cl f ds S = some r → ds.length = np) (hcall : PE X z (tCall (spF X.K (cl f) np fr) [] E0' (tTs X.K (evTs cl es)))) :
    PE X z (if fr = true then tF X.K (evT cl (.pcall f es)) else tT X.K (evT cl (.pcall f es))) := by
  have key : ∀ σ H Q, (if fr = true then tF X.K (evT cl (.pcall f es)) else tT X.K (evT cl (.pcall f es))) σ H Q → tCall (spF X.K (cl f) np fr) [] E0' (tTs X.K (evTs cl es)) σ H Q := by
    intro σ H Q h
    have open_ : ∀ {st u s4}, evT cl (.pcall f es) st = .ok u s4 → ∃ ts s1 ds d S', evTs cl es st = .ok ts s1 ∧ lents ts s1 = some ds ∧ cl f ds (mask s1.S) = some (d, S') ∧ S'.length = s1.S.length ∧ u = .v d ∧ s4 = (if d.flat then s1 else { s1 with env := freezes ts s1.env }) := fun {st u s4} ef => by
      obtain ⟨ts, s1, e1, ef⟩ := Out.bind_ok (show (evTs cl es st).bind _ = _ from ef)
      unfold pcallO at ef
      split at ef
      · rename_i ds hds
        split at ef
        · rename_i d S' hF
          split at ef
          · rename_i hS
            cases ef
            exact ⟨ts, s1, ds, d, S', e1, hds, hF, hS, rfl, rfl⟩
          · cases ef
        · cases ef
      · cases ef
    cases fr with
    | true =>
      simp only [if_true] at h
      obtain ⟨A, ρ, st, u, s4, r, ef, q⟩ := h
      obtain ⟨ts, s1, ds, d, S', e1, hds, hF, hS, rfl, rfl⟩ := open_ ef
      refine ⟨A, ρ, st, ts, s1, r, e1, fun ρ1 vs H1 f1 r1 hv => ?_⟩
      refine pcall_ok r1 hds (hnp _ _ _ hF) (by rw [List.append_nil]; exact hv) hF hS fun ρ2 v H2 s2 es2 f2 h2 => ?_
      subst es2
      simp only [if_true] at h2
      exact q ρ2 v H2 (f1.trans f2) (h2.back f1)
    | false =>
      simp only [Bool.false_eq_true, if_false] at h
      obtain ⟨A, ρ, st, u, s4, r, ef, q⟩ := h
      obtain ⟨ts, s1, ds, d, S', e1, hds, hF, hS, rfl, rfl⟩ := open_ ef
      refine ⟨A, ρ, st, ts, s1, r, e1, fun ρ1 vs H1 f1 r1 hv => ?_⟩
      refine pcall_ok r1 hds (hnp _ _ _ hF) (by rw [List.append_nil]; exact hv) hF hS fun ρ2 v H2 s2 es2 f2 h2 => ?_
      subst es2
      simp only [Bool.false_eq_true, if_false] at h2
      exact q ρ2 v H2 (f1.trans f2) h2.1 h2.2
  exact hcall.imp key

/-! ### tests -/
theorem d_tand {a b : C} {rest : List Expr} (ha : PT X x (tBo X.K (evB cl a))) (hb : PW X (.BoolOp .And (y :: rest) pos) (tBo X.K (evB cl b))) : PW X (.BoolOp .And (x :: y :: rest) pos) (tBo X.K (evB cl (.and a b))) :=
  (pw_and ha hb).imp fun σ H Q ⟨A, ρ, st, k, s2, r, ef, q⟩ => by
    obtain ⟨k1, s1, e1, ef⟩ := Out.bind_ok (show (evB cl a st).bind _ = _ from ef)
    refine ⟨A, ρ, st, k1, s1, r, e1, fun ρ1 H1 f1 r1 => ?_⟩
    cases k1 with
    | true =>
      simp only [if_true] at ef ⊢
      exact ⟨A, ρ1, s1, k, s2, r1, ef, fun ρ2 H2 f2 r2 => q ρ2 H2 (f1.trans f2) r2⟩
    | false =>
      simp only [Bool.false_eq_true, if_false] at ef ⊢
      cases ef
      exact q ρ1 H1 f1 r1
theorem d_tor {a b : C} {rest : List Expr} (ha : PT X x (tBo X.K (evB cl a))) (hb : PW X (.BoolOp .Or (y :: rest) pos) (tBo X.K (evB cl b))) : PW X (.BoolOp .Or (x :: y :: rest) pos) (tBo X.K (evB cl (.or a b))) :=
  (pw_or ha hb).imp fun σ H Q ⟨A, ρ, st, k, s2, r, ef, q⟩ => by
    obtain ⟨k1, s1, e1, ef⟩ := Out.bind_ok (show (evB cl a st).bind _ = _ from ef)
    refine ⟨A, ρ, st, k1, s1, r, e1, fun ρ1 H1 f1 r1 => ?_⟩
    cases k1 with
    | true =>
      simp only [if_true] at ef ⊢
      cases ef
      exact q ρ1 H1 f1 r1
    | false =>
      simp only [Bool.false_eq_true, if_false] at ef ⊢
      exact ⟨A, ρ1, s1, k, s2, r1, ef, fun ρ2 H2 f2 r2 => q ρ2 H2 (f1.trans f2) r2⟩
theorem d_tnot {a : C} (ha : PT X x (tBo X.K (evB cl a))) : PT X (.UnaryOp .Not x pos) (tBo X.K (evB cl (.not a))) :=
  (pt_not ha).imp fun σ H Q ⟨A, ρ, st, k, s2, r, ef, q⟩ => by
    obtain ⟨k1, s1, e1, ef⟩ := Out.bind_ok (show (evB cl a st).bind _ = _ from ef)
    cases ef
    exact ⟨A, ρ, st, k1, s2, r, e1, fun ρ1 H1 f1 r1 => q ρ1 H1 f1 r1⟩
theorem truth_ok {K : PySem.W.Frag} {ρ : Nat → Addr} {n : Nat} {L : Addr → Prop} {H : Hp} {d : D} {v : V} {k : Bool} (h : Seen K ρ n L H d v) (e : truth d = some k) : TruV K v H k := by
  cases d with
  | non => cases e; rw [show v = V.non from h]; exact (show false = false from rfl)
  | bl b => cases e; rw [show v = V.bl _ from h]; exact (show _ = _ from rfl)
  | int b => cases e; rw [show v = V.int _ from h]; exact (show _ = _ from rfl)
  | str b => cases e
  | lst ds =>
    cases e
    obtain ⟨a, vs, rfl, h1, h2⟩ := h
    refine .inl ⟨vs, h1, ?_⟩
    have := h2.length
    cases ds <;> cases vs <;> first | rfl | cases this
  | tup ds =>
    cases e
    obtain ⟨a, vs, rfl, h1, h2⟩ := h
    refine .inr (.inl ⟨vs, h1, ?_⟩)
    have := h2.length
    cases ds <;> cases vs <;> first | rfl | cases this
  | loc m => cases e
theorem evBval_ok {e : E} {st s2 : Sta} {k : Bool} (ef : evB cl (.val e) st = .ok k s2) : ∃ t d, evT cl e st = .ok t s2 ∧ look t s2 = some d ∧ truth d = some k := by
  obtain ⟨t, s1, e1, ef⟩ := Out.bind_ok (show (evT cl e st).bind _ = _ from ef)
  split at ef
  · rename_i d hd
    split at ef
    · rename_i k' hk
      cases ef
      exact ⟨t, d, e1, hd, hk⟩
    · cases ef
  · cases ef
theorem d_tval {e : E} (ha : PE X x (tT X.K (evT cl e))) (he : ∀ whole, isTrue x X.env whole = (do let v ← whole; standAt x.pos; holding [v] (truthy v))) : PT X x (tBo X.K (evB cl (.val e))) :=
  (pt_truth ha he).imp fun σ H Q ⟨A, ρ, st, k, s2, r, ef, q⟩ => by
    obtain ⟨t, d, e1, hd, hk⟩ := evBval_ok ef
    exact ⟨A, ρ, st, t, s2, r, e1, fun ρ1 v H1 f1 r1 hv => ⟨k, truth_ok (r1.look hv hd) hk, q ρ1 H1 f1 r1⟩⟩
/-- a comparison as a test -/
theorem d_tcmp (hu : X.A.units + 64 < cLine) {op : COp} {a b : E} (ha : PE X x (tT X.K (evT cl a))) (hb : PE X y (tT X.K (evT cl b))) (hm : behindInMarks op.py y = false) : PT X (.Compare x [op.py] [y] pos) (tBo X.K (evB cl (.val (.cmp op a b)))) :=
  (pt_cmpR (cmp_ok hu op) ha hb hm).imp fun σ H Q ⟨A, ρ, st, k, s2, r, ef, q⟩ => by
    obtain ⟨t, d, e1, hd, hk⟩ := evBval_ok ef
    refine tOp_F (X := X) (a := evT cl a) (b := evT cl b) (f := cmpF op) (Q := fun x H' => ∃ k, x = .bl k ∧ Q k H') ⟨A, ρ, st, t, s2, r, e1, fun ρ1 v H1 f1 fx => ?_⟩
    obtain ⟨r1, hv⟩ := fx.rep r
    have ht := truth_ok (r1.look hv hd) hk
    obtain ⟨_, _, _, d1, d2, zz, _, _, _, _, hz, rfl⟩ := two_ok (show two (evT cl a) (evT cl b) (cmpF op) st = _ from e1)
    have hb' : ∃ kk, zz = .bl kk := by
      unfold cmpF at hz
      split at hz <;> (try (obtain ⟨_, rfl⟩ := ite_some hz; exact ⟨_, rfl⟩))
      split at hz
      · obtain ⟨kk, _, rfl⟩ := omap_some hz; exact ⟨kk, rfl⟩
      · cases hz
    obtain ⟨kk, rfl⟩ := hb'
    have hv' : v = .bl kk := hv
    subst hv'
    have : k = kk := ht
    subst this
    exact ⟨k, rfl, q ρ1 H1 f1 r1⟩
/-- a chain of two as a test -/
theorem d_tchain (hu : X.A.units + 64 < cLine) {o1 o2 : COp} {a b c : E} (ha : PE X x (tT X.K (evT cl a))) (hb : PE X y (tT X.K (evT cl b))) (hc : PE X z (tT X.K (evT cl c))) (hm : lastMarks [o1.py, o2.py] [y, z] = false) :
    PT X (.Compare x [o1.py, o2.py] [y, z] pos) (tBo X.K (evB cl (.val (.chain o1 o2 a b c)))) :=
  (pt_chain (cmp_ok hu o1) (cmp_ok hu o2) (pe_lk ha) (pe_lk hb) (pe_lk hc) hm).imp fun σ H Q ⟨A, ρ, st, k, s2, r, ef, q⟩ => by
    obtain ⟨t, d, e1, hd, hk⟩ := evBval_ok ef
    refine chain_imp (X := X) (Q := fun x H' => ∃ k, x = .bl k ∧ Q k H') ⟨A, ρ, st, t, s2, r, e1, fun ρ1 v H1 f1 r1 hv => ?_⟩
    have ht := truth_ok (r1.look hv hd) hk
    have hb' : ∃ kk, t = .v (.bl kk) := by
      obtain ⟨d1, s3, _, e1⟩ := Out.bind_ok (show (lk (evT cl a st)).bind _ = _ from e1)
      obtain ⟨d2, s4, _, e1⟩ := Out.bind_ok e1
      split at e1
      · obtain ⟨d3, s5, _, e1⟩ := Out.bind_ok e1
        unfold vF at e1
        split at e1
        · rename_i zz hz
          cases e1
          obtain ⟨kk, rfl⟩ := cmpF_bl hz
          exact ⟨kk, rfl⟩
        · cases e1
      · cases e1; exact ⟨_, rfl⟩
      · cases e1
    obtain ⟨kk, rfl⟩ := hb'
    have hv' : v = .bl kk := hv
    subst hv'
    have : k = kk := ht
    subst this
    exact ⟨k, rfl, q ρ1 H1 f1 r1⟩
/-- the tests of a comprehension: none, or one -/
theorem d_all0 : PTs X [] (tBo X.K (evAll cl [])) := ⟨fun pins s σ H Q I ⟨A, ρ, st, k, s2, r, ef, q⟩ => by
  cases ef
  exact pts_nil.run pins s σ H Q I (q ρ H Fr.refl r)⟩
theorem d_all1 {c : C} (ha : PT X x (tBo X.K (evB cl c))) : PTs X [x] (tBo X.K (evAll cl [c])) := ⟨fun pins s σ H Q I ⟨A, ρ, st, k, s2, r, ef, q⟩ => by
  obtain ⟨k1, s1, e1, ef⟩ := Out.bind_ok (show (evB cl c st).bind _ = _ from ef)
  refine (pts_one ha).run pins s σ H Q I ⟨A, ρ, st, k1, s1, r, e1, fun ρ1 H1 f1 r1 => ?_⟩
  cases k1 with
  | true => simp only [if_true] at ef; cases ef; exact q ρ1 H1 f1 r1
  | false => simp only [Bool.false_eq_true, if_false] at ef; cases ef; exact q ρ1 H1 f1 r1⟩

/-! ### what is walked -/
theorem _root_.L2.PI.or {tg e : Expr} {t t' : TI} (h : PI X tg e t) (h' : PI X tg e t') : PI X tg e (fun σ H R => t σ H R ∨ t' σ H R) := ⟨fun pins s σ H R I q => q.elim (h.run pins s σ H R I) (h'.run pins s σ H R I)⟩
theorem d_seq {tg : Expr} {e : E} (ha : PE X x (tT X.K (evT cl e))) : PI X tg x (tI X.K (evI cl (.seq e))) := by
  have hd := pe_lk ha
  refine ⟨fun pins s σ H R I ⟨A, ρ, st, ds, s2, r, ef, q⟩ => ?_⟩
  obtain ⟨d, s1, e1, ef⟩ := Out.bind_ok (show (lk (evT cl e st)).bind _ = _ from ef)
  split at ef
  · cases ef
    refine (pi_list hd).run pins s σ H R I ⟨A, ρ, st, _, _, r, e1, fun ρ1 v H1 f1 r1 hv => ?_⟩
    obtain ⟨a, vs, rfl, h1, h2⟩ := hv
    exact ⟨a, rfl, ⟨vs, h1.sq⟩, q ρ1 _ H1 f1 r1 (yields_list r1 h1 h2)⟩
  · cases ef
    refine (pi_tup hd).run pins s σ H R I ⟨A, ρ, st, _, _, r, e1, fun ρ1 v H1 f1 r1 hv => ?_⟩
    obtain ⟨a, vs, rfl, h1, h2⟩ := hv
    exact ⟨a, rfl, ⟨vs, h1⟩, q ρ1 _ H1 f1 r1 (yields_tup r1 h1 h2)⟩
  · cases ef
theorem d_range1 {tg : Expr} {a : E} (hcall : PI X tg z (iRng1 (tCons (tD X.K fun st => lk (evT cl a st)) tNil))) : PI X tg z (tI X.K (evI cl (.range1 a))) :=
  hcall.imp fun σ H R ⟨A, ρ, st, ds, s2, r, ef, q⟩ => by
    obtain ⟨j, s1, e1, ef⟩ := Out.bind_ok (show (intO (lk (evT cl a st))).bind _ = _ from ef)
    split at ef
    · rename_i hs
      obtain ⟨a1, a2⟩ := hs
      cases ef
      refine ⟨A, ρ, st, _, s2, r, intO_ok e1, fun ρ1 v H1 f1 r1 hv => ⟨j, by rw [show v = V.int j from hv], by omega, by omega, ?_⟩⟩
      have y := yields_range (K := X.K) (A := A) (ρ := ρ1) (σ := σ) (H := H1) (st := s2) 0 j
      rw [Int.sub_zero] at y
      exact q ρ1 _ H1 f1 r1 y
    · cases ef
theorem d_range2 {tg : Expr} {a b : E} (hcall : PI X tg z (iRng2 (tCons (tD X.K fun st => lk (evT cl a st)) (tCons (tD X.K fun st => lk (evT cl b st)) tNil)))) : PI X tg z (tI X.K (evI cl (.range a b))) :=
  hcall.imp fun σ H R ⟨A, ρ, st, ds, s2, r, ef, q⟩ => by
    obtain ⟨i, s1, e1, ef⟩ := Out.bind_ok (show (intO (lk (evT cl a st))).bind _ = _ from ef)
    obtain ⟨j, s3, e2, ef⟩ := Out.bind_ok ef
    split at ef
    · rename_i hs
      obtain ⟨⟨a1, a2⟩, b1, b2⟩ := hs
      cases ef
      refine ⟨A, ρ, st, _, s1, r, intO_ok e1, fun ρ1 v H1 f1 r1 hv => ⟨A, ρ1, s1, _, s2, r1, intO_ok e2, fun ρ2 w H2 f2 r2 hw => ⟨i, j, by rw [show v = V.int i from hv, show w = V.int j from hw], ⟨by omega, by omega, by omega, by omega⟩, ?_⟩⟩⟩
      exact q ρ2 _ H2 (f1.trans f2) r2 (yields_range i j)
    · cases ef
theorem d_enum {tg : Expr} {e : E} (hcall : PI X tg z (iEnum X.K (tCons (tD X.K fun st => lk (evT cl e st)) tNil))) : PI X tg z (tI X.K (evI cl (.enum e))) :=
  hcall.imp fun σ H R ⟨A, ρ, st, ds, s2, r, ef, q⟩ => by
    obtain ⟨d, s1, e1, ef⟩ := Out.bind_ok (show (lk (evT cl e st)).bind _ = _ from ef)
    split at ef
    · cases ef
      refine ⟨A, ρ, st, _, _, r, e1, fun ρ1 v H1 f1 r1 hv => ?_⟩
      obtain ⟨a, vs, rfl, h1, h2⟩ := hv
      exact ⟨a, vs, rfl, h1.sq, q ρ1 _ H1 f1 r1 (yields_enum r1 h1 h2)⟩
    · cases ef
theorem d_zip {tg : Expr} {a b : E} (hcall : PI X tg z (iZip X.K (tCons (tD X.K fun st => lk (evT cl a st)) (tCons (tD X.K fun st => lk (evT cl b st)) tNil)))) : PI X tg z (tI X.K (evI cl (.zip a b))) :=
  hcall.imp fun σ H R ⟨A, ρ, st, ds, s2, r, ef, q⟩ => by
    obtain ⟨d, s1, e1, ef⟩ := Out.bind_ok (show (lk (evT cl a st)).bind _ = _ from ef)
    obtain ⟨e, s3, e2, ef⟩ := Out.bind_ok ef
    split at ef
    · cases ef
      refine ⟨A, ρ, st, _, _, r, e1, fun ρ1 v H1 f1 r1 hv => ⟨A, ρ1, _, _, _, r1, e2, fun ρ2 w H2 f2 r2 hw => ?_⟩⟩
      obtain ⟨a, vs, rfl, h1, h2⟩ := r1.rep f2 hv
      obtain ⟨b, ws, rfl, h3, h4⟩ := hw
      exact ⟨a, b, vs, ws, rfl, h1.sq, h3.sq, q ρ2 _ H2 (f1.trans f2) r2 (yields_zip r2 h1 h2 h3 h4)⟩
    · cases ef
theorem d_rev {tg : Expr} {e : E} (hcall : PI X tg z (iRev X.K (tCons (tD X.K fun st => lk (evT cl e st)) tNil))) : PI X tg z (tI X.K (evI cl (.rev e))) :=
  hcall.imp fun σ H R ⟨A, ρ, st, ds, s2, r, ef, q⟩ => by
    obtain ⟨d, s1, e1, ef⟩ := Out.bind_ok (show (lk (evT cl e st)).bind _ = _ from ef)
    split at ef
    · cases ef
      refine ⟨A, ρ, st, _, _, r, e1, fun ρ1 v H1 f1 r1 hv => ?_⟩
      obtain ⟨a, vs, rfl, h1, h2⟩ := hv
      exact ⟨a, vs, rfl, h1.sq, q ρ1 _ H1 f1 r1 (yields_rev r1 h1 h2)⟩
    · cases ef

/-! ### targets -/
theorem stored_refl {W : List Nat} {σ : L2.St} : Stored W σ σ := fun _ _ => rfl
theorem stored_trans {W W' : List Nat} {σ σ' σ2 : L2.St} (h : Stored W σ σ') (h' : Stored W' σ' σ2) : Stored (W ++ W') σ σ2 := fun i hi => by
  simp only [List.mem_append, not_or] at hi
  rw [h' i hi.2, h i hi.1]
theorem d_gname {i : Nat} (h : PG X x (gName i)) : PG X x (tG X.K [i] (evG cl (.name i))) := h.imp fun v σ H Q ⟨A, ρ, st, d, s1, r, hv, ef, q⟩ => by
  have ef : (if i < st.env.length then Out.ok () (setName i d st) else .bad) = .ok () s1 := ef
  split at ef
  · rename_i hi
    cases ef
    obtain ⟨f, r'⟩ := r.setv hv hi
    exact q ρ _ H (fun j hj => by rw [List.getElem?_set_ne (fun z => hj (by rw [z]; exact List.mem_singleton_self _))]) f r'
  · cases ef
theorem d_gnil : PGs X [] (tGs X.K [] (evGs cl [])) := pgs_nil.imp fun v σ H Q ⟨A, ρ, st, ds, s1, r, hv, ef, q⟩ => by
  have ef : (if ds.isEmpty then Out.ok () st else .bad) = .ok () s1 := ef
  cases ds with
  | nil => cases ef; exact ⟨hv, q ρ σ H stored_refl Fr.refl r⟩
  | cons d ds => cases ef
theorem d_gcons {g : G} {gs : List G} {W W' : List Nat} {xs : List Expr} (h1 : PG X x (tG X.K W (evG cl g))) (h2 : PGs X xs (tGs X.K W' (evGs cl gs))) (hs : (assignEach (x :: xs) X.env).map (·.2) = assign x X.env :: (assignEach xs X.env).map (·.2)) :
    PGs X (x :: xs) (tGs X.K (W ++ W') (evGs cl (g :: gs))) := (pgs_cons h1 h2 hs).imp fun v σ H Q ⟨A, ρ, st, ds, s2, r, hv, ef, q⟩ => by
  cases ds with
  | nil => cases ef
  | cons d ds =>
    obtain ⟨_, s1, e1, ef⟩ := Out.bind_ok (show (evG cl g d st).bind _ = _ from ef)
    obtain ⟨w, ws, rfl, h3, h4⟩ := hv
    refine ⟨w, ws, rfl, A, ρ, st, d, s1, r, h3, e1, fun ρ1 σ1 H1 st1 f1 r1 => ⟨A, ρ1, s1, ds, s2, r1, Reps.keep (r.keep f1) h4, ef, fun ρ2 σ2 H2 st2 f2 r2 => ?_⟩⟩
    exact q ρ2 σ2 H2 (stored_trans st1 st2) (f1.trans f2) r2
theorem evGs_len : ∀ {gs : List G} {ds : List D} {st s1 : Sta}, evGs cl gs ds st = .ok () s1 → ds.length = gs.length
  | [], ds, st, s1, h => by
    have h : (if ds.isEmpty then Out.ok () st else .bad) = .ok () s1 := h
    cases ds with
    | nil => rfl
    | cons => cases h
  | g :: gs, [], st, s1, h => by cases h
  | g :: gs, d :: ds, st, s1, h => by
    obtain ⟨_, s2, e1, h⟩ := Out.bind_ok (show (evG cl g d st).bind _ = _ from h)
    rw [List.length_cons, List.length_cons, evGs_len h]
theorem d_gtup {gs : List G} {W : List Nat} {xs : List Expr} {k : Nat} (hc : X.calm = true) (h : PGs X xs (tGs X.K W (evGs cl gs))) (hn : (assignEach xs X.env).length = gs.length) (hst : (assignEach xs X.env).findIdx? (·.1) = none) : PG X (.Tuple xs k pos) (tG X.K W (evG cl (.tup gs))) :=
  (pg_tup hc h hn hst).imp fun v σ H Q ⟨A, ρ, st, d, s1, r, hv, ef, q⟩ => by
    cases d with
    | tup ds =>
      obtain ⟨a, vs, rfl, h1, h2⟩ := hv
      exact ⟨a, vs, rfl, h1, by rw [h2.length]; exact evGs_len ef, A, ρ, st, ds, s1, r, h2, ef, q⟩
    | _ => cases ef
theorem setO_ok {t : T} {j : Int} {d : D} {st s1 : Sta} (h : setO t j d st = .ok () s1) : ∃ xs k, look t st = some (.lst xs) ∧ place xs.length j = some k ∧ put t (xs.set k d) st = some s1 := by
  unfold setO at h
  split at h
  · rename_i xs hx
    split at h
    · rename_i k hk
      split at h
      · rename_i s3 hp
        cases h
        exact ⟨xs, k, hx, hk, hp⟩
      · cases h
    · cases h
  · cases h
theorem d_gsub {o i : E} (ho : PE X x (tT X.K (evT cl o))) (hi : PE X y (tT X.K (evT cl i))) (ha : ∀ v, assign (.Subscript x y pos) X.env v = (do
      let ov ← holding [v] (eval x X.env)
      let iv ← holding [v, ov] (eval y X.env)
      standAt pos
      holding [v, ov, iv] (setItem ov iv v)
      release [v, ov, iv] [])) : PG X (.Subscript x y pos) (tG X.K [] (evG cl (.sub o i))) :=
  (pg_sub ho (pe_lk hi) set_list ha).imp fun v σ H Q ⟨A, ρ, st, d, s3, r, hv, ef, q⟩ => by
    obtain ⟨t, s1, e1, ef⟩ := Out.bind_ok (show (evT cl o st).bind _ = _ from ef)
    obtain ⟨j, s2, e2, ef⟩ := Out.bind_ok ef
    obtain ⟨xs, k, hx, hk, hp⟩ := setO_ok ef
    refine ⟨A, ρ, st, t, s1, r, e1, fun ρ1 w H1 f1 r1 hw => ⟨A, ρ1, s1, _, s2, r1, intO_ok e2, fun ρ2 u H2 f2 r2 hu => ?_⟩⟩
    obtain ⟨a, vs, rfl, ha, hvs, hput⟩ := put_ok r2 (r1.repT f2 hw) hx hp
    obtain ⟨f3, r3⟩ := hput (vs.set k v) (hvs.set (r.rep (f1.trans f2) hv) k)
    exact ⟨a, vs, j, k, rfl, hu, ha, by rw [hvs.length, ← place_ixN]; exact hk, q ρ2 σ _ stored_refl ((f1.trans f2).trans f3) r3⟩

/-! ### comprehensions -/
theorem put_env_len {t : T} {xs : List D} {st s1 : Sta} (h : put t xs st = some s1) : s1.env.length = st.env.length := by
  unfold put at h
  simp only at h
  split at h
  · split at h <;> cases h; rfl
  · split at h
    · split at h <;> cases h; rfl
    · cases h; exact List.length_set
    · cases h
  · cases h
end
end Gp

/-! Gp, part J: statements. -/
namespace Gp
open PySem L2

section
variable {K : PySem.W.Frag} {A B : Addr → Prop} {ρ ρ' ρ2 : Nat → Addr} {σ σ' σ2 : L2.St} {H H' H2 : Hp} {st st' st2 s1 : Sta}

/-- what is handed back -/
def RtOk (K : PySem.W.Frag) (A : Addr → Prop) (σ : L2.St) (H : Hp) (st : Sta) (d : D) (fr : Bool) (ρ' : Nat → Addr) (σ' : L2.St) (v : V) (H' : Hp) (s1 : Sta) : Prop :=
  if fr = true then (∃ ds a vs, d = .lst ds ∧ v = .ref a ∧ (H a = none ∨ Own st.env σ a) ∧ Rel K (And1 A a) ρ' σ' H' s1 ∧ H' a = some (.lst vs) ∧ Reps K ρ' s1.S.length (Ch (And1 A a) ρ' σ' s1) H' ds vs) ∨
    ((∀ ds, d ≠ .lst ds) ∧ Rel K A ρ' σ' H' s1 ∧ Rep K ρ' s1.S.length (Ch A ρ' σ' s1) H' d v)
  else Rel K A ρ' σ' H' s1 ∧ Rep K ρ' s1.S.length (Ch A ρ' σ' s1) H' d v
def EndOk (K : PySem.W.Frag) (A : Addr → Prop) (ρ : Nat → Addr) (σ : L2.St) (H : Hp) (st : Sta) (c : Ctl) (s1 : Sta) (D : Ends) : Prop :=
  match c with
  | .nx => ∀ ρ' σ' H', Fr A ρ σ H st ρ' σ' H' s1 → Rel K A ρ' σ' H' s1 → D.nx σ' H'
  | .bk => ∀ ρ' σ' H', Fr A ρ σ H st ρ' σ' H' s1 → Rel K A ρ' σ' H' s1 → D.bk σ' H'
  | .ct => ∀ ρ' σ' H', Fr A ρ σ H st ρ' σ' H' s1 → Rel K A ρ' σ' H' s1 → D.ct σ' H'
  | .rt d fr => ∀ ρ' σ' v H', Fr A ρ σ H st ρ' σ' H' s1 → RtOk K A σ H st d fr ρ' σ' v H' s1 → D.rt v H'
def tS (K : PySem.W.Frag) (f : Sta → Out Ctl) : TS := fun D σ H => ∃ A ρ st c s1, Rel K A ρ σ H st ∧ f st = .ok c s1 ∧ EndOk K A ρ σ H st c s1 D
theorem RtOk.back {d : D} {fr : Bool} {v : V} (f : Fr A ρ σ H st ρ' σ' H' st') (h : RtOk K A σ' H' st' d fr ρ2 σ2 v H2 st2) : RtOk K A σ H st d fr ρ2 σ2 v H2 st2 := by
  unfold RtOk at h ⊢
  split
  · rename_i hfr
    rw [if_pos hfr] at h
    rcases h with ⟨ds, a, vs, e1, e2, n, h⟩ | h
    · refine .inl ⟨ds, a, vs, e1, e2, ?_, h⟩
      rcases n with n | n
      · exact .inl (f.free a n)
      · exact (f.own a n).elim .inr .inl
    · exact .inr h
  · rename_i hfr
    rw [if_neg hfr] at h
    exact h
theorem EndOk.back {c : Ctl} {D : Ends} (h : EndOk K A ρ σ H st c s1 D) (f : Fr A ρ σ H st ρ' σ' H' st') : EndOk K A ρ' σ' H' st' c s1 D := by
  cases c with
  | nx => exact fun ρ2 σ2 H2 g r => h ρ2 σ2 H2 (f.trans g) r
  | bk => exact fun ρ2 σ2 H2 g r => h ρ2 σ2 H2 (f.trans g) r
  | ct => exact fun ρ2 σ2 H2 g r => h ρ2 σ2 H2 (f.trans g) r
  | rt d fr => exact fun ρ2 σ2 v H2 g r => h ρ2 σ2 v H2 (f.trans g) (r.back f)
end
section
variable {X : Cx} {cl : CallF} {x y z : Expr} {pos : Pos}
theorem d_snil : PSs X [] (tS X.K (evSs cl [])) := pss_nil.imp fun D σ H ⟨A, ρ, st, c, s1, r, ef, q⟩ => by
  cases ef
  exact q ρ σ H Fr.refl r
theorem d_scons {s : S} {ss : List S} {p : Stmt} {ps : List Stmt} (h1 : PS X p (tS X.K (evS cl s))) (h2 : PSs X ps (tS X.K (evSs cl ss))) : PSs X (p :: ps) (tS X.K (evSs cl (s :: ss))) :=
  (pss_cons h1 h2).imp fun D σ H ⟨A, ρ, st, c, s2, r, ef, q⟩ => by
    obtain ⟨c1, s1, e1, ef⟩ := Out.bind_ok (show (evS cl s st).bind _ = _ from ef)
    refine ⟨A, ρ, st, c1, s1, r, e1, ?_⟩
    cases c1 with
    | nx => exact fun ρ1 σ1 H1 f1 r1 => ⟨A, ρ1, s1, c, s2, r1, ef, q.back f1⟩
    | bk => cases ef; exact q
    | ct => cases ef; exact q
    | rt d fr => cases ef; exact q
theorem d_pass : PS X (.Pass pos) (tS X.K (evS cl .pass)) := ps_pass.imp fun D σ H ⟨A, ρ, st, c, s1, r, ef, q⟩ => by
  cases ef; exact q ρ σ H Fr.refl r
theorem d_brk : PS X (.Break pos) (tS X.K (evS cl .brk)) := ps_break.imp fun D σ H ⟨A, ρ, st, c, s1, r, ef, q⟩ => by
  cases ef; exact q ρ σ H Fr.refl r
theorem d_cont : PS X (.Continue pos) (tS X.K (evS cl .cont)) := ps_continue.imp fun D σ H ⟨A, ρ, st, c, s1, r, ef, q⟩ => by
  cases ef; exact q ρ σ H Fr.refl r
theorem d_ex {e : E} (ha : PE X x (tT X.K (evT cl e))) (hs : swapsWith x none pos.line X.env = pure false) : PS X (.Expr x pos) (tS X.K (evS cl (.ex e))) := (ps_expr (pe_lk ha) hs).imp fun D σ H ⟨A, ρ, st, c, s1, r, ef, q⟩ => by
  obtain ⟨d, s2, e1, ef⟩ := Out.bind_ok (show (evE cl e st).bind _ = _ from ef)
  cases ef
  exact ⟨A, ρ, st, d, s1, r, e1, fun ρ1 v H1 f1 r1 hv => q ρ1 σ H1 f1 r1⟩
theorem d_ret {e : E} (ha : PE X x (tT X.K (evT cl e))) : PS X (.Return (some x) pos) (tS X.K (evS cl (.ret e false))) := (ps_ret (pe_lk ha)).imp fun D σ H ⟨A, ρ, st, c, s1, r, ef, q⟩ => by
  obtain ⟨d, s2, e1, ef⟩ := Out.bind_ok (show (evE cl e st).bind _ = _ from ef)
  cases ef
  exact ⟨A, ρ, st, d, s1, r, e1, fun ρ1 v H1 f1 r1 hv => q ρ1 σ v H1 f1 ⟨r1, hv⟩⟩
theorem lkF_ok {t : T} {d : D} {s0 s1 : Sta} (h : leak t s0 = .ok d s1) (ht : ∃ d, t = .v d) : t = .v d ∧ s0 = s1 := by
  obtain ⟨d', rfl⟩ := ht
  cases h
  exact ⟨rfl, rfl⟩
theorem d_retF {e : E} (ha : PE X x (tF X.K (evT cl e))) (hv : ∀ st t s1, evT cl e st = .ok t s1 → ∃ d, t = .v d) : PS X (.Return (some x) pos) (tS X.K (evS cl (.ret e true))) := (ps_ret ha).imp fun D σ H ⟨A, ρ, st, c, s1, r, ef, q⟩ => by
  obtain ⟨d, s2, e1, ef⟩ := Out.bind_ok (show (evE cl e st).bind _ = _ from ef)
  cases ef
  obtain ⟨t, s0, e2, e3⟩ := Out.bind_ok (show (evT cl e st).bind leak = _ from e1)
  obtain ⟨rfl, rfl⟩ := lkF_ok e3 (hv _ _ _ e2)
  refine ⟨A, ρ, st, .v d, _, r, e2, fun ρ1 v H1 f1 fx => q ρ1 σ v H1 f1 ?_⟩
  unfold RtOk
  rw [if_pos rfl]
  rcases fx with ⟨ds, a, vs, e1, e2, n, h⟩ | ⟨h0, h1, h2⟩
  · exact .inl ⟨ds, a, vs, T.v.inj e1, e2, n, h⟩
  · exact .inr ⟨fun ds z => h0 ds (by rw [z]), h1, h2⟩
theorem d_retN : PS X (.Return none pos) (tS X.K (evS cl .retN)) := ps_retN.imp fun D σ H ⟨A, ρ, st, c, s1, r, ef, q⟩ => by
  cases ef
  exact q ρ σ .non H Fr.refl ⟨r, (show V.non = V.non from rfl)⟩
theorem d_if {c : C} {a b : List S} {ps qs : List Stmt} (hc : PT X x (tBo X.K (evB cl c))) (ha : PSs X ps (tS X.K (evSs cl a))) (hb : PSs X qs (tS X.K (evSs cl b))) : PS X (.If x ps qs pos) (tS X.K (evS cl (.ite c a b))) :=
  (ps_if hc ha hb).imp fun D σ H ⟨A, ρ, st, c', s2, r, ef, q⟩ => by
    obtain ⟨k, s1, e1, ef⟩ := Out.bind_ok (show (evB cl c st).bind _ = _ from ef)
    refine ⟨A, ρ, st, k, s1, r, e1, fun ρ1 H1 f1 r1 => ?_⟩
    cases k with
    | true => simp only [if_true] at ef ⊢; exact ⟨A, ρ1, s1, c', s2, r1, ef, q.back f1⟩
    | false => simp only [Bool.false_eq_true, if_false] at ef ⊢; exact ⟨A, ρ1, s1, c', s2, r1, ef, q.back f1⟩
/-- a name gets a value -/
theorem d_setv {i : Nat} {e : E} {p : Stmt} (h : PS X p (tAsg (tD X.K fun st => lk (evT cl e st)) (gName i))) : PS X p (tS X.K (evS cl (.set i e false))) := h.imp fun D σ H ⟨A, ρ, st, c, s2, r, ef, q⟩ => by
  obtain ⟨d, s1, e1, ef⟩ := Out.bind_ok (show (evE cl e st).bind _ = _ from ef)
  split at ef
  · rename_i hi
    cases ef
    refine ⟨A, ρ, st, d, s1, r, e1, fun ρ1 v H1 f1 r1 hv => ?_⟩
    obtain ⟨f2, r2⟩ := r1.setv hv hi
    exact q ρ1 _ H1 (f1.trans f2) r2
  · cases ef
theorem mkSlot_val {d : D} (h : ∀ ds, d ≠ .lst ds) : mkSlot d = .val d := by
  cases d with
  | lst ds => exact absurd rfl (h ds)
  | _ => rfl
/-- a name gets an object of its own -/
theorem d_seto {i : Nat} {e : E} {p : Stmt} (h : PS X p (tAsg (tF X.K (evT cl e)) (gName i))) (hv : ∀ st t s1, evT cl e st = .ok t s1 → ∃ d, t = .v d) : PS X p (tS X.K (evS cl (.set i e true))) := h.imp fun D σ H ⟨A, ρ, st, c, s2, r, ef, q⟩ => by
  obtain ⟨d, s1, e1, ef⟩ := Out.bind_ok (show (evE cl e st).bind _ = _ from ef)
  obtain ⟨t, s0, e2, e3⟩ := Out.bind_ok (show (evT cl e st).bind leak = _ from e1)
  obtain ⟨rfl, rfl⟩ := lkF_ok e3 (hv _ _ _ e2)
  split at ef
  · rename_i hi
    cases ef
    refine ⟨A, ρ, st, .v d, _, r, e2, fun ρ1 v H1 f1 fx => ?_⟩
    have fx0 := fx.rep r
    rcases fx with ⟨ds, a, vs, e1, rfl, n, h1, h2, h3⟩ | ⟨h0, h1, h2⟩
    · cases e1
      have na : ¬ A a := fun z => by
        rcases n with n | n
        · obtain ⟨o, e1, _⟩ := r.tr a z
          rw [n] at e1; cases e1
        · obtain ⟨j, d', e1, e2⟩ := n
          obtain ⟨b, e3, nb, _⟩ := r.own j d' e1
          rw [e2] at e3; cases e3
          exact nb z
      have r2 := h1.seto na h2 h3 hi
      refine q ρ1 _ H1 ⟨f1.rho, f1.sz, f1.at_, f1.free, f1.live, fun b hb => ?_, fun j z => ?_⟩ r2
      case refine_2 =>
        obtain ⟨ne, z⟩ := busy_set (fun z => by cases z) z
        obtain ⟨y1, y2⟩ := f1.busy j z
        exact ⟨y1, by rw [List.getElem?_set_ne (fun y => ne y.symm)]⟩
      obtain ⟨j, d', z1, z2⟩ := hb
      rcases getElem?_set' z1 with ⟨y1, y⟩ | ⟨ne, y⟩
      · rcases getElem?_set' z2 with ⟨_, w⟩ | ⟨ne, _⟩
        · cases w
          exact n.elim Or.inr Or.inl
        · exact absurd y1 ne
      · rcases getElem?_set' z2 with ⟨y1, _⟩ | ⟨_, w⟩
        · exact absurd y1 ne
        · exact f1.own b ⟨j, d', y, w⟩
    · have hd : mkSlot d = .val d := mkSlot_val fun ds z => h0 ds (by rw [z])
      obtain ⟨f2, r2⟩ := h1.setv (d := d) (v := v) h2 hi
      refine q ρ1 _ H1 ?_ ?_
      · rw [if_pos rfl, hd]; exact f1.trans f2
      · rw [if_pos rfl, hd]; exact r2
  · cases ef
theorem d_asg {g : G} {e : E} {W : List Nat} {p : Stmt} (h : PS X p (tAsg (tD X.K fun st => lk (evT cl e st)) (tG X.K W (evG cl g)))) : PS X p (tS X.K (evS cl (.asg g e))) := h.imp fun D σ H ⟨A, ρ, st, c, s3, r, ef, q⟩ => by
  obtain ⟨d, s1, e1, ef⟩ := Out.bind_ok (show (evE cl e st).bind _ = _ from ef)
  obtain ⟨_, s2, e2, ef⟩ := Out.bind_ok ef
  cases ef
  exact ⟨A, ρ, st, d, s1, r, e1, fun ρ1 v H1 f1 r1 hv => ⟨A, ρ1, s1, d, s3, r1, hv, e2, fun ρ2 σ2 H2 _ f2 r2 => q ρ2 σ2 H2 (f1.trans f2) r2⟩⟩
theorem d_aug {i : Nat} {op : BOp} {e : E} {p : Stmt} (h : PS X p (tAug i (tD X.K fun st => lk (evT cl e st)) (rIntF (intF op)))) : PS X p (tS X.K (evS cl (.aug i op e))) := h.imp fun D σ H ⟨A, ρ, st, c, s3, r, ef, q⟩ => by
  unfold evS at ef
  cases e0 : st.env[i]? with
  | none => simp only [e0] at ef; cases ef
  | some s =>
    cases s with
    | val dx =>
      simp only [e0] at ef
      obtain ⟨dy, s1, e1, ef⟩ := Out.bind_ok ef
      obtain ⟨v, hv, hr⟩ := r.val i _ e0
      split at ef
      · rename_i a b zz hz
        split at ef
        · rename_i hi
          cases ef
          obtain ⟨i', j', k', q1, q2, q3, q4⟩ | ⟨_, _, _, z, _⟩ := binF_int hz
          · cases q1; cases q2
            subst q4
            refine ⟨v, hv, A, ρ, st, _, s1, r, e1, fun ρ1 w H1 f1 r1 hw => ⟨_, _, k', hr, hw, q3, ?_⟩⟩
            obtain ⟨f2, r2⟩ := r1.setv (d := .int k') (v := .int k') (show V.int k' = V.int k' from rfl) hi
            exact q ρ1 _ H1 (f1.trans f2) r2
          · cases z
        · cases ef
      · cases ef
    | _ => simp only [e0] at ef; cases ef

/-! ### loops -/
section
variable {K : PySem.W.Frag} {A B : Addr → Prop} {ρ ρ' : Nat → Addr} {σ σ' : L2.St} {H H' : Hp} {st st' : Sta}
/-- slots that hold nothing any more -/
theorem Rel.reenv (r : Rel K A ρ σ H st) {env' : Env} (hl : env'.length = st.env.length) (hv : ∀ (j : Nat) (s : Slot), env'[j]? = some s → s ≠ .no → s ≠ .busy → st.env[j]? = some s) : Rel K A ρ σ H { st with env := env' } := by
  have ov : ∀ {j : Nat} {d : D}, env'[j]? = some (Slot.val d) → st.env[j]? = some (Slot.val d) := fun h => hv _ _ h (fun z => by cases z) (fun z => by cases z)
  have oo : ∀ {j : Nat} {d : D}, env'[j]? = some (Slot.own d) → st.env[j]? = some (Slot.own d) := fun h => hv _ _ h (fun z => by cases z) (fun z => by cases z)
  have hch : ∀ a, Ch A ρ σ { st with env := env' } a → Ch A ρ σ st a := fun a z => z.elim (fun z => Or.inl z) fun z => z.elim (fun z => Or.inr (Or.inl z)) fun ⟨j, d, h1, h2⟩ => Or.inr (Or.inr ⟨j, d, oo h1, h2⟩)
  have kp : Keep ρ st.S.length (Ch A ρ σ st) H ρ st.S.length (Ch A ρ σ { st with env := env' }) H := Keep.less hch fun a z => r.chH z
  refine ⟨by rw [← r.len]; exact hl, fun j d h => ?_, fun j d h => ?_, fun m xs e => ?_, r.tr, fun j k d e a h1 h2 => r.oo j k d e a (oo h1) (oo h2), r.cc, fun j d m xs h1 h2 => r.oc j d m xs (oo h1) h2⟩
  · obtain ⟨v, e1, q⟩ := r.val j d (ov h)
    exact ⟨v, e1, Rep.keep kp q⟩
  · obtain ⟨a, e1, na, c⟩ := r.own j d (oo h)
    refine ⟨a, e1, na, ?_⟩
    cases d with
    | lst ds => obtain ⟨vs, z, q⟩ := c; exact ⟨vs, z, Reps.keep kp q⟩
    | _ => exact (show False from c).elim
  · obtain ⟨na, vs, z, q⟩ := r.cell m xs e
    exact ⟨na, vs, z, Reps.keep kp q⟩
theorem yields_held (r : Rel K A ρ σ H st) {ds : List D} {vs : List V} {a : Addr} (ha : A a) (h1 : H a = some (.lst vs)) (h2 : Reps K ρ st.S.length (Ch A ρ σ st) H ds vs) : Yields K A ρ σ H st (Itl K a) ds := fun B i ρ' σ' H' st' f r' hB => by
  have nl : ¬ Live ρ st.S a := fun ⟨n, xs, e, z⟩ => (r.cell n xs e).1 (by rw [z]; exact ha)
  have no : ¬ Own st.env σ a := fun ⟨j, d, e, z⟩ => by
    obtain ⟨b, e1, nb, _⟩ := r.own j d e
    rw [z] at e1; cases e1
    exact nb ha
  have hs : SqL K H' a vs := .inl (.inl (f.at_ a _ h1 nl no))
  have hr := Reps.keep (r.keepB f hB) h2
  refine ⟨fun d hd => ?_, fun hl => ⟨vs, hs, by rw [h2.length]; exact hl⟩⟩
  obtain ⟨v, e1, e2⟩ := hr.get hd
  exact ⟨⟨vs, v, hs, e1⟩, fun x H2 ⟨e, hx⟩ => by
    subst e
    have := hx vs hs
    rw [e1] at this; cases this
    exact ⟨Fr.refl, r', e2⟩⟩
end
theorem for_in {g : G} {body : List S} {W : List Nat} {D : Ends} {A : Addr → Prop} {ρ1 : Nat → Addr} {σ : L2.St} {H1 : Hp} {s1 s2 : Sta} {c : Ctl} {J : It} {ds : List Gp.D} (r1 : Rel X.K A ρ1 σ H1 s1) (hy : Yields X.K A ρ1 σ H1 s1 J ds) (ef : loop (evG cl g) (evSs cl body) ds s1 = .ok c s2) (q : EndOk X.K A ρ1 σ H1 s1 c s2 D) :
    tFor (fun _ H R => R J H) (tG X.K W (evG cl g)) (tS X.K (evSs cl body)) D σ H1 := by
  refine ⟨fun i m σ2 H2 => ∃ ρ2 st2, m = ds.length - i ∧ i ≤ ds.length ∧ Fr A ρ1 σ H1 s1 ρ2 σ2 H2 st2 ∧ Rel X.K A ρ2 σ2 H2 st2 ∧ loop (evG cl g) (evSs cl body) (ds.drop i) st2 = .ok c s2, ⟨ds.length, ρ1, s1, by simp, Nat.zero_le _, Fr.refl, r1, ef⟩, ?_⟩
  rintro i m σ2 H2 ⟨ρ2, st2, rfl, hi, f2, r2, hl⟩
  by_cases hlt : i < ds.length
  · rw [List.drop_eq_getElem_cons hlt] at hl
    have hl' : (evG cl g ds[i] st2).bind (fun _ s1 => (evSs cl body s1).bind fun c s2 => match c with
      | .nx => loop (evG cl g) (evSs cl body) (ds.drop (i + 1)) s2
      | .ct => loop (evG cl g) (evSs cl body) (ds.drop (i + 1)) s2
      | .bk => .ok .nx s2
      | .rt d fr => .ok (.rt d fr) s2) = .ok c s2 := hl
    obtain ⟨_, s3, t1, hl'⟩ := Out.bind_ok hl'
    obtain ⟨c4, s4, t2, hl'⟩ := Out.bind_ok hl'
    obtain ⟨go, yl⟩ := (hy A i ρ2 σ2 H2 st2 f2 r2 fun a z => .inl z).1 _ (List.getElem?_eq_getElem hlt)
    refine .inr ⟨go, fun σ' H' => ∃ ρ2 st2, i + 1 ≤ ds.length ∧ Fr A ρ1 σ H1 s1 ρ2 σ' H' st2 ∧ Rel X.K A ρ2 σ' H' st2 ∧ loop (evG cl g) (evSs cl body) (ds.drop (i + 1)) st2 = .ok c s2, fun σ' H' ⟨ρ3, st3, h⟩ => ⟨ds.length - (i + 1), by omega, ρ3, st3, rfl, h⟩, fun x H3 hx => ?_⟩
    obtain ⟨fy, ry, py⟩ := yl x H3 hx
    refine ⟨A, ρ2, st2, ds[i], s3, ry, py, t1, fun ρ4 σ4 H4 _ f4 r4 => ⟨A, ρ4, s3, c4, s4, r4, t2, ?_⟩⟩
    have fa := (f2.trans fy).trans f4
    cases c4 with
    | nx => exact fun ρ5 σ5 H5 f5 r5 => ⟨ρ5, s4, hlt, fa.trans f5, r5, hl'⟩
    | ct => exact fun ρ5 σ5 H5 f5 r5 => ⟨ρ5, s4, hlt, fa.trans f5, r5, hl'⟩
    | bk => cases hl'; exact fun ρ5 σ5 H5 f5 r5 => q ρ5 σ5 H5 (fa.trans f5) r5
    | rt d fr => cases hl'; exact fun ρ5 σ5 v H5 f5 r5 => q ρ5 σ5 v H5 (fa.trans f5) (r5.back fa)
  · have ei : i = ds.length := by omega
    subst ei
    rw [List.drop_length] at hl
    cases hl
    exact .inl ⟨(hy A _ ρ2 σ2 H2 _ f2 r2 fun a z => .inl z).2 (Nat.le_refl _), q ρ2 σ2 H2 f2 r2⟩
theorem d_for {g : G} {it : I} {body : List S} {W : List Nat} {tgx itx : Expr} {ps : List Stmt} (hp : PassesOwn (model X.prog X.w) X.A X.env X.xe) (hc : X.calm = true) (hi : PI X tgx itx (tI X.K (evI cl it))) (hg : PG X tgx (tG X.K W (evG cl g))) (hb : PSs X ps (tS X.K (evSs cl body)))
    (hs : ∀ x, foldedSetIterable itx X.env x = pure x) : PS X (.For tgx itx ps [] pos) (tS X.K (evS cl (.for g it body))) :=
  (ps_for hp hc hi hg hb hs).imp fun D σ H ⟨A, ρ, st, c, s2, r, ef, q⟩ => by
    obtain ⟨ds, s1, e1, ef⟩ := Out.bind_ok (show (evI cl it st).bind _ = _ from ef)
    exact ⟨A, ρ, st, ds, s1, r, e1, fun ρ1 J H1 f1 r1 hy => for_in r1 hy ef (q.back f1)⟩
/-- over an own list: nobody touches it meanwhile -/
theorem d_forO {g : G} {i : Nat} {n : Str} {p : Pos} {body : List S} {W : List Nat} {tgx : Expr} {ps : List Stmt} (hp : PassesOwn (model X.prog X.w) X.A X.env X.xe) (hc : X.calm = true) (hN : X.N[i]? = some n) (hv : Vis X.env.scope n) (h1 : (n == ("__debug__" : Str)) = false) (h2 : (n == ("__classdict__" : Str)) = false) (hg : PG X tgx (tG X.K W (evG cl g))) (hb : PSs X ps (tS X.K (evSs cl body))) :
    PS X (.For tgx (.Name n p) ps [] pos) (tS X.K (evS cl (.forO i g body))) :=
  (ps_for hp hc (pi_list (pe_var hN hv h1 h2)) hg hb (fun _ => rfl)).imp fun D σ H ⟨A, ρ, st, c, s2, r, ef, q⟩ => by
    unfold evS at ef
    split at ef
    · rename_i xs e
      obtain ⟨c1, s1, el, ef⟩ := Out.bind_ok ef
      obtain ⟨v, ev, fg, fx⟩ := r.given e
      rcases fx with ⟨ds, a, vs, e1, rfl, nn, rg, hH, hr⟩ | ⟨h0, _⟩
      · cases e1
        have rb : Rel X.K (And1 A a) ρ σ H { st with env := st.env.set i .busy } := by
          refine rg.reenv (by rw [List.length_set]; exact List.length_set.symm) fun j s h _ hs => ?_
          rcases getElem?_set' h with ⟨_, z⟩ | ⟨ne, z⟩
          · exact absurd z hs
          · show (st.env.set i .no)[j]? = some s
            rw [List.getElem?_set_ne (fun y => ne y.symm)]
            exact z
        have hy : Yields X.K (And1 A a) ρ σ H { st with env := st.env.set i .busy } (Itl X.K a) xs := by
          refine yields_held rb (.inr rfl) hH (Reps.keep (Keep.less (fun b z => ?_) fun b z => rg.chH z) hr)
          rcases z with z | z | ⟨j, d, z1, z2⟩
          · exact .inl z
          · exact .inr (.inl z)
          · refine .inr (.inr ⟨j, d, ?_, z2⟩)
            rcases getElem?_set' z1 with ⟨_, z⟩ | ⟨ne, z⟩
            · cases z
            · show (st.env.set i .no)[j]? = _
              rw [List.getElem?_set_ne (fun y => ne y.symm)]
              exact z
        have ownb : ∀ b, Own (st.env.set i .busy) σ b → Own st.env σ b := fun b ⟨j, d, z1, z2⟩ => by
          rcases getElem?_set' z1 with ⟨_, z⟩ | ⟨ne, z⟩
          · cases z
          · exact ⟨j, d, z, z2⟩
        have na : ¬ A a := fun z => by
          rcases nn with n | n
          · obtain ⟨o, e1, _⟩ := r.tr a z
            rw [n] at e1; cases e1
          · obtain ⟨j, d', e1, e2⟩ := n
            obtain ⟨b, e3, nb, _⟩ := r.own j d' e1
            rw [e2] at e3; cases e3
            exact nb z
        have hown : Own st.env σ a := ⟨i, _, e, ev⟩
        refine ⟨.ref a, ev, a, rfl, ⟨vs, .inl (.inl hH)⟩, for_in rb hy el ?_⟩
        split at ef
        · rename_i hb1
          cases ef
          intro ρ' σ' H' f r'
          have hσ : σ'[i]? = some (some (V.ref a)) := ((f.busy i hb1).2).trans ev
          have hi : i < s1.env.length := (List.getElem?_eq_some_iff.mp hb1).1
          have e1 : σ'.set i (some (V.ref a)) = σ' := by
            apply List.ext_getElem?
            intro j
            by_cases y : j = i
            · subst y
              rw [List.getElem?_set_self (by rw [← r'.len]; exact hi), hσ]
            · rw [List.getElem?_set_ne (fun z => y z.symm)]
          have nl : ¬ Live ρ ({ st with env := st.env.set i .busy } : Sta).S a := fun ⟨n, xs, e, z⟩ => (rb.cell n xs e).1 (by rw [z]; exact .inr rfl)
          have no : ¬ Own ({ st with env := st.env.set i .busy } : Sta).env σ a := fun ⟨j, d, e, z⟩ => by
            obtain ⟨b, e1, nb, _⟩ := rb.own j d e
            rw [z] at e1; cases e1
            exact nb (.inr rfl)
          have hH' : H' a = some (.lst vs) := f.at_ a _ hH nl no
          have r3 := r'.seto (i := i) na hH' (Reps.keep (rb.keep f) (Reps.keep (Keep.less (fun b z => z) fun b z => rb.chH z) (by
            refine Reps.keep (Keep.less (fun b z => ?_) fun b z => rg.chH z) hr
            rcases z with z | z | ⟨j, d, z1, z2⟩
            · exact .inl z
            · exact .inr (.inl z)
            · refine .inr (.inr ⟨j, d, ?_, z2⟩)
              rcases getElem?_set' z1 with ⟨_, z⟩ | ⟨ne, z⟩
              · cases z
              · show (st.env.set i .no)[j]? = _
                rw [List.getElem?_set_ne (fun y => ne y.symm)]
                exact z))) hi
          rw [e1] at r3
          refine q ρ' σ' H' ⟨f.rho, f.sz, fun b o z1 z2 z3 => f.at_ b o z1 z2 fun y => z3 (ownb b y), f.free, f.live, fun b ⟨j, d, z1, z2⟩ => ?_, fun j z => ?_⟩ r3
          · rcases getElem?_set' z1 with ⟨y1, _⟩ | ⟨_, y⟩
            · subst y1
              rw [hσ] at z2; cases z2
              exact .inl hown
            · exact (f.own b ⟨j, d, y, z2⟩).imp (ownb b) id
          · obtain ⟨ne, z⟩ := busy_set (fun z => by cases z) z
            obtain ⟨y1, y2⟩ := f.busy j z
            rcases getElem?_set' y1 with ⟨y, _⟩ | ⟨_, y⟩
            · exact absurd y ne
            · exact ⟨y, y2⟩
        · rename_i d fr hb1
          cases ef
          intro ρ' σ' v H' f rt
          have frame : Fr A ρ σ H st ρ' σ' H' { s1 with env := s1.env.set i .no } := by
            refine ⟨f.rho, f.sz, fun b o z1 z2 z3 => f.at_ b o z1 z2 fun y => z3 (ownb b y), f.free, f.live, fun b ⟨j, d, z1, z2⟩ => ?_, fun j z => ?_⟩
            · rcases getElem?_set' z1 with ⟨_, z⟩ | ⟨_, y⟩
              · cases z
              · exact (f.own b ⟨j, d, y, z2⟩).imp (ownb b) id
            · obtain ⟨ne, z⟩ := busy_set (fun z => by cases z) z
              obtain ⟨y1, y2⟩ := f.busy j z
              rcases getElem?_set' y1 with ⟨y, _⟩ | ⟨_, y⟩
              · exact absurd y ne
              · exact ⟨y, y2⟩
          have re : ∀ {B : Addr → Prop}, Rel X.K B ρ' σ' H' s1 → Rel X.K B ρ' σ' H' { s1 with env := s1.env.set i .no } := fun {B} r => r.reenv List.length_set fun j s h hs _ => by
            rcases getElem?_set' h with ⟨_, z⟩ | ⟨_, z⟩
            · exact absurd z hs
            · exact z
          have che : ∀ {B B' : Addr → Prop}, (∀ b, B' b → B b) → ∀ b, Ch B' ρ' σ' { s1 with env := s1.env.set i .no } b → Ch B ρ' σ' s1 b := fun {B B'} hB b z => by
            rcases z with z | z | ⟨j, d, z1, z2⟩
            · exact .inl (hB b z)
            · exact .inr (.inl z)
            · refine .inr (.inr ⟨j, d, ?_, z2⟩)
              rcases getElem?_set' z1 with ⟨_, z⟩ | ⟨_, z⟩
              · cases z
              · exact z
          refine q ρ' σ' v H' frame ?_
          unfold RtOk at rt ⊢
          split
          · rename_i hfr
            rw [if_pos hfr] at rt
            rcases rt with ⟨ds', b, ws, y1, y2, n, z1, z2, z3⟩ | ⟨h0, z1, z2⟩
            · exact .inl ⟨ds', b, ws, y1, y2, n.imp id (ownb b), (re z1).weak (fun b z => z.imp .inl id), z2, Reps.keep (Keep.less (che fun b z => z.imp .inl id) fun b z => z1.chH z) z3⟩
            · exact .inr ⟨h0, (re z1).weak (fun b z => .inl z), Rep.keep (Keep.less (che fun b z => .inl z) fun b z => z1.chH z) z2⟩
          · rename_i hfr
            rw [if_neg hfr] at rt
            exact ⟨(re rt.1).weak (fun b z => .inl z), Rep.keep (Keep.less (che fun b z => .inl z) fun b z => rt.1.chH z) rt.2⟩
        · cases ef
      · exact (h0 _ rfl).elim
    · cases ef
theorem d_wh {c : C} {body : List S} {ps : List Stmt} (hp : PassesOwn (model X.prog X.w) X.A X.env X.xe) (hc : PT X x (tBo X.K (evB cl c))) (hb : PSs X ps (tS X.K (evSs cl body))) : PS X (.While x ps [] pos) (tS X.K (evS cl (.wh c body))) :=
  (ps_while hp hc hb).imp fun D σ H ⟨A, ρ, st, c', s2, r, ef, q⟩ => by
    have ef : whil (evB cl c) (evSs cl body) fuel st = .ok c' s2 := ef
    refine ⟨fun m σ2 H2 => ∃ ρ2 st2, Fr A ρ σ H st ρ2 σ2 H2 st2 ∧ Rel X.K A ρ2 σ2 H2 st2 ∧ whil (evB cl c) (evSs cl body) m st2 = .ok c' s2, ⟨fuel, ρ, st, Fr.refl, r, ef⟩, ?_⟩
    rintro m σ2 H2 ⟨ρ2, st2, f2, r2, hw⟩
    cases m with
    | zero => cases hw
    | succ m =>
      obtain ⟨k, s3, t1, hw⟩ := Out.bind_ok (show (evB cl c st2).bind _ = _ from hw)
      refine ⟨A, ρ2, st2, k, s3, r2, t1, fun ρ3 H3 f3 r3 => ?_⟩
      cases k with
      | true =>
        simp only [if_true] at hw ⊢
        obtain ⟨c4, s4, t2, hw⟩ := Out.bind_ok hw
        refine ⟨fun σ' H' => ∃ ρ2 st2, Fr A ρ σ H st ρ2 σ' H' st2 ∧ Rel X.K A ρ2 σ' H' st2 ∧ whil (evB cl c) (evSs cl body) m st2 = .ok c' s2, fun σ' H' h => ⟨m, Nat.lt_succ_self _, h⟩, A, ρ3, s3, c4, s4, r3, t2, ?_⟩
        have fa := f2.trans f3
        cases c4 with
        | nx => exact fun ρ5 σ5 H5 f5 r5 => ⟨ρ5, s4, fa.trans f5, r5, hw⟩
        | ct => exact fun ρ5 σ5 H5 f5 r5 => ⟨ρ5, s4, fa.trans f5, r5, hw⟩
        | bk => cases hw; exact fun ρ5 σ5 H5 f5 r5 => q ρ5 σ5 H5 (fa.trans f5) r5
        | rt d fr => cases hw; exact fun ρ5 σ5 v H5 f5 r5 => q ρ5 σ5 v H5 (fa.trans f5) (r5.back fa)
      | false =>
        simp only [Bool.false_eq_true, if_false] at hw ⊢
        cases hw
        exact q ρ3 σ2 H3 (f2.trans f3) r3
end
end Gp

/-! Gp, part K: a text of Python is one of the small language: a decision, and what it shows. -/
namespace Gp
open PySem L2

/-- where a text stands: the def's names by slot, the scope, the block's own scope, the defs -/
structure Ce where
  N : List Str
  sc : Scope
  ow : Scope
  tab : List Def

def visB (sc : Scope) (x : Str) : Bool := match sc.names.lookup x with
  | some .local => true
  | some .cell => true
  | some .free => true
  | _ => false
def locB (sc : Scope) (x : Str) : Bool := match sc.names.lookup x with
  | some .local => true
  | some .cell => true
  | _ => false
def glB (sc : Scope) (x : Str) : Bool := match sc.names.lookup x with
  | some .globalImplicit => !(x == ("__debug__" : Str)) && decide (x ≠ ("__name__" : Str))
  | _ => false
def okName (x : Str) : Bool := !(x == ("__debug__" : Str)) && !(x == ("__classdict__" : Str))
def notStar : Expr → Bool
  | .Starred .. => false
  | _ => true
def notSlice : Expr → Bool
  | .Slice .. => false
  | _ => true
def notCall : Expr → Bool
  | .Call .. => false
  | _ => true
def notSet : Expr → Bool
  | .Set .. => false
  | _ => true
def notComp : Expr → Bool
  | .ListComp .. => false
  | .SetComp .. => false
  | .DictComp .. => false
  | _ => true
def plainTest : Expr → Bool
  | .UnaryOp .Not _ _ => false
  | .BoolOp .. => false
  | .IfExp .. => false
  | .Compare .. => false
  | _ => true
def COp.plain : COp → Bool
  | .inn => false
  | .notin => false
  | _ => true
def cstB : D → Const → Bool
  | .non, .none => true
  | .bl b, .bool c => b == c
  | .int i, .int j => i == j
  | .str x, .str y => x == y
  | _, _ => false
def tabName (tab : List Def) (f : Nat) (x : Str) : Bool := match tab[f]? with
  | some df => df.name == x
  | none => false
mutual
def G.slots : G → List Nat
  | .name i => [i]
  | .tup gs => G.slotss gs
  | .sub _ _ => []
def G.slotss : List G → List Nat
  | [] => []
  | g :: gs => g.slots ++ G.slotss gs
end
mutual
def G.plain : G → Bool
  | .name _ => true
  | .tup gs => G.plains gs
  | .sub _ _ => false
def G.plains : List G → Bool
  | [] => true
  | g :: gs => g.plain && G.plains gs
end
def isFresh (tab : List Def) : E → Bool
  | .mv _ => true
  | .bin _ _ _ => true
  | .cut _ _ _ => true
  | .back _ => true
  | .lst _ => true
  | .rep _ _ => true
  | .b1 _ _ => true
  | .lrange _ _ => true
  | .lrange1 _ => true
  | .comp _ _ _ _ _ => true
  | .call f _ => (match tab[f]? with
    | some df => df.fr
    | none => false)
  | .pcall f _ => (match tab[f]? with
    | some df => df.fr
    | none => false)
  | _ => false
def ownNames (N : List Str) (own : List Nat) : List (Str × Nat) := own.map fun i => (N.getD i Str.empty, i)
def cmpTest : Expr → E → Bool
  | .Compare .., .cmp .. => true
  | .Compare .., .chain .. => true
  | _, _ => false
def asName : Expr → Option (Str × Pos)
  | .Name x p => some (x, p)
  | _ => none
theorem asName_eq {e : Expr} {x : Str} {p : Pos} (h : asName e = some (x, p)) : e = .Name x p := by
  unfold asName at h
  split at h
  · cases h; rfl
  · cases h
def asBin : Expr → Option (Expr × Operator × Expr × Pos)
  | .BinOp x o y p => some (x, o, y, p)
  | _ => none
theorem asBin_eq {e : Expr} {x y : Expr} {o : Operator} {p : Pos} (h : asBin e = some (x, o, y, p)) : e = .BinOp x o y p := by
  unfold asBin at h
  split at h
  · cases h; rfl
  · cases h
def asUn : Expr → Option (UnaryOp × Expr × Pos)
  | .UnaryOp o x p => some (o, x, p)
  | _ => none
theorem asUn_eq {e : Expr} {x : Expr} {o : UnaryOp} {p : Pos} (h : asUn e = some (o, x, p)) : e = .UnaryOp o x p := by
  unfold asUn at h
  split at h
  · cases h; rfl
  · cases h
def asCmp1 : Expr → Option (Expr × CmpOp × Expr × Pos)
  | .Compare x [o] [y] p => some (x, o, y, p)
  | _ => none
theorem asCmp1_eq {e : Expr} {x y : Expr} {o : CmpOp} {p : Pos} (h : asCmp1 e = some (x, o, y, p)) : e = .Compare x [o] [y] p := by
  unfold asCmp1 at h
  split at h
  · cases h; rfl
  · cases h
def asCmp2 : Expr → Option (Expr × CmpOp × CmpOp × Expr × Expr × Pos)
  | .Compare x [o, o'] [y, z] p => some (x, o, o', y, z, p)
  | _ => none
theorem asCmp2_eq {e : Expr} {x y z : Expr} {o o' : CmpOp} {p : Pos} (h : asCmp2 e = some (x, o, o', y, z, p)) : e = .Compare x [o, o'] [y, z] p := by
  unfold asCmp2 at h
  split at h
  · cases h; rfl
  · cases h
def asBool : Expr → Option (BoolOp × Expr × Expr × List Expr × Pos)
  | .BoolOp o (x :: y :: r) p => some (o, x, y, r, p)
  | _ => none
theorem asBool_eq {e : Expr} {x y : Expr} {o : BoolOp} {r : List Expr} {p : Pos} (h : asBool e = some (o, x, y, r, p)) : e = .BoolOp o (x :: y :: r) p := by
  unfold asBool at h
  split at h
  · cases h; rfl
  · cases h
def asIfE : Expr → Option (Expr × Expr × Expr × Pos)
  | .IfExp z x y p => some (z, x, y, p)
  | _ => none
theorem asIfE_eq {e : Expr} {x y z : Expr} {p : Pos} (h : asIfE e = some (z, x, y, p)) : e = .IfExp z x y p := by
  unfold asIfE at h
  split at h
  · cases h; rfl
  · cases h
def asSub : Expr → Option (Expr × Expr × Pos)
  | .Subscript x y p => some (x, y, p)
  | _ => none
theorem asSub_eq {e : Expr} {x y : Expr} {p : Pos} (h : asSub e = some (x, y, p)) : e = .Subscript x y p := by
  unfold asSub at h
  split at h
  · cases h; rfl
  · cases h
def asSlice : Expr → Option (Option Expr × Option Expr × Option Expr × Pos)
  | .Slice l u t p => some (l, u, t, p)
  | _ => none
theorem asSlice_eq {e : Expr} {l u t : Option Expr} {p : Pos} (h : asSlice e = some (l, u, t, p)) : e = .Slice l u t p := by
  unfold asSlice at h
  split at h
  · cases h; rfl
  · cases h
def asTup : Expr → Option (List Expr × Nat × Pos)
  | .Tuple xs k p => some (xs, k, p)
  | _ => none
theorem asTup_eq {e : Expr} {xs : List Expr} {k : Nat} {p : Pos} (h : asTup e = some (xs, k, p)) : e = .Tuple xs k p := by
  unfold asTup at h
  split at h
  · cases h; rfl
  · cases h
def asLst : Expr → Option (List Expr × Pos)
  | .List xs p => some (xs, p)
  | _ => none
theorem asLst_eq {e : Expr} {xs : List Expr} {p : Pos} (h : asLst e = some (xs, p)) : e = .List xs p := by
  unfold asLst at h
  split at h
  · cases h; rfl
  · cases h
def asCall : Expr → Option (Str × Pos × List Expr × Pos)
  | .Call (.Name x px) xs [] p => some (x, px, xs, p)
  | _ => none
theorem asCall_eq {e : Expr} {x : Str} {px : Pos} {xs : List Expr} {p : Pos} (h : asCall e = some (x, px, xs, p)) : e = .Call (.Name x px) xs [] p := by
  unfold asCall at h
  split at h
  · cases h; rfl
  · cases h
def asMeth : Expr → Option (Expr × Str × Pos × List Expr × Pos)
  | .Call (.Attribute x f ap) xs [] p => some (x, f, ap, xs, p)
  | _ => none
theorem asMeth_eq {e : Expr} {x : Expr} {f : Str} {ap : Pos} {xs : List Expr} {p : Pos} (h : asMeth e = some (x, f, ap, xs, p)) : e = .Call (.Attribute x f ap) xs [] p := by
  unfold asMeth at h
  split at h
  · cases h; rfl
  · cases h
def asLc : Expr → Option (Expr × Expr × Expr × List Expr × Scope × Pos)
  | .ListComp elt [⟨tg, iter, ifs, 0⟩] scope p => some (elt, tg, iter, ifs, scope, p)
  | _ => none
theorem asLc_eq {e : Expr} {elt tg iter : Expr} {ifs : List Expr} {scope : Scope} {p : Pos} (h : asLc e = some (elt, tg, iter, ifs, scope, p)) : e = .ListComp elt [⟨tg, iter, ifs, 0⟩] scope p := by
  unfold asLc at h
  split at h
  · cases h; rfl
  · cases h
def asCst : Expr → Option (Const × Nat × Pos)
  | .Constant k a p => some (k, a, p)
  | _ => none
theorem asCst_eq {e : Expr} {k : Const} {a : Nat} {p : Pos} (h : asCst e = some (k, a, p)) : e = .Constant k a p := by
  unfold asCst at h
  split at h
  · cases h; rfl
  · cases h
/-- -1 as it stands in a slice -/
def isNeg1 (t : Expr) : Bool := match asUn t with
  | some (.USub, y, _) => (match asCst y with
    | some (.int 1, _, _) => true
    | _ => false)
  | _ => false
theorem isNeg1_eq {t : Expr} (h : isNeg1 t = true) : ∃ k p1 p2, t = .UnaryOp .USub (.Constant (.int 1) k p1) p2 := by
  unfold isNeg1 at h
  split at h
  · rename_i y p ex
    split at h
    · rename_i k p1 ey
      exact ⟨k, p1, p, by rw [asUn_eq ex, asCst_eq ey]⟩
    · cases h
  · cases h
mutual
def ckE (c : Ce) : E → Expr → Bool
  | .var i, s => (match asName s with
    | some (x, _) => decide (c.N[i]? = some x) && visB c.sc x && okName x
    | none => false)
  | .mv i, s => (match asName s with
    | some (x, _) => decide (c.N[i]? = some x) && visB c.sc x && okName x
    | none => false)
  | .cst d, s => (match asCst s with
    | some (k, _, _) => cstB d k
    | none => false)
  | .bin op a b, s => (match asBin s with
    | some (x, o, y, _) => decide (o = op.py) && ckE c a x && ckE c b y
    | none => false)
  | .neg a, s => (match asUn s with
    | some (.USub, x, _) => ckE c a x
    | _ => false)
  | .cmp op a b, s => (match asCmp1 s with
    | some (x, o, y, _) => decide (o = op.py) && op.plain && ckE c a x && ckE c b y
    | none => false)
  | .chain p q a b d, s => (match asCmp2 s with
    | some (x, o, o', y, z, _) => decide (o = p.py) && decide (o' = q.py) && q.plain && ckE c a x && ckE c b y && ckE c d z
    | none => false)
  | .and a b, s => (match asBool s with
    | some (.And, x, y, [], _) => ckE c a x && ckE c b y
    | some (.And, x, y, z :: r, p) => ckE c a x && ckE c b (.BoolOp .And (y :: z :: r) p)
    | _ => false)
  | .or a b, s => (match asBool s with
    | some (.Or, x, y, [], _) => ckE c a x && ckE c b y
    | some (.Or, x, y, z :: r, p) => ckE c a x && ckE c b (.BoolOp .Or (y :: z :: r) p)
    | _ => false)
  | .not a, s => (match asUn s with
    | some (.Not, x, _) => ckE c a x
    | _ => false)
  | .ife d a b, s => (match asIfE s with
    | some (z, x, y, _) => ckC c d z && ckE c a x && ckE c b y
    | none => false)
  | .sub a b, s => (match asSub s with
    | some (x, y, _) => notSlice y && ckE c a x && ckE c b y
    | none => false)
  | .cut a lo hi, s => (match asSub s with
    | some (x, y, _) => (match asSlice y with
      | some (l, h, none, _) => ckE c a x && ckP c lo l && ckP c hi h
      | _ => false)
    | none => false)
  | .back a, s => (match asSub s with
    | some (x, y, _) => (match asSlice y with
      | some (none, none, some t, _) => isNeg1 t && ckE c a x
      | _ => false)
    | none => false)
  | .tup es, s => (match asTup s with
    | some (xs, _, _) => ckEs c es xs
    | none => false)
  | .lst es, s => (match asLst s with
    | some (xs, _) => ckEs c es xs
    | none => false)
  | .rep es k, s => (match asBin s with
    | some (x, .Mult, y, _) => (match asLst x with
      | some (xs, _) => ckEs c es xs && ckE c k y
      | none => false)
    | _ => false)
  | .call f es, s => (match asCall s with
    | some (x, _, xs, _) => tabName c.tab f x && glB c.sc x && ckEs c es xs
    | none => false)
  | .pcall f es, s => (match asCall s with
    | some (x, _, xs, _) => tabName c.tab f x && glB c.sc x && ckEs c es xs
    | none => false)
  | .b1 b a, s => (match asCall s with
    | some (x, _, [y], _) => decide (x = b.py.1) && glB c.sc x && notStar y && ckE c a y
    | _ => false)
  | .b2 b a d, s => (match asCall s with
    | some (x, _, [y, z], _) => decide (x = b.py.1) && glB c.sc x && notStar y && notStar z && ckE c a y && ckE c d z
    | _ => false)
  | .lrange a b, s => (match asCall s with
    | some (x, _, [w], _) => (match asCall w with
      | some (x', _, [y, z], _) => decide (x = ("list" : Str)) && decide (x' = ("range" : Str)) && glB c.sc x && glB c.sc x' && notStar y && notStar z && ckE c a y && ckE c b z
      | _ => false)
    | _ => false)
  | .lrange1 a, s => (match asCall s with
    | some (x, _, [w], _) => (match asCall w with
      | some (x', _, [y], _) => decide (x = ("list" : Str)) && decide (x' = ("range" : Str)) && glB c.sc x && glB c.sc x' && notStar y && ckE c a y
      | _ => false)
    | _ => false)
  | .isi t a, s => (match asCall s with
    | some (x, _, [y, w], _) => (match asName w with
      | some (u, _) => decide (x = ("isinstance" : Str)) && decide (u = Str.ofString t.py) && glB c.sc x && glB c.sc u && notStar y && ckE c a y
      | none => false)
    | _ => false)
  | .meth m o es, s => (match asMeth s with
    | some (x, name, apos, ys, cpos) => decide (name = m.py.1) && (apos.endLine == cpos.line) && notCall x && decide (ys.length ≤ 1) && ckE c o x && ckEs c es ys
    | none => false)
  | .comp e g it cs own, s => (match asLc s with
    | some (elt, tg, iter, ifs, scope, _) => blkC c.N c.sc scope (ownNames c.N own) && notSet iter && g.plain && g.slots.all (fun i => own.contains i) && decide (ifs.length ≤ 1) && ckI c it tg iter &&
      ckG ⟨c.N, relS scope c.sc, scope, c.tab⟩ g tg && ckCs ⟨c.N, relS scope c.sc, scope, c.tab⟩ cs ifs && ckE ⟨c.N, relS scope c.sc, scope, c.tab⟩ e elt
    | none => false)
def ckC (c : Ce) : C → Expr → Bool
  | .and a b, s => (match asBool s with
    | some (.And, x, y, [], _) => ckC c a x && ckC c b y
    | some (.And, x, y, z :: r, p) => ckC c a x && ckC c b (.BoolOp .And (y :: z :: r) p)
    | _ => false)
  | .or a b, s => (match asBool s with
    | some (.Or, x, y, [], _) => ckC c a x && ckC c b y
    | some (.Or, x, y, z :: r, p) => ckC c a x && ckC c b (.BoolOp .Or (y :: z :: r) p)
    | _ => false)
  | .not a, s => (match asUn s with
    | some (.Not, x, _) => ckC c a x
    | _ => false)
  | .val e, s => (plainTest s || cmpTest s e) && ckE c e s
def ckP (c : Ce) : Option E → Option Expr → Bool
  | none, x => x.isNone
  | some e, x => (match x with
    | some x => ckE c e x
    | none => false)
def ckEs (c : Ce) : List E → List Expr → Bool
  | [], xs => xs.isEmpty
  | e :: es, xs => (match xs with
    | x :: xs => notStar x && ckE c e x && ckEs c es xs
    | [] => false)
def ckCs (c : Ce) : List C → List Expr → Bool
  | [], xs => xs.isEmpty
  | e :: es, xs => (match xs with
    | x :: xs => ckC c e x && ckCs c es xs
    | [] => false)
def ckI (c : Ce) : I → Expr → Expr → Bool
  | .seq e, _, s => ckE c e s
  | .range1 a, _, s => (match asCall s with
    | some (x, _, [y], _) => decide (x = ("range" : Str)) && glB c.sc x && notStar y && ckE c a y
    | _ => false)
  | .range a b, _, s => (match asCall s with
    | some (x, _, [y, z], _) => decide (x = ("range" : Str)) && glB c.sc x && notStar y && notStar z && ckE c a y && ckE c b z
    | _ => false)
  | .enum e, tg, s => (match asTup tg, asCall s with
    | some (_, _, _), some (x, _, [y], _) => decide (x = ("enumerate" : Str)) && glB c.sc x && notStar y && ckE c e y
    | _, _ => false)
  | .zip a b, tg, s => (match asTup tg, asCall s with
    | some (_, _, _), some (x, _, [y, z], _) => decide (x = ("zip" : Str)) && glB c.sc x && notStar y && notStar z && ckE c a y && ckE c b z
    | _, _ => false)
  | .rev e, _, s => (match asCall s with
    | some (x, _, [y], _) => decide (x = ("reversed" : Str)) && glB c.sc x && notStar y && ckE c e y
    | _ => false)
def ckG (c : Ce) : G → Expr → Bool
  | .name i, s => (match asName s with
    | some (x, _) => decide (c.N[i]? = some x) && locB c.ow x
    | none => false)
  | .tup gs, s => (match asTup s with
    | some (xs, _, _) => ckGs c gs xs
    | none => false)
  | .sub o i, s => (match asSub s with
    | some (x, y, _) => notSlice y && ckE c o x && ckE c i y
    | none => false)
def ckGs (c : Ce) : List G → List Expr → Bool
  | [], xs => xs.isEmpty
  | g :: gs, xs => (match xs with
    | x :: xs => notStar x && ckG c g x && ckGs c gs xs
    | [] => false)
end

/-- the built-ins' names -/
def bNames : List Str := ["len", "all", "any", "list", "sum", "int", "abs", "min", "max", "range", "isinstance", "bool", "str", "tuple", "enumerate", "zip", "reversed"]
structure Okx (c : Ce) (n : Nat) (cl : CallF) (X : Cx) : Prop where
  N : X.N = c.N
  nd : c.N.Nodup
  sc : X.env.scope = c.sc
  st : ∀ x, locB c.ow x = true → Loc X.env.scope x ∧ (X.fn x = true ∨ X.env.scope.names.lookup x = some .local)
  calm : X.calm = true
  room : Room n X.A
  none : ∀ x ∈ bNames, X.mg x = none
  fn : ∀ f df, c.tab[f]? = some df → ∃ a fd ps, FnOk X.prog X.w X.K X.mg X.base CX0 n a fd ps (spF X.K (cl f) df.np df.fr) ∧ X.mg df.name = some (.ref a) ∧ PySem.W.keepIn X.K (.ref a) = true ∧ Binds X.K fd ps []
  np : ∀ f df ds S r, c.tab[f]? = some df → cl f ds S = some r → ds.length = df.np

section
variable {c : Ce} {n : Nat} {cl : CallF} {X : Cx} {x y z : Expr} {pos : Pos}
theorem vis_of (ok : Okx c n cl X) {x : Str} (h : visB c.sc x = true) : Vis X.env.scope x := by
  rw [ok.sc]
  unfold visB at h
  split at h
  · rename_i e; exact .inl e
  · rename_i e; exact .inr (.inl e)
  · rename_i e; exact .inr (.inr e)
  · cases h
theorem gl_of (ok : Okx c n cl X) {x : Str} (h : glB c.sc x = true) : Gl X x ∧ (x == ("__debug__" : Str)) = false ∧ x ≠ ("__name__" : Str) := by
  unfold glB at h
  split at h
  · rename_i e
    obtain ⟨h1, h2⟩ := Bool.and_eq_true_iff.mp h
    refine ⟨?_, by simpa using h1, of_decide_eq_true h2⟩
    show X.env.scope.names.lookup x = _
    rw [ok.sc]; exact e
  · cases h
theorem star1 {xs : List Expr} {env : PySem.Env} (h : notStar x = true) : starEach (x :: xs) env = (false, eval x env) :: starEach xs env := by
  cases x <;> first | rfl | cases h
def notStars : List Expr → Bool
  | [] => true
  | x :: xs => notStar x && notStars xs
theorem stars {env : PySem.Env} {pos : Pos} : ∀ {xs : List Expr}, notStars xs = true → (backTo pos (starEach xs env)).any (·.1) = false
  | [], _ => rfl
  | x :: xs, h => by
    obtain ⟨h1, h2⟩ := Bool.and_eq_true_iff.mp (show (notStar x && notStars xs) = true from h)
    rw [star1 h1]
    show (false || (backTo pos (starEach xs env)).any (·.1)) = false
    rw [stars h2]; rfl
theorem ck_stars : ∀ {es : List E} {xs : List Expr}, ckEs c es xs = true → notStars xs = true
  | [], [], _ => rfl
  | [], _ :: _, h => by unfold ckEs at h; cases h
  | _ :: _, [], h => by unfold ckEs at h; cases h
  | e :: es, x :: xs, h => by
    unfold ckEs at h
    have h : (notStar x && ckE c e x && ckEs c es xs) = true := h
    obtain ⟨h, h3⟩ := Bool.and_eq_true_iff.mp h
    obtain ⟨h1, h2⟩ := Bool.and_eq_true_iff.mp h
    show (notStar x && notStars xs) = true
    rw [h1, ck_stars h3]; rfl
theorem ck_len : ∀ {es : List E} {xs : List Expr}, ckEs c es xs = true → es.length = xs.length
  | [], [], _ => rfl
  | [], _ :: _, h => by unfold ckEs at h; cases h
  | _ :: _, [], h => by unfold ckEs at h; cases h
  | e :: es, x :: xs, h => by
    unfold ckEs at h
    have h : (notStar x && ckE c e x && ckEs c es xs) = true := h
    rw [List.length_cons, List.length_cons, ck_len (Bool.and_eq_true_iff.mp h).2]
theorem plainIx_of (h : notSlice y = true) : PlainIx y := by
  intro o i
  cases y <;> first | rfl | cases h
theorem nomark_of {op : COp} (h : op.plain = true) (b : Expr) : behindInMarks op.py b = false := nomark b (by cases op <;> first | decide | cases h) (by cases op <;> first | decide | cases h)
theorem base_of {f : Str} {env : PySem.Env} {whole : Sem Value} (h : notCall x = true) : attributeBase x f env whole = whole := by
  cases x <;> first | rfl | cases h
theorem test_of {env : PySem.Env} (h : plainTest x = true) : ∀ whole, isTrue x env whole = (do let v ← whole; standAt x.pos; holding [v] (truthy v)) := by
  intro whole
  cases x with
  | UnaryOp op a p => cases op <;> first | rfl | cases h
  | BoolOp => cases h
  | IfExp => cases h
  | Compare => cases h
  | _ => rfl
theorem set_of {env : PySem.Env} (h : notSet x = true) : ∀ v, foldedSetIterable x env v = pure v := by
  intro v
  cases x <;> first | rfl | cases h
theorem swap_of {t : Option Expr} {l : Nat} {env : PySem.Env} (h : notComp x = true) : swapsWith x t l env = pure false := by
  cases x <;> first | rfl | cases h
theorem boot_b1 : ∀ b : B1, bootBuiltins b.py.1 = some b.py.2 := by intro b; cases b <;> decide +kernel
theorem boot_b2 : ∀ b : B2, bootBuiltins b.py.1 = some b.py.2 := by intro b; cases b <;> decide +kernel
theorem boot_ty : ∀ t : Ty, bootBuiltins (Str.ofString t.py) = some (.type t.py) := by intro t; cases t <;> decide +kernel
theorem boot_isi : bootBuiltins ("isinstance" : Str) = some (.builtin "isinstance") := by decide +kernel
theorem b1_names : ∀ b : B1, b.py.1 ∈ bNames := by intro b; cases b <;> decide +kernel
theorem b2_names : ∀ b : B2, b.py.1 ∈ bNames := by intro b; cases b <;> decide +kernel
theorem ty_names : ∀ t : Ty, Str.ofString t.py ∈ bNames := by intro t; cases t <;> decide +kernel
end
end Gp

/-! Gp, part L: what the decision shows of expressions. -/
namespace Gp
open PySem L2

theorem and_t {a b : Bool} (h : (a && b) = true) : a = true ∧ b = true := Bool.and_eq_true_iff.mp h
theorem evT_v {cl : CallF} {tab : List Def} {e : E} (h : isFresh tab e = true) : ∀ st t s1, evT cl e st = .ok t s1 → ∃ d, t = .v d := by
  intro st t s1 ef
  cases e with
  | mv i =>
    unfold evT at ef
    cases e0 : st.env[i]? with
    | none => simp only [e0] at ef; cases ef
    | some s => cases s <;> simp only [e0] at ef <;> cases ef; exact ⟨_, rfl⟩
  | bin op a b => obtain ⟨_, _, _, _, _, z, _, _, _, _, _, rfl⟩ := two_ok (show two (evT cl a) (evT cl b) (binF op) st = _ from ef); exact ⟨z, rfl⟩
  | cut a lo hi =>
    obtain ⟨_, _, _, ef⟩ := Out.bind_ok (show (evT cl a st).bind _ = _ from ef)
    obtain ⟨_, _, _, ef⟩ := Out.bind_ok ef
    obtain ⟨_, _, _, ef⟩ := Out.bind_ok ef
    split at ef
    · unfold vF at ef; split at ef <;> cases ef; exact ⟨_, rfl⟩
    · cases ef
  | back a =>
    obtain ⟨_, _, _, ef⟩ := Out.bind_ok (show (evT cl a st).bind _ = _ from ef)
    split at ef <;> cases ef; exact ⟨_, rfl⟩
  | lst es =>
    obtain ⟨_, _, _, ef⟩ := Out.bind_ok (show (evEs cl es st).bind _ = _ from ef)
    split at ef <;> cases ef; exact ⟨_, rfl⟩
  | rep es k =>
    obtain ⟨_, _, _, ef⟩ := Out.bind_ok (show (evEs cl es st).bind _ = _ from ef)
    obtain ⟨_, _, _, ef⟩ := Out.bind_ok ef
    split at ef
    · unfold vF at ef; split at ef <;> cases ef; exact ⟨_, rfl⟩
    · cases ef
  | b1 b a =>
    obtain ⟨_, _, _, ef⟩ := Out.bind_ok (show (evT cl a st).bind _ = _ from ef)
    split at ef
    · unfold vF at ef; split at ef <;> cases ef; exact ⟨_, rfl⟩
    · cases ef
  | lrange a b =>
    obtain ⟨_, _, _, ef⟩ := Out.bind_ok (show (intO (lk (evT cl a st))).bind _ = _ from ef)
    obtain ⟨_, _, _, ef⟩ := Out.bind_ok ef
    split at ef <;> cases ef; exact ⟨_, rfl⟩
  | lrange1 b =>
    obtain ⟨_, _, _, ef⟩ := Out.bind_ok (show (intO (lk (evT cl b st))).bind _ = _ from ef)
    split at ef <;> cases ef; exact ⟨_, rfl⟩
  | comp e g it cs own =>
    obtain ⟨_, _, _, ef⟩ := Out.bind_ok (show (evI cl it st).bind _ = _ from ef)
    obtain ⟨_, _, _, ef⟩ := Out.bind_ok ef
    cases ef; exact ⟨_, rfl⟩
  | call f es =>
    obtain ⟨_, _, _, ef⟩ := Out.bind_ok (show (evEs cl es st).bind _ = _ from ef)
    unfold callO at ef
    split at ef <;> cases ef; exact ⟨_, rfl⟩
  | pcall f es =>
    obtain ⟨_, _, _, ef⟩ := Out.bind_ok (show (evTs cl es st).bind _ = _ from ef)
    unfold pcallO at ef
    split at ef
    · split at ef
      · split at ef <;> cases ef; exact ⟨_, rfl⟩
      · cases ef
    · cases ef
  | _ => cases h

mutual
theorem evG_len {cl : CallF} : ∀ {g : G} {d : D} {st s1 : Sta}, g.plain = true → evG cl g d st = .ok () s1 → s1.env.length = st.env.length
  | .name i, d, st, s1, _, h => by
    have h : (if i < st.env.length then Out.ok () (setName i d st) else .bad) = .ok () s1 := h
    split at h <;> cases h
    exact List.length_set
  | .tup gs, d, st, s1, hp, h => by
    cases d with
    | tup ds => exact evGs_envlen hp (show evGs cl gs ds st = _ from h)
    | _ => cases h
  | .sub _ _, _, _, _, hp, _ => by cases hp
theorem evGs_envlen {cl : CallF} : ∀ {gs : List G} {ds : List D} {st s1 : Sta}, G.plains gs = true → evGs cl gs ds st = .ok () s1 → s1.env.length = st.env.length
  | [], ds, st, s1, _, h => by
    have h : (if ds.isEmpty then Out.ok () st else .bad) = .ok () s1 := h
    split at h <;> cases h
    rfl
  | g :: gs, [], st, s1, _, h => by cases h
  | g :: gs, d :: ds, st, s1, hp, h => by
    obtain ⟨h1, h2⟩ := and_t (show (g.plain && G.plains gs) = true from hp)
    obtain ⟨_, s2, e1, h⟩ := Out.bind_ok (show (evG cl g d st).bind _ = _ from h)
    rw [evGs_envlen h2 h, evG_len h1 e1]
end

section
variable {c : Ce} {n : Nat} {cl : CallF} {X : Cx} {x y z : Expr} {pos : Pos}
/-- a block's context -/
theorem Okx.blk (ok : Okx c n cl X) {s : Shared} {H : Hp} {scope : Scope} {C : Addr} {cells : List (Str × Addr)} {fp : List Addr} : Okx ⟨c.N, relS scope c.sc, scope, c.tab⟩ n cl (X.blk s H scope (compEnvC scope cells C X.env) fp) where
  N := ok.N
  nd := ok.nd
  sc := by
    show relS scope X.env.scope = relS scope c.sc
    rw [ok.sc]
  st := fun x h => by
    unfold locB at h
    split at h
    · rename_i e
      have e' := lookup_relS_keep (sc := X.env.scope) (by decide) e
      exact ⟨.inl e', .inr e'⟩
    · rename_i e
      have e' := lookup_relS_keep (sc := X.env.scope) (by decide) e
      refine ⟨.inr e', .inl ?_⟩
      show (scope.names.lookup x == some .cell) = true
      rw [e]; rfl
    · cases h
  calm := ok.calm
  room := ok.room
  none := ok.none
  fn := ok.fn
  np := ok.np
/-- the end of a fresh one -/
theorem both {e : E} (h : PE X x (tF X.K (evT cl e))) : PE X x (tT X.K (evT cl e)) ∧ (isFresh c.tab e = true → PE X x (tF X.K (evT cl e))) := ⟨tF.toT h, fun _ => h⟩
theorem plainV {e : E} (h : PE X x (tT X.K (evT cl e))) (hf : isFresh c.tab e = false) : PE X x (tT X.K (evT cl e)) ∧ (isFresh c.tab e = true → PE X x (tF X.K (evT cl e))) := ⟨h, fun z => by rw [hf] at z; cases z⟩
theorem callable (ok : Okx c n cl X) {f : Nat} {x : Str} (h : tabName c.tab f x = true) : ∃ df a fd ps, c.tab[f]? = some df ∧ df.name = x ∧ FnOk X.prog X.w X.K X.mg X.base CX0 n a fd ps (spF X.K (cl f) df.np df.fr) ∧ X.mg x = some (.ref a) ∧ PySem.W.keepIn X.K (.ref a) = true ∧ Binds X.K fd ps [] := by
  unfold tabName at h
  split at h
  · rename_i df e
    have hx : df.name = x := by simpa using h
    obtain ⟨a, fd, ps, h1, h2, h3, h4⟩ := ok.fn f df e
    exact ⟨df, a, fd, ps, e, hx, h1, by rw [← hx]; exact h2, h3, h4⟩
  · cases h
theorem d_call0 {sp : Sp} {E' : XK} (h : PE X z (tCall sp [] E' tNil)) : PE X z (tCall sp [] E' (tDs X.K (evEs cl []))) := h.imp fun σ H Q ⟨A, ρ, st, ds, s1, r, ef, q⟩ => by
  cases ef
  exact q ρ [] H Fr.refl r rfl
theorem d_pcall0 {sp : Sp} {E' : XK} (h : PE X z (tCall sp [] E' tNil)) : PE X z (tCall sp [] E' (tTs X.K (evTs cl []))) := h.imp fun σ H Q ⟨A, ρ, st, ds, s1, r, ef, q⟩ => by
  cases ef
  exact q ρ [] H Fr.refl r rfl
theorem one_arg_of {es : List E} {ys : List Expr} (h : ckEs c es ys = true) (hl : ys.length ≤ 1) : (es = [] ∧ ys = []) ∨ ∃ e y, es = [e] ∧ ys = [y] ∧ notStar y = true := by
  have h2 := ck_len h
  match es, ys, h, hl, h2 with
  | [], [], _, _, _ => exact .inl ⟨rfl, rfl⟩
  | [e], [y], h, _, _ => exact .inr ⟨e, y, rfl, rfl, (and_t (and_t (show (notStar y && ckE c e y && ckEs c [] []) = true by unfold ckEs at h; exact h)).1).1⟩
  | _, _ :: _ :: _, _, hl, _ => exact absurd hl (by simp)
  | [], _ :: _, _, _, h2 => cases h2
  | _ :: _, [], _, _, h2 => cases h2
  | _ :: _ :: _, [_], _, _, h2 => simp at h2
theorem own_map (N : List Str) (own : List Nat) : (ownNames N own).map (·.2) = own := by
  unfold ownNames
  rw [List.map_map]
  exact List.map_id own
mutual
theorem okE : ∀ (e : E) (c : Ce) (X : Cx) (x : Expr), Okx c n cl X → ckE c e x = true → PE X x (tT X.K (evT cl e)) ∧ (isFresh c.tab e = true → PE X x (tF X.K (evT cl e)))
  | .var i, c, X, x, ok, h => by
    unfold ckE at h
    split at h
    · rename_i n pos ex
      rw [asName_eq ex]
      obtain ⟨h, h3⟩ := and_t h
      obtain ⟨h1, h2⟩ := and_t h
      obtain ⟨h3, h4⟩ := and_t h3
      exact plainV (d_var (by rw [ok.N]; exact of_decide_eq_true h1) (vis_of ok h2) (by simpa using h3) (by simpa using h4)) rfl
    · cases h
  | .mv i, c, X, x, ok, h => by
    unfold ckE at h
    split at h
    · rename_i n pos ex
      rw [asName_eq ex]
      obtain ⟨h, h3⟩ := and_t h
      obtain ⟨h1, h2⟩ := and_t h
      obtain ⟨h3, h4⟩ := and_t h3
      exact both (d_mv (by rw [ok.N]; exact of_decide_eq_true h1) (vis_of ok h2) (by simpa using h3) (by simpa using h4))
    · cases h
  | .cst d, c, X, x, ok, h => by
    unfold ckE at h
    split at h
    · rename_i k _ _ ex
      rw [asCst_eq ex]
      have h : cstB d k = true := h
      refine plainV ?_ rfl
      cases d <;> cases k <;> first | (cases h; done) | skip
      · exact d_c pe_non fun _ _ _ _ _ => rfl
      · have e := eq_of_beq h; subst e; exact d_c pe_bl fun _ _ _ _ _ => rfl
      · have e := eq_of_beq h; subst e; exact d_c pe_int fun _ _ _ _ _ => rfl
      · have e := eq_of_beq h; subst e; exact d_c pe_str fun _ _ _ _ _ => rfl
    · cases h
  | .bin op a b, c, X, x, ok, h => by
    unfold ckE at h
    split at h
    · rename_i x o y p ex
      rw [asBin_eq ex]
      obtain ⟨h, h3⟩ := and_t h
      obtain ⟨h1, h2⟩ := and_t h
      have e := of_decide_eq_true h1
      subst e
      exact both (d_bin (okE a c X _ ok h2).1 (okE b c X _ ok h3).1)
    · cases h
  | .neg a, c, X, x, ok, h => by
    unfold ckE at h
    split at h
    · rename_i x p ex
      rw [asUn_eq ex]
      exact plainV (d_neg (okE a c X _ ok h).1) rfl
    · cases h
  | .cmp op a b, c, X, x, ok, h => by
    unfold ckE at h
    split at h
    · rename_i x o y p ex
      rw [asCmp1_eq ex]
      obtain ⟨h, h4⟩ := and_t h
      obtain ⟨h, h3⟩ := and_t h
      obtain ⟨h1, h2⟩ := and_t h
      have e := of_decide_eq_true h1
      subst e
      exact plainV (tF.toT (d_cmp ok.room.units (okE a c X _ ok h3).1 (okE b c X _ ok h4).1 (nomark_of h2 _))) rfl
    · cases h
  | .chain p q a b d, c, X, x, ok, h => by
    unfold ckE at h
    split at h
    · rename_i x o o' y z p' ex
      rw [asCmp2_eq ex]
      obtain ⟨h, h6⟩ := and_t h
      obtain ⟨h, h5⟩ := and_t h
      obtain ⟨h, h4⟩ := and_t h
      obtain ⟨h, h3⟩ := and_t h
      obtain ⟨h1, h2⟩ := and_t h
      have e := of_decide_eq_true h1
      have e' := of_decide_eq_true h2
      subst e e'
      exact plainV (d_chain ok.room.units (okE a c X _ ok h4).1 (okE b c X _ ok h5).1 (okE d c X _ ok h6).1 (show behindInMarks q.py z = false from nomark_of h3 _)) rfl
    · cases h
  | .and a b, c, X, x, ok, h => by
    unfold ckE at h
    split at h
    · rename_i x y p ex
      rw [asBool_eq ex]
      obtain ⟨h1, h2⟩ := and_t h
      exact plainV (d_and (okE a c X _ ok h1).1 (d_one (okE b c X _ ok h2).1)) rfl
    · rename_i x y z r p ex
      rw [asBool_eq ex]
      obtain ⟨h1, h2⟩ := and_t h
      exact plainV (d_and (okE a c X _ ok h1).1 (okE b c X _ ok h2).1) rfl
    · cases h
  | .or a b, c, X, x, ok, h => by
    unfold ckE at h
    split at h
    · rename_i x y p ex
      rw [asBool_eq ex]
      obtain ⟨h1, h2⟩ := and_t h
      exact plainV (d_or (okE a c X _ ok h1).1 (d_one (okE b c X _ ok h2).1)) rfl
    · rename_i x y z r p ex
      rw [asBool_eq ex]
      obtain ⟨h1, h2⟩ := and_t h
      exact plainV (d_or (okE a c X _ ok h1).1 (okE b c X _ ok h2).1) rfl
    · cases h
  | .not a, c, X, x, ok, h => by
    unfold ckE at h
    split at h
    · rename_i x p ex
      rw [asUn_eq ex]
      exact plainV (d_not (okE a c X _ ok h).1) rfl
    · cases h
  | .ife d a b, c, X, x, ok, h => by
    unfold ckE at h
    split at h
    · rename_i z x y p ex
      rw [asIfE_eq ex]
      obtain ⟨h, h3⟩ := and_t h
      obtain ⟨h1, h2⟩ := and_t h
      exact plainV (d_ife (okC d c X _ ok h1).1 (okE a c X _ ok h2).1 (okE b c X _ ok h3).1) rfl
    · cases h
  | .sub a b, c, X, x, ok, h => by
    unfold ckE at h
    split at h
    · rename_i x y p ex
      rw [asSub_eq ex]
      obtain ⟨h, h3⟩ := and_t h
      obtain ⟨h1, h2⟩ := and_t h
      exact plainV (d_sub (okE a c X _ ok h2).1 (okE b c X _ ok h3).1 (plainIx_of h1)) rfl
    · cases h
  | .cut a lo hi, c, X, x, ok, h => by
    unfold ckE at h
    split at h
    · rename_i x y p ex
      rw [asSub_eq ex]
      split at h
      · rename_i l u p2 ey
        rw [asSlice_eq ey]
        obtain ⟨h, h3⟩ := and_t h
        obtain ⟨h1, h2⟩ := and_t h
        exact both (d_cut (okE a c X _ ok h1).1 (okP lo c X _ ok h2) (okP hi c X _ ok h3))
      · cases h
    · cases h
  | .back a, c, X, x, ok, h => by
    unfold ckE at h
    split at h
    · rename_i x y p ex
      rw [asSub_eq ex]
      split at h
      · rename_i t p2 ey
        rw [asSlice_eq ey]
        obtain ⟨h1, h2⟩ := and_t h
        obtain ⟨k, p3, p4, rfl⟩ := isNeg1_eq h1
        exact both (d_back (okE a c X _ ok h2).1)
      · cases h
    · cases h
  | .tup es, c, X, x, ok, h => by
    unfold ckE at h
    split at h
    · rename_i xs k p ex
      rw [asTup_eq ex]
      exact plainV (d_tup (okEs es c X _ ok h)) rfl
    · cases h
  | .lst es, c, X, x, ok, h => by
    unfold ckE at h
    split at h
    · rename_i xs p ex
      rw [asLst_eq ex]
      exact both (d_lst (okEs es c X _ ok h))
    · cases h
  | .rep es k, c, X, x, ok, h => by
    unfold ckE at h
    split at h
    · rename_i x y p ex
      rw [asBin_eq ex]
      split at h
      · rename_i xs p2 ey
        rw [asLst_eq ey]
        obtain ⟨h1, h2⟩ := and_t h
        exact both (d_rep (okEs es c X _ ok h1) (okE k c X _ ok h2).1)
      · cases h
    · cases h
  | .call f es, c, X, x, ok, h => by
    unfold ckE at h
    split at h
    · rename_i x px xs p ex
      rw [asCall_eq ex]
      obtain ⟨h, h3⟩ := and_t h
      obtain ⟨h1, h2⟩ := and_t h
      obtain ⟨hg, hdb, _⟩ := gl_of ok h2
      obtain ⟨df, a, fd, ps, e, _, F, hm, hk, hb⟩ := callable ok h1
      have hcall : PE X (.Call (.Name x px) xs [] p) (tCall (spF X.K (cl f) df.np df.fr) [] E0 (tDs X.K (evEs cl es))) := by
        match es, xs, h3, okEs es c X xs ok h3 with
        | [], [], _, _ => exact d_call0 (pe_call0 F ok.room hg hm hk hb .nil pass0 hdb)
        | e :: es, y :: ys, h3, hes =>
          have hs := ck_stars h3
          obtain ⟨hs1, hs2⟩ := and_t (show (notStar y && notStars ys) = true from hs)
          exact pe_call F ok.room hg hm hk hb .nil pass0 hes hdb (star1 hs1) (stars hs2)
      have hr := d_call (fun ds S r hr => ok.np f df ds S r e hr) hcall
      refine ⟨?_, fun hf => ?_⟩
      · cases hfr : df.fr with
        | true => rw [hfr] at hr; exact PE.imp (tF.toT hr) fun _ _ _ z => z
        | false => rw [hfr] at hr; exact hr
      · have : df.fr = true := by
          have hf' : (match c.tab[f]? with | some df => df.fr | none => false) = true := hf
          rw [e] at hf'; exact hf'
        rw [this] at hr
        exact hr
    · cases h
  | .pcall f es, c, X, x, ok, h => by
    unfold ckE at h
    split at h
    · rename_i x px xs p ex
      rw [asCall_eq ex]
      obtain ⟨h, h3⟩ := and_t h
      obtain ⟨h1, h2⟩ := and_t h
      obtain ⟨hg, hdb, _⟩ := gl_of ok h2
      obtain ⟨df, a, fd, ps, e, _, F, hm, hk, hb⟩ := callable ok h1
      have hcall : PE X (.Call (.Name x px) xs [] p) (tCall (spF X.K (cl f) df.np df.fr) [] E0 (tTs X.K (evTs cl es))) := by
        match es, xs, h3, okTs es c X xs ok h3 with
        | [], [], _, _ => exact d_pcall0 (pe_call0 F ok.room hg hm hk hb .nil pass0 hdb)
        | e :: es, y :: ys, h3, hes =>
          have hs := ck_stars h3
          obtain ⟨hs1, hs2⟩ := and_t (show (notStar y && notStars ys) = true from hs)
          exact pe_call F ok.room hg hm hk hb .nil pass0 hes hdb (star1 hs1) (stars hs2)
      have hr := d_pcall (fun ds S r hr => ok.np f df ds S r e hr) hcall
      refine ⟨?_, fun hf => ?_⟩
      · cases hfr : df.fr with
        | true => rw [hfr] at hr; exact PE.imp (tF.toT hr) fun _ _ _ z => z
        | false => rw [hfr] at hr; exact hr
      · have : df.fr = true := by
          have hf' : (match c.tab[f]? with | some df => df.fr | none => false) = true := hf
          rw [e] at hf'; exact hf'
        rw [this] at hr
        exact hr
    · cases h
  | .b1 b a, c, X, x, ok, h => by
    unfold ckE at h
    split at h
    · rename_i x px y p ex
      rw [asCall_eq ex]
      obtain ⟨h, h4⟩ := and_t h
      obtain ⟨h, h3⟩ := and_t h
      obtain ⟨h1, h2⟩ := and_t h
      have e := of_decide_eq_true h1
      subst e
      obtain ⟨hg, hdb, hn⟩ := gl_of ok h2
      have hm := ok.none _ (b1_names b)
      refine both (d_b1 (r0 := fun _ _ _ => True) (p := p) ok.calm (fun hpa => ?_) (okE a c X _ ok h4).1 (star1 h3))
      have hb := boot_b1 b
      have hk := b1_ok (X := X) ok.calm b
      cases b <;> first
        | exact pe_callB hk hg hm hb hpa hn hdb (star1 h3) rfl
        | exact pe_callTy hk hg hm hb hpa hn hdb (star1 h3) rfl
    · cases h
  | .b2 b a d, c, X, x, ok, h => by
    unfold ckE at h
    split at h
    · rename_i x px y z p ex
      rw [asCall_eq ex]
      obtain ⟨h, h6⟩ := and_t h
      obtain ⟨h, h5⟩ := and_t h
      obtain ⟨h, h4⟩ := and_t h
      obtain ⟨h, h3⟩ := and_t h
      obtain ⟨h1, h2⟩ := and_t h
      have e := of_decide_eq_true h1
      subst e
      obtain ⟨hg, hdb, hn⟩ := gl_of ok h2
      have hm := ok.none _ (b2_names b)
      have := d_b2 (X := X) (cl := cl) (z := .Call (.Name b.py.1 px) [y, z] [] p) (b := b) (a := a) (c := d) (fun hpa => by
        have hb := boot_b2 b
        have hk := b2_ok (X := X) ok.calm b
        have hpl : (backTo p (starEach [z] X.env)).any (·.1) = false := by rw [star1 h4]; rfl
        cases b <;> exact pe_callB hk hg hm hb hpa hn hdb (star1 h3) hpl) (okE a c X _ ok h5).1 (okE d c X _ ok h6).1 (star1 h3) (star1 h4)
      exact plainV (tF.toT this) rfl
    · cases h
  | .lrange a b, c, X, x, ok, h => by
    unfold ckE at h
    split at h
    · rename_i x px w p ex
      rw [asCall_eq ex]
      split at h
      · rename_i x' px' y z p' ey
        rw [asCall_eq ey]
        obtain ⟨h, h8⟩ := and_t h
        obtain ⟨h, h7⟩ := and_t h
        obtain ⟨h, h6⟩ := and_t h
        obtain ⟨h, h5⟩ := and_t h
        obtain ⟨h, h4⟩ := and_t h
        obtain ⟨h, h3⟩ := and_t h
        obtain ⟨h1, h2⟩ := and_t h
        have e := of_decide_eq_true h1
        have e' := of_decide_eq_true h2
        subst e e'
        obtain ⟨hg, _, _⟩ := gl_of ok h3
        obtain ⟨hg', _, _⟩ := gl_of ok h4
        have hpl : (backTo p' (starEach [z] X.env)).any (·.1) = false := by rw [star1 h6]; rfl
        exact both (d_lrange (pe_listRg ok.calm hg (ok.none _ (by decide +kernel)) (prg_2 hg' (ok.none _ (by decide +kernel)) (pe_lk (okE a c X _ ok h7).1) (pe_lk (okE b c X _ ok h8).1) (star1 h5) (star1 h6) hpl) rfl))
      · cases h
    · cases h
  | .lrange1 a, c, X, x, ok, h => by
    unfold ckE at h
    split at h
    · rename_i x px w p ex
      rw [asCall_eq ex]
      split at h
      · rename_i x' px' y p' ey
        rw [asCall_eq ey]
        obtain ⟨h, h6⟩ := and_t h
        obtain ⟨h, h5⟩ := and_t h
        obtain ⟨h, h4⟩ := and_t h
        obtain ⟨h, h3⟩ := and_t h
        obtain ⟨h1, h2⟩ := and_t h
        have e := of_decide_eq_true h1
        have e' := of_decide_eq_true h2
        subst e e'
        obtain ⟨hg, _, _⟩ := gl_of ok h3
        obtain ⟨hg', _, _⟩ := gl_of ok h4
        exact both (d_lrange1 (pe_listRg ok.calm hg (ok.none _ (by decide +kernel)) (prg_1 hg' (ok.none _ (by decide +kernel)) (pe_lk (okE a c X _ ok h6).1) (star1 h5)) rfl))
      · cases h
    · cases h
  | .isi t a, c, X, x, ok, h => by
    unfold ckE at h
    split at h
    · rename_i x px y w p ex
      rw [asCall_eq ex]
      split at h
      · rename_i u pu ey
        rw [asName_eq ey]
        obtain ⟨h, h6⟩ := and_t h
        obtain ⟨h, h5⟩ := and_t h
        obtain ⟨h, h4⟩ := and_t h
        obtain ⟨h, h3⟩ := and_t h
        obtain ⟨h1, h2⟩ := and_t h
        have e := of_decide_eq_true h1
        have e' := of_decide_eq_true h2
        subst e e'
        obtain ⟨hg, hdb, hn⟩ := gl_of ok h3
        obtain ⟨hg', hdb', hn'⟩ := gl_of ok h4
        exact plainV (d_isi (pe_callB (isi_ok t) hg (ok.none _ (by decide +kernel)) boot_isi (pa_cons (okE a c X _ ok h6).1 (pa_cons (pe_bltn hg' (ok.none _ (ty_names t)) (boot_ty t) (show Value.type t.py = Value.type t.py from rfl) hn' hdb') pa_nil rfl) (star1 h5)) hn hdb (star1 h5) rfl)) rfl
      · cases h
    · cases h
  | .meth m o es, c, X, x, ok, h => by
    unfold ckE at h
    split at h
    · rename_i x name apos ys cpos ex
      rw [asMeth_eq ex]
      obtain ⟨h, h6⟩ := and_t h
      obtain ⟨h, h5⟩ := and_t h
      obtain ⟨h, h4⟩ := and_t h
      obtain ⟨h, h3⟩ := and_t h
      obtain ⟨h1, h2⟩ := and_t h
      have e := of_decide_eq_true h1
      subst e
      have ho := (okE o c X _ ok h5).1
      have hlen := of_decide_eq_true h4
      have hes := okEs es c X ys ok h6
      rcases one_arg_of h6 hlen with ⟨rfl, rfl⟩ | ⟨e, y, rfl, rfl, hs1⟩
      · refine plainV (d_meth0 ?_) rfl
        cases m
        · exact pe_bm0 PySem.F.plainAttrs_list PySem.F.slot_list_append PySem.F.type_list_append (meth_ok .append) ho (base_of h3) h2
        · exact pe_bm0 PySem.F.plainAttrs_list PySem.F.slot_list_pop PySem.F.type_list_pop (meth_ok .pop0) ho (base_of h3) h2
        · exact pe_bm0 PySem.F.plainAttrs_list PySem.F.slot_list_pop PySem.F.type_list_pop (meth_ok .pop) ho (base_of h3) h2
        · exact pe_bm0 PySem.F.plainAttrs_list PySem.F.slot_list_index PySem.F.type_list_index (meth_ok .index) ho (base_of h3) h2
        · exact pe_bm0 PySem.F.plainAttrs_list PySem.F.slot_list_clear PySem.F.type_list_clear (meth_ok .clear) ho (base_of h3) h2
      · have hst : starEach [y] X.env = (false, eval y X.env) :: starEach [] X.env := star1 hs1
        have hfew : ((backTo cpos (starEach [y] X.env)).all (fun x => !x.1) && (backToKw cpos (keywordEach [] X.env)).all (fun x => x.1.isSome) && decide ([y].length + ([] : List Keyword).length + (if ([] : List Keyword).isEmpty then 0 else 1) < 30)) = true := by rw [hst]; rfl
        refine plainV (d_meth ?_) rfl
        cases m
        · exact pe_bm PySem.F.plainAttrs_list PySem.F.slot_list_append PySem.F.type_list_append (meth_ok .append) ho hes (base_of h3) hfew h2 hst rfl
        · exact pe_bm PySem.F.plainAttrs_list PySem.F.slot_list_pop PySem.F.type_list_pop (meth_ok .pop0) ho hes (base_of h3) hfew h2 hst rfl
        · exact pe_bm PySem.F.plainAttrs_list PySem.F.slot_list_pop PySem.F.type_list_pop (meth_ok .pop) ho hes (base_of h3) hfew h2 hst rfl
        · exact pe_bm PySem.F.plainAttrs_list PySem.F.slot_list_index PySem.F.type_list_index (meth_ok .index) ho hes (base_of h3) hfew h2 hst rfl
        · exact pe_bm PySem.F.plainAttrs_list PySem.F.slot_list_clear PySem.F.type_list_clear (meth_ok .clear) ho hes (base_of h3) hfew h2 hst rfl
    · cases h
  | .comp e g it cs own, c, X, x, ok, h => by
    unfold ckE at h
    split at h
    · rename_i elt tg iter ifs scope p ex
      rw [asLc_eq ex]
      obtain ⟨h, h9⟩ := and_t h
      obtain ⟨h, h8⟩ := and_t h
      obtain ⟨h, h7⟩ := and_t h
      obtain ⟨h, h6⟩ := and_t h
      obtain ⟨h, h5⟩ := and_t h
      obtain ⟨h, h4⟩ := and_t h
      obtain ⟨h, h3⟩ := and_t h
      obtain ⟨h1, h2⟩ := and_t h
      have hW : ∀ i ∈ g.slots, i ∈ own := fun i hi => by simpa using List.all_eq_true.mp h4 i hi
      have hbk : BlkOk X.N X.env.scope scope (ownNames c.N own) := by rw [ok.N, ok.sc]; exact blkOk_by h1
      have hi := okI it c X tg iter ok h6
      have hg : ∀ (s : Shared) (H : Hp) (C : Addr) (cells : List (Str × Addr)) (fp : List Addr), PG (X.blk s H scope (compEnvC scope cells C X.env) fp) tg (tG X.K g.slots (evG cl g)) := fun s H C cells fp => okG g _ _ _ (Okx.blk ok) h7
      have ht : ∀ (s : Shared) (H : Hp) (C : Addr) (cells : List (Str × Addr)) (fp : List Addr), PTs (X.blk s H scope (compEnvC scope cells C X.env) fp) ifs (tBo X.K (evAll cl cs)) := fun s H C cells fp => okCs cs _ _ _ (Okx.blk ok) (of_decide_eq_true h5) h8
      have he : ∀ (s : Shared) (H : Hp) (C : Addr) (cells : List (Str × Addr)) (fp : List Addr), PE (X.blk s H scope (compEnvC scope cells C X.env) fp) elt (tD X.K fun st => lk (evT cl e st)) := fun s H C cells fp => pe_lk (okE e _ (X.blk s H scope (compEnvC scope cells C X.env) fp) elt (Okx.blk ok) h9).1
      have hlc := pe_lc (pos := p) ok.calm (by rw [ok.N]; exact ok.nd) hi hbk hg ht he (set_of h2)
      rw [own_map] at hlc
      exact both (hlc.imp fun σ H Q hq => tLc_ok hW (fun d st s1 => evG_len h3) σ H Q hq)
    · cases h
theorem okC : ∀ (e : C) (c : Ce) (X : Cx) (x : Expr), Okx c n cl X → ckC c e x = true → PT X x (tBo X.K (evB cl e)) ∧ ((∃ op vs p, x = .BoolOp op vs p) → PW X x (tBo X.K (evB cl e)))
  | .and a b, c, X, x, ok, h => by
    unfold ckC at h
    split at h
    · rename_i x y p ex
      rw [asBool_eq ex]
      obtain ⟨h1, h2⟩ := and_t h
      have := d_tand (pos := p) (okC a c X _ ok h1).1 (pw_and1 (okC b c X _ ok h2).1)
      exact ⟨this.pt, fun _ => this⟩
    · rename_i x y z r p ex
      rw [asBool_eq ex]
      obtain ⟨h1, h2⟩ := and_t h
      have := d_tand (pos := p) (okC a c X _ ok h1).1 ((okC b c X _ ok h2).2 ⟨_, _, _, rfl⟩)
      exact ⟨this.pt, fun _ => this⟩
    · cases h
  | .or a b, c, X, x, ok, h => by
    unfold ckC at h
    split at h
    · rename_i x y p ex
      rw [asBool_eq ex]
      obtain ⟨h1, h2⟩ := and_t h
      have := d_tor (pos := p) (okC a c X _ ok h1).1 (pw_or1 (okC b c X _ ok h2).1)
      exact ⟨this.pt, fun _ => this⟩
    · rename_i x y z r p ex
      rw [asBool_eq ex]
      obtain ⟨h1, h2⟩ := and_t h
      have := d_tor (pos := p) (okC a c X _ ok h1).1 ((okC b c X _ ok h2).2 ⟨_, _, _, rfl⟩)
      exact ⟨this.pt, fun _ => this⟩
    · cases h
  | .not a, c, X, x, ok, h => by
    unfold ckC at h
    split at h
    · rename_i x p ex
      rw [asUn_eq ex]
      exact ⟨d_tnot (okC a c X _ ok h).1, fun ⟨_, _, _, z⟩ => by cases z⟩
    · cases h
  | .val e, c, X, x, ok, h => by
    unfold ckC at h
    obtain ⟨h1, h2⟩ := and_t h
    have notB : ¬ ∃ op vs p, x = .BoolOp op vs p := by
      rintro ⟨op, vs, p, rfl⟩
      cases e <;> cases h1
    refine ⟨?_, fun z => (notB z).elim⟩
    cases hp : plainTest x with
    | true => exact d_tval (okE e c X x ok h2).1 (test_of hp)
    | false =>
      rw [hp, Bool.false_or] at h1
      cases e <;> first
        | (cases x <;> cases h1; done)
        | skip
      · rename_i op a b
        unfold ckE at h2
        split at h2
        · rename_i x o y p ex
          rw [asCmp1_eq ex]
          clear h1
          obtain ⟨h, h4⟩ := and_t h2
          clear h2
          obtain ⟨h, h3⟩ := and_t h
          obtain ⟨h1, h2⟩ := and_t h
          have e := of_decide_eq_true h1
          subst e
          exact d_tcmp ok.room.units (okE a c X _ ok h3).1 (okE b c X _ ok h4).1 (nomark_of h2 _)
        · cases h2
      · rename_i p1 q1 a b d
        unfold ckE at h2
        split at h2
        · rename_i x o o' y z p ex
          rw [asCmp2_eq ex]
          clear h1
          obtain ⟨h, h6⟩ := and_t h2
          clear h2
          obtain ⟨h, h5⟩ := and_t h
          obtain ⟨h, h4⟩ := and_t h
          obtain ⟨h, h3⟩ := and_t h
          obtain ⟨h1, h2⟩ := and_t h
          have e := of_decide_eq_true h1
          have e' := of_decide_eq_true h2
          subst e e'
          exact d_tchain ok.room.units (okE a c X _ ok h4).1 (okE b c X _ ok h5).1 (okE d c X _ ok h6).1 (show behindInMarks q1.py z = false from nomark_of h3 _)
        · cases h2
theorem okP : ∀ (e : Option E) (c : Ce) (X : Cx) (x : Option Expr), Okx c n cl X → ckP c e x = true → PO X x (tPo X.K (evP cl e))
  | none, c, X, none, ok, h => d_pnone
  | some e, c, X, some x, ok, h => by
    unfold ckP at h
    exact d_psome (okE e c X x ok h).1
  | none, c, X, some _, ok, h => by unfold ckP at h; cases h
  | some _, c, X, none, ok, h => by unfold ckP at h; cases h
theorem okEs : ∀ (e : List E) (c : Ce) (X : Cx) (x : List Expr), Okx c n cl X → ckEs c e x = true → PA X x (tDs X.K (evEs cl e))
  | [], c, X, [], ok, h => d_nil
  | e :: es, c, X, x :: xs, ok, h => by
    unfold ckEs at h
    obtain ⟨h, h3⟩ := and_t h
    obtain ⟨h1, h2⟩ := and_t h
    exact d_cons (okE e c X x ok h2).1 (okEs es c X xs ok h3) (star1 h1)
  | [], c, X, _ :: _, ok, h => by unfold ckEs at h; cases h
  | _ :: _, c, X, [], ok, h => by unfold ckEs at h; cases h
theorem okTs : ∀ (e : List E) (c : Ce) (X : Cx) (x : List Expr), Okx c n cl X → ckEs c e x = true → PA X x (tTs X.K (evTs cl e))
  | [], c, X, [], ok, h => d_tnil
  | e :: es, c, X, x :: xs, ok, h => by
    unfold ckEs at h
    obtain ⟨h, h3⟩ := and_t h
    obtain ⟨h1, h2⟩ := and_t h
    exact d_tcons (okE e c X x ok h2).1 (okTs es c X xs ok h3) (star1 h1)
  | [], c, X, _ :: _, ok, h => by unfold ckEs at h; cases h
  | _ :: _, c, X, [], ok, h => by unfold ckEs at h; cases h
theorem okCs : ∀ (e : List C) (c : Ce) (X : Cx) (x : List Expr), Okx c n cl X → x.length ≤ 1 → ckCs c e x = true → PTs X x (tBo X.K (evAll cl e))
  | [], c, X, [], ok, hl, h => d_all0
  | [e], c, X, [x], ok, hl, h => by
    unfold ckCs at h
    exact d_all1 (okC e c X x ok (and_t h).1).1
  | [], c, X, _ :: _, ok, hl, h => by unfold ckCs at h; cases h
  | _ :: _, c, X, [], ok, hl, h => by unfold ckCs at h; cases h
  | _ :: _ :: _, c, X, [x], ok, hl, h => by
    unfold ckCs at h
    have h := (and_t h).2
    unfold ckCs at h
    cases h
  | _ :: _, c, X, _ :: _ :: _, ok, hl, h => absurd hl (by simp)
theorem okI : ∀ (e : I) (c : Ce) (X : Cx) (tg x : Expr), Okx c n cl X → ckI c e tg x = true → PI X tg x (tI X.K (evI cl e))
  | .seq e, c, X, tg, x, ok, h => by
    unfold ckI at h
    exact d_seq (okE e c X x ok h).1
  | .range1 a, c, X, tg, x, ok, h => by
    unfold ckI at h
    split at h
    · rename_i x px y p ex
      rw [asCall_eq ex]
      obtain ⟨h, h4⟩ := and_t h
      obtain ⟨h, h3⟩ := and_t h
      obtain ⟨h1, h2⟩ := and_t h
      have e := of_decide_eq_true h1
      subst e
      obtain ⟨hg, hdb, hn⟩ := gl_of ok h2
      exact d_range1 (pi_range1 hg (ok.none _ (by decide +kernel)) (pa_cons (pe_lk (okE a c X _ ok h4).1) pa_nil (star1 h3)) (star1 h3))
    · cases h
  | .range a b, c, X, tg, x, ok, h => by
    unfold ckI at h
    split at h
    · rename_i x px y z p ex
      rw [asCall_eq ex]
      obtain ⟨h, h6⟩ := and_t h
      obtain ⟨h, h5⟩ := and_t h
      obtain ⟨h, h4⟩ := and_t h
      obtain ⟨h, h3⟩ := and_t h
      obtain ⟨h1, h2⟩ := and_t h
      have e := of_decide_eq_true h1
      subst e
      obtain ⟨hg, hdb, hn⟩ := gl_of ok h2
      have hs2 : starEach [y, z] X.env = [(false, eval y X.env), (false, eval z X.env)] := by rw [star1 h3, star1 h4]; rfl
      exact d_range2 (pi_range2 hg (ok.none _ (by decide +kernel)) (pa_cons (pe_lk (okE a c X _ ok h5).1) (pa_cons (pe_lk (okE b c X _ ok h6).1) pa_nil (star1 h4)) (star1 h3)) hs2 (star1 h4))
    · cases h
  | .enum e, c, X, tg, x, ok, h => by
    unfold ckI at h
    split at h
    · rename_i ts k pt x px y p et ex
      rw [asTup_eq et, asCall_eq ex]
      obtain ⟨h, h4⟩ := and_t h
      obtain ⟨h, h3⟩ := and_t h
      obtain ⟨h1, h2⟩ := and_t h
      have e' := of_decide_eq_true h1
      subst e'
      obtain ⟨hg, hdb, hn⟩ := gl_of ok h2
      exact d_enum (pi_enum hg (ok.none _ (by decide +kernel)) (pa_cons (pe_lk (okE e c X _ ok h4).1) pa_nil (star1 h3)) (star1 h3))
    · cases h
  | .zip a b, c, X, tg, x, ok, h => by
    unfold ckI at h
    split at h
    · rename_i ts k pt x px y z p et ex
      rw [asTup_eq et, asCall_eq ex]
      obtain ⟨h, h6⟩ := and_t h
      obtain ⟨h, h5⟩ := and_t h
      obtain ⟨h, h4⟩ := and_t h
      obtain ⟨h, h3⟩ := and_t h
      obtain ⟨h1, h2⟩ := and_t h
      have e := of_decide_eq_true h1
      subst e
      obtain ⟨hg, hdb, hn⟩ := gl_of ok h2
      have hpl : (backTo p (starEach [z] X.env)).any (·.1) = false := by rw [star1 h4]; rfl
      exact d_zip (pi_zip hg (ok.none _ (by decide +kernel)) (pa_cons (pe_lk (okE a c X _ ok h5).1) (pa_cons (pe_lk (okE b c X _ ok h6).1) pa_nil (star1 h4)) (star1 h3)) (star1 h3) hpl)
    · cases h
  | .rev e, c, X, tg, x, ok, h => by
    unfold ckI at h
    split at h
    · rename_i x px y p ex
      rw [asCall_eq ex]
      obtain ⟨h, h4⟩ := and_t h
      obtain ⟨h, h3⟩ := and_t h
      obtain ⟨h1, h2⟩ := and_t h
      have e' := of_decide_eq_true h1
      subst e'
      obtain ⟨hg, hdb, hn⟩ := gl_of ok h2
      exact d_rev (pi_reversed hg (ok.none _ (by decide +kernel)) (pa_cons (pe_lk (okE e c X _ ok h4).1) pa_nil (star1 h3)) (star1 h3))
    · cases h
theorem okG : ∀ (g : G) (c : Ce) (X : Cx) (x : Expr), Okx c n cl X → ckG c g x = true → PG X x (tG X.K g.slots (evG cl g))
  | .name i, c, X, x, ok, h => by
    unfold ckG at h
    split at h
    · rename_i x px ex
      rw [asName_eq ex]
      obtain ⟨h1, h2⟩ := and_t h
      obtain ⟨hl, hf⟩ := ok.st x h2
      exact d_gname (pg_name (by rw [ok.N]; exact ok.nd) (by rw [ok.N]; exact of_decide_eq_true h1) hl hf)
    · cases h
  | .tup gs, c, X, x, ok, h => by
    unfold ckG at h
    split at h
    · rename_i xs k p ex
      rw [asTup_eq ex]
      obtain ⟨h1, h2, h3⟩ := okGs gs c X xs ok h
      exact d_gtup ok.calm h1 h2 h3
    · cases h
  | .sub o i, c, X, x, ok, h => by
    unfold ckG at h
    split at h
    · rename_i x y p ex
      rw [asSub_eq ex]
      obtain ⟨h, h3⟩ := and_t h
      obtain ⟨h1, h2⟩ := and_t h
      exact d_gsub (okE o c X _ ok h2).1 (okE i c X _ ok h3).1 (fun v => by cases y <;> first | rfl | cases h1)
    · cases h
theorem okGs : ∀ (gs : List G) (c : Ce) (X : Cx) (xs : List Expr), Okx c n cl X → ckGs c gs xs = true → PGs X xs (tGs X.K (G.slotss gs) (evGs cl gs)) ∧ (assignEach xs X.env).length = gs.length ∧ (assignEach xs X.env).findIdx? (·.1) = none
  | [], c, X, [], ok, h => ⟨d_gnil, rfl, rfl⟩
  | g :: gs, c, X, x :: xs, ok, h => by
    unfold ckGs at h
    obtain ⟨h, h3⟩ := and_t h
    obtain ⟨h1, h2⟩ := and_t h
    obtain ⟨r1, r2, r3⟩ := okGs gs c X xs ok h3
    have ha : assignEach (x :: xs) X.env = (false, assign x X.env) :: assignEach xs X.env := by cases x <;> first | rfl | cases h1
    refine ⟨d_gcons (okG g c X x ok h2) r1 (by rw [ha]; rfl), by rw [ha, List.length_cons, List.length_cons, r2], ?_⟩
    rw [ha, List.findIdx?_cons]
    simp only [Bool.false_eq_true, if_false]
    rw [r3]; rfl
  | [], c, X, _ :: _, ok, h => by unfold ckGs at h; cases h
  | _ :: _, c, X, [], ok, h => by unfold ckGs at h; cases h
end
end
end Gp

/-! Gp, part M: statements, defs, a law's end. -/
namespace Gp
open PySem L2

section
variable {K : PySem.W.Frag} {f : Sta → Out T} {σ : L2.St} {H : Hp} {Q : VK}
theorem tF_of (h : tT K f σ H Q) : tF K f σ H Q := by
  obtain ⟨A, ρ, st, x, s1, r, ef, q⟩ := h
  exact ⟨A, ρ, st, x, s1, r, ef, fun ρ' v H' fr fx => q ρ' v H' fr (fx.rep r).1 (fx.rep r).2⟩
theorem tT_of (h : tD K (fun st => lk (f st)) σ H Q) : tT K f σ H Q := by
  obtain ⟨A, ρ, st, d, s2, r, ef, q⟩ := h
  obtain ⟨x, s1, e1, e2⟩ := Out.bind_ok ef
  refine ⟨A, ρ, st, x, s1, r, e1, fun ρ' v H' fr r' hx => ?_⟩
  obtain ⟨f2, r2, h2⟩ := leak_ok r' hx e2
  exact q ρ' v H' (fr.trans f2) r2 h2
end

/-- a comprehension that a name gets on its own line -/
def swapB (sc : Scope) (t : Str) (tl : Nat) (v : Expr) : Bool := match v with
  | .ListComp _ _ scope vp => sc.names.lookup t == some .local && tl == vp.line && !(scope.names.any fun (n, k) => n == t && (k == .local || k == .cell))
  | _ => false
def augB : BOp → Bool
  | .add => true
  | .sub => true
  | .bor => true
  | _ => false
def isTup : Expr → Bool
  | .Tuple .. => true
  | .List .. => true
  | _ => false
def isName : Expr → Bool
  | .Name .. => true
  | _ => false
def isLc : Expr → Bool
  | .ListComp .. => true
  | _ => false
def asSet : Stmt → Option (Str × Expr × Pos × Pos)
  | .Assign [.Name x px] v sp => some (x, v, px, sp)
  | _ => none
theorem asSet_eq {s : Stmt} {x : Str} {v : Expr} {px sp : Pos} (h : asSet s = some (x, v, px, sp)) : s = .Assign [.Name x px] v sp := by
  unfold asSet at h
  split at h
  · cases h; rfl
  · cases h
def asAsg : Stmt → Option (Expr × Expr × Pos)
  | .Assign [tg] v sp => some (tg, v, sp)
  | _ => none
theorem asAsg_eq {s : Stmt} {tg v : Expr} {sp : Pos} (h : asAsg s = some (tg, v, sp)) : s = .Assign [tg] v sp := by
  unfold asAsg at h
  split at h
  · cases h; rfl
  · cases h
def asAug : Stmt → Option (Str × Operator × Expr × Pos × Pos)
  | .AugAssign (.Name x px) o v sp => some (x, o, v, px, sp)
  | _ => none
theorem asAug_eq {s : Stmt} {x : Str} {o : Operator} {v : Expr} {px sp : Pos} (h : asAug s = some (x, o, v, px, sp)) : s = .AugAssign (.Name x px) o v sp := by
  unfold asAug at h
  split at h
  · cases h; rfl
  · cases h
def asEx : Stmt → Option (Expr × Pos)
  | .Expr v sp => some (v, sp)
  | _ => none
theorem asEx_eq {s : Stmt} {v : Expr} {sp : Pos} (h : asEx s = some (v, sp)) : s = .Expr v sp := by
  cases s <;> cases h <;> rfl
def asRet : Stmt → Option (Option Expr × Pos)
  | .Return v sp => some (v, sp)
  | _ => none
theorem asRet_eq {s : Stmt} {v : Option Expr} {sp : Pos} (h : asRet s = some (v, sp)) : s = .Return v sp := by
  cases s <;> cases h <;> rfl
def asIf : Stmt → Option (Expr × List Stmt × List Stmt × Pos)
  | .If t x y sp => some (t, x, y, sp)
  | _ => none
theorem asIf_eq {s : Stmt} {t : Expr} {x y : List Stmt} {sp : Pos} (h : asIf s = some (t, x, y, sp)) : s = .If t x y sp := by
  cases s <;> cases h <;> rfl
def asFor : Stmt → Option (Expr × Expr × List Stmt × Pos)
  | .For tg it x [] sp => some (tg, it, x, sp)
  | _ => none
theorem asFor_eq {s : Stmt} {tg it : Expr} {x : List Stmt} {sp : Pos} (h : asFor s = some (tg, it, x, sp)) : s = .For tg it x [] sp := by
  unfold asFor at h
  split at h
  · cases h; rfl
  · cases h
def asForN : Stmt → Option (Expr × Str × List Stmt × Pos × Pos)
  | .For tg (.Name n p) x [] sp => some (tg, n, x, p, sp)
  | _ => none
theorem asForN_eq {s : Stmt} {tg : Expr} {n : Str} {x : List Stmt} {p sp : Pos} (h : asForN s = some (tg, n, x, p, sp)) : s = .For tg (.Name n p) x [] sp := by
  unfold asForN at h
  split at h
  · cases h; rfl
  · cases h
def asWh : Stmt → Option (Expr × List Stmt × Pos)
  | .While t x [] sp => some (t, x, sp)
  | _ => none
theorem asWh_eq {s : Stmt} {t : Expr} {x : List Stmt} {sp : Pos} (h : asWh s = some (t, x, sp)) : s = .While t x [] sp := by
  unfold asWh at h
  split at h
  · cases h; rfl
  · cases h
def isPass : Stmt → Bool
  | .Pass _ => true
  | _ => false
def isBrk : Stmt → Bool
  | .Break _ => true
  | _ => false
def isCont : Stmt → Bool
  | .Continue _ => true
  | _ => false
mutual
def ckS (c : Ce) : S → Stmt → Bool
  | .set i e own, s => (match asSet s with
    | some (x, v, _, _) => decide (c.N[i]? = some x) && locB c.ow x && (!own || isFresh c.tab e) && (notComp v || isLc v) && ckE c e v
    | none => false)
  | .asg g e, s => (match asAsg s with
    | some (tg, v, _) => notStar tg && !(isName tg) && !(isTup tg && isTup v) && ckG c g tg && ckE c e v
    | none => false)
  | .aug i op e, s => (match asAug s with
    | some (x, o, v, _, _) => decide (c.N[i]? = some x) && locB c.ow x && decide (o = op.py) && augB op && ckE c e v
    | none => false)
  | .ex e, s => (match asEx s with
    | some (v, _) => notComp v && ckE c e v
    | none => false)
  | .ret e fr, s => (match asRet s with
    | some (some v, _) => (!fr || isFresh c.tab e) && ckE c e v
    | _ => false)
  | .retN, s => (match asRet s with
    | some (none, _) => true
    | _ => false)
  | .ite d a b, s => (match asIf s with
    | some (t, x, y, _) => ckC c d t && ckSs c a x && ckSs c b y
    | none => false)
  | .for g it body, s => (match asFor s with
    | some (tg, iter, b, _) => notSet iter && ckI c it tg iter && ckG c g tg && ckSs c body b
    | none => false)
  | .forO i g body, s => (match asForN s with
    | some (tg, x, b, _, _) => decide (c.N[i]? = some x) && visB c.sc x && okName x && ckG c g tg && ckSs c body b
    | none => false)
  | .wh d body, s => (match asWh s with
    | some (t, b, _) => ckC c d t && ckSs c body b
    | none => false)
  | .pass, s => isPass s
  | .brk, s => isBrk s
  | .cont, s => isCont s
  | .never, _ => true
def ckSs (c : Ce) : List S → List Stmt → Bool
  | [], xs => xs.isEmpty
  | s :: ss, xs => (match xs with
    | x :: xs => ckS c s x && ckSs c ss xs
    | [] => false)
end
theorem lc_of {c : Ce} {e : E} {elt : Expr} {gens : List Comprehension} {scope : Scope} {p : Pos} (h : ckE c e (.ListComp elt gens scope p) = true) : ∃ e' g it cs own tg iter ifs, e = .comp e' g it cs own ∧ gens = [⟨tg, iter, ifs, 0⟩] ∧ (blkC c.N c.sc scope (ownNames c.N own) && notSet iter && g.plain && g.slots.all (fun i => own.contains i) && decide (ifs.length ≤ 1) && ckI c it tg iter &&
      ckG ⟨c.N, relS scope c.sc, scope, c.tab⟩ g tg && ckCs ⟨c.N, relS scope c.sc, scope, c.tab⟩ cs ifs && ckE ⟨c.N, relS scope c.sc, scope, c.tab⟩ e' elt) = true := by
  cases e <;> first | (cases h; done) | skip
  unfold ckE at h
  split at h
  · rename_i elt' tg iter ifs scope' p' ex
    have e1 := asLc_eq ex
    cases e1
    exact ⟨_, _, _, _, _, _, _, _, rfl, rfl, h⟩
  · cases h
structure Oks (c : Ce) (n : Nat) (cl : CallF) (X : Cx) : Prop extends Okx c n cl X where
  px : PassesOwn (model X.prog X.w) X.A X.env X.xe
  kind : c.sc.kind = .function
section
variable {n : Nat} {cl : CallF} {x y z : Expr} {pos : Pos}
theorem swap_comp {c : Ce} {X : Cx} (ok : Oks c n cl X) {t : Str} {tp : Pos} {l : Nat} {elt : Expr} {gs : List Comprehension} {scope : Scope} {p : Pos} :
    swapsWith (.ListComp elt gs scope p) (some (.Name t tp)) l X.env = pure (swapB c.sc t tp.line (.ListComp elt gs scope p)) := by
  have hb : X.env.blockKind = .function := by
    unfold Env.blockKind
    rw [ok.sc, ok.kind]
    rfl
  have hk : X.env.kindOf t = c.sc.names.lookup t := by
    show X.env.scope.names.lookup t = _
    rw [ok.sc]
  show (pure (X.env.blockKind == .function && X.env.kindOf t == some .local && tp.line == p.line && !(scope.names.any fun (n, k) => n == t && (k == .local || k == .cell))) : Sem Bool) = _
  rw [hb, hk]
  rfl
/-- name = value: the store's reading -/
theorem d_name {c : Ce} {X : Cx} (ok : Oks c n cl X) {i : Nat} {t : Str} {tp sp : Pos} {v : Expr} {e : E} (hi : c.N[i]? = some t) (hl : locB c.ow t = true) (hv : (notComp v || isLc v) = true) (h : ckE c e v = true) : PS X (.Assign [.Name t tp] v sp) (tAsg (tT X.K (evT cl e)) (gName i)) ∧ (isFresh c.tab e = true → PS X (.Assign [.Name t tp] v sp) (tAsg (tF X.K (evT cl e)) (gName i))) := by
  obtain ⟨hloc, hf⟩ := ok.st t hl
  obtain ⟨h1, h2⟩ := okE e c X v ok.toOkx h
  have nd : X.N.Nodup := by rw [ok.N]; exact ok.nd
  have hi' : X.N[i]? = some t := by rw [ok.N]; exact hi
  by_cases hc : notComp v = true
  · exact ⟨ps_set nd hi' hloc h1 (swap_of hc) hf, fun z => ps_set nd hi' hloc (h2 z) (swap_of hc) hf⟩
  · have hlc : isLc v = true := by
      rcases Bool.or_eq_true_iff.mp hv with z | z
      · exact absurd z hc
      · exact z
    cases v <;> first | (cases hlc; done) | skip
    rename_i elt gens scope p
    have hsw := swap_comp ok (t := t) (tp := tp) (l := sp.line) (elt := elt) (gs := gens) (scope := scope) (p := p)
    cases hb : swapB c.sc t tp.line (.ListComp elt gens scope p) with
    | false =>
      rw [hb] at hsw
      exact ⟨ps_set nd hi' hloc h1 hsw hf, fun z => ps_set nd hi' hloc (h2 z) hsw hf⟩
    | true =>
      rw [hb] at hsw
      have hlocal : X.env.scope.names.lookup t = some .local := by
        obtain ⟨h3, _⟩ := and_t (show (c.sc.names.lookup t == some .local && tp.line == p.line && !(scope.names.any fun (n, k) => n == t && (k == .local || k == .cell))) = true from hb)
        obtain ⟨h3, _⟩ := and_t h3
        rw [ok.sc]
        exact eq_of_beq h3
      obtain ⟨e, g, it, cs, own, tg, iter, ifs, rfl, rfl, h⟩ := lc_of h
      obtain ⟨h, h9⟩ := and_t h
      obtain ⟨h, h8⟩ := and_t h
      obtain ⟨h, h7⟩ := and_t h
      obtain ⟨h, h6⟩ := and_t h
      obtain ⟨h, h5⟩ := and_t h
      obtain ⟨h, h4⟩ := and_t h
      obtain ⟨h, h3⟩ := and_t h
      obtain ⟨h1, h2⟩ := and_t h
      have hW : ∀ i ∈ g.slots, i ∈ own := fun i hi => by simpa using List.all_eq_true.mp h4 i hi
      have hbk : BlkOk X.N X.env.scope scope (ownNames c.N own) := by rw [ok.N, ok.sc]; exact blkOk_by h1
      have hi2 := okI it c X tg iter ok.toOkx h6
      have hg : ∀ (s : Shared) (H : Hp) (C : Addr) (cells : List (Str × Addr)) (fp : List Addr), PG (X.blk s H scope (compEnvC scope cells C X.env) fp) tg (tG X.K g.slots (evG cl g)) := fun s H C cells fp => okG g _ _ _ (Okx.blk ok.toOkx) h7
      have ht : ∀ (s : Shared) (H : Hp) (C : Addr) (cells : List (Str × Addr)) (fp : List Addr), PTs (X.blk s H scope (compEnvC scope cells C X.env) fp) ifs (tBo X.K (evAll cl cs)) := fun s H C cells fp => okCs cs _ _ _ (Okx.blk ok.toOkx) (of_decide_eq_true h5) h8
      have he : ∀ (s : Shared) (H : Hp) (C : Addr) (cells : List (Str × Addr)) (fp : List Addr), PE (X.blk s H scope (compEnvC scope cells C X.env) fp) elt (tD X.K fun st => lk (evT cl e st)) := fun s H C cells fp => pe_lk (okE e _ (X.blk s H scope (compEnvC scope cells C X.env) fp) elt (Okx.blk ok.toOkx) h9).1
      have hlc := ps_setLc (spos := sp) (py := tp) ok.calm nd hi' hlocal hsw hi2 hbk hg ht he (set_of h2)
      rw [own_map] at hlc
      have hF : PS X (.Assign [.Name t tp] (.ListComp elt [⟨tg, iter, ifs, 0⟩] scope p) sp) (tAsg (tF X.K (evT cl (.comp e g it cs own))) (gName i)) := hlc.imp fun D σ H hq => tLc_ok hW (fun d st s1 => evG_len h3) σ H _ hq
      exact ⟨hF.imp fun D σ H hq => tF_of hq, fun _ => hF⟩
theorem names_of {g : Expr} (h : notStar g = true) {X : Cx} : (assignEach [g] X.env).map (·.2) = [assign g X.env] := by
  cases g <;> first | rfl | cases h
theorem sole_of {tg v : Expr} {l : Nat} {env : PySem.Env} (h : isName tg = false) : swapsWithSole [tg] v l env = pure false := by
  cases tg <;> first
    | (cases h; done)
    | (cases v <;> rfl)
theorem swapped_of {tg v : Expr} {env : PySem.Env} (h : (isTup tg && isTup v) = false) : swappedStores [tg] v env = pure none := by
  cases tg <;> first
    | rfl
    | (cases v <;> first | rfl | (cases h; done))
mutual
theorem okS : ∀ (s : S) (c : Ce) (X : Cx) (x : Stmt), Oks c n cl X → ckS c s x = true → PS X x (tS X.K (evS cl s))
  | .set i e own, c, X, x, ok, h => by
    unfold ckS at h
    split at h
    · rename_i t v tp sp ex
      rw [asSet_eq ex]
      obtain ⟨h, h5⟩ := and_t h
      obtain ⟨h, h4⟩ := and_t h
      obtain ⟨h, h3⟩ := and_t h
      obtain ⟨h1, h2⟩ := and_t h
      obtain ⟨r1, r2⟩ := d_name ok (sp := sp) (tp := tp) (of_decide_eq_true h1) h2 h4 h5
      cases own with
      | false => exact d_setv (r1.imp fun D σ H hq => tT_of hq)
      | true =>
        have hf : isFresh c.tab e = true := h3
        exact d_seto (r2 hf) (evT_v hf)
    · cases h
  | .asg g e, c, X, x, ok, h => by
    unfold ckS at h
    split at h
    · rename_i tg v sp ex
      rw [asAsg_eq ex]
      obtain ⟨h, h5⟩ := and_t h
      obtain ⟨h, h4⟩ := and_t h
      obtain ⟨h, h3⟩ := and_t h
      obtain ⟨h1, h2⟩ := and_t h
      exact d_asg (ps_asg (pe_lk (okE e c X v ok.toOkx h5).1) (okG g c X tg ok.toOkx h4) (sole_of (by simpa using h2)) (swapped_of (by revert h3; cases (isTup tg && isTup v) <;> decide)) (names_of h1))
    · cases h
  | .aug i op e, c, X, x, ok, h => by
    unfold ckS at h
    split at h
    · rename_i t o v tp sp ex
      rw [asAug_eq ex]
      obtain ⟨h, h5⟩ := and_t h
      obtain ⟨h, h4⟩ := and_t h
      obtain ⟨h, h3⟩ := and_t h
      obtain ⟨h1, h2⟩ := and_t h
      have e' := of_decide_eq_true h3
      subst e'
      obtain ⟨hloc, hf⟩ := ok.st t h2
      have hop : op = .add ∨ op = .sub ∨ op = .bor := by cases op <;> first | (cases h4; done) | simp
      exact d_aug (ps_aug (by rw [ok.N]; exact ok.nd) (by rw [ok.N]; exact of_decide_eq_true h1) hloc (pe_lk (okE e c X v ok.toOkx h5).1) (intFi_ok op hop) hf)
    · cases h
  | .ex e, c, X, x, ok, h => by
    unfold ckS at h
    split at h
    · rename_i v sp ex
      rw [asEx_eq ex]
      obtain ⟨h1, h2⟩ := and_t h
      exact d_ex (okE e c X v ok.toOkx h2).1 (swap_of h1)
    · cases h
  | .ret e fr, c, X, x, ok, h => by
    unfold ckS at h
    split at h
    · rename_i v sp ex
      rw [asRet_eq ex]
      obtain ⟨h1, h2⟩ := and_t h
      cases fr with
      | false => exact d_ret (okE e c X v ok.toOkx h2).1
      | true =>
        have hf : isFresh c.tab e = true := h1
        exact d_retF ((okE e c X v ok.toOkx h2).2 hf) (evT_v hf)
    · cases h
  | .retN, c, X, x, ok, h => by
    unfold ckS at h
    split at h
    · rename_i sp ex
      rw [asRet_eq ex]
      exact d_retN
    · cases h
  | .ite d a b, c, X, x, ok, h => by
    unfold ckS at h
    split at h
    · rename_i t y z sp ex
      rw [asIf_eq ex]
      obtain ⟨h, h3⟩ := and_t h
      obtain ⟨h1, h2⟩ := and_t h
      exact d_if (okC d c X t ok.toOkx h1).1 (okSs a c X y ok h2) (okSs b c X z ok h3)
    · cases h
  | .for g it body, c, X, x, ok, h => by
    unfold ckS at h
    split at h
    · rename_i tg iter b sp ex
      rw [asFor_eq ex]
      obtain ⟨h, h4⟩ := and_t h
      obtain ⟨h, h3⟩ := and_t h
      obtain ⟨h1, h2⟩ := and_t h
      exact d_for ok.px ok.calm (okI it c X tg iter ok.toOkx h2) (okG g c X tg ok.toOkx h3) (okSs body c X b ok h4) (set_of h1)
    · cases h
  | .forO i g body, c, X, x, ok, h => by
    unfold ckS at h
    split at h
    · rename_i tg n b p sp ex
      rw [asForN_eq ex]
      obtain ⟨h, h5⟩ := and_t h
      obtain ⟨h, h4⟩ := and_t h
      obtain ⟨h, h3⟩ := and_t h
      obtain ⟨h1, h2⟩ := and_t h
      obtain ⟨h3, h3'⟩ := and_t h3
      exact d_forO ok.px ok.calm (by rw [ok.N]; exact of_decide_eq_true h1) (vis_of ok.toOkx h2) (by simpa using h3) (by simpa using h3') (okG g c X tg ok.toOkx h4) (okSs body c X b ok h5)
    · cases h
  | .wh d body, c, X, x, ok, h => by
    unfold ckS at h
    split at h
    · rename_i t b sp ex
      rw [asWh_eq ex]
      obtain ⟨h1, h2⟩ := and_t h
      exact d_wh ok.px (okC d c X t ok.toOkx h1).1 (okSs body c X b ok h2)
    · cases h
  | .pass, c, X, x, ok, h => by
    have h : isPass x = true := by unfold ckS at h; exact h
    cases x <;> first | (cases h; done) | exact d_pass
  | .brk, c, X, x, ok, h => by
    have h : isBrk x = true := by unfold ckS at h; exact h
    cases x <;> first | (cases h; done) | exact d_brk
  | .cont, c, X, x, ok, h => by
    have h : isCont x = true := by unfold ckS at h; exact h
    cases x <;> first | (cases h; done) | exact d_cont
  | .never, c, X, x, ok, h => ps_never.imp fun D σ H ⟨A, ρ, st, t, s1, r, ef, q⟩ => by cases ef
theorem okSs : ∀ (s : List S) (c : Ce) (X : Cx) (x : List Stmt), Oks c n cl X → ckSs c s x = true → PSs X x (tS X.K (evSs cl s))
  | [], c, X, x, ok, h => by
    unfold ckSs at h
    cases x with
    | nil => exact d_snil
    | cons _ _ => cases h
  | s :: ss, c, X, x, ok, h => by
    unfold ckSs at h
    cases x with
    | nil => cases h
    | cons x xs =>
      obtain ⟨h1, h2⟩ := and_t (show (ckS c s x && ckSs c ss xs) = true from h)
      exact d_scons (okS s c X x ok h1) (okSs ss c X xs ok h2)
end
end

/-! ### defs -/
/-- a def of the text: the small language's def, its qualified name, its statement, its names by slot -/
structure Ent where
  df : Def
  qual : Str
  st : Stmt
  N : List Str
  ps : List Str
def scopeB (N P : List Str) (sc : Scope) : Bool :=
  decide (sc.kind = .function) && (!sc.isCoroutine) && (!sc.isGenerator) && decide (N.Nodup) && decide (N.take P.length = P) && (P.all fun x => locB sc x) && (sc.names.all fun y => decide (y.2 ≠ .free))
theorem scopeB_ok {N P : List Str} {sc : Scope} (h : scopeB N P sc = true) : FnScope N P sc := by
  obtain ⟨h, h7⟩ := and_t h
  obtain ⟨h, h6⟩ := and_t h
  obtain ⟨h, h5⟩ := and_t h
  obtain ⟨h, h4⟩ := and_t h
  obtain ⟨h, h3⟩ := and_t h
  obtain ⟨h1, h2⟩ := and_t h
  refine ⟨of_decide_eq_true h1, by simpa using h2, by simpa using h3, of_decide_eq_true h4, of_decide_eq_true h5, fun x hx => ?_, fun y hy => of_decide_eq_true (List.all_eq_true.mp h7 y hy)⟩
  have q := List.all_eq_true.mp h6 x hx
  unfold locB at q
  split at q
  · rename_i e; exact .inl e
  · rename_i e; exact .inr e
  · cases q
def entB (tab : List Def) (e : Ent) : Bool := scopeB e.N e.ps (defScope e.st) && decide (e.df.np = e.ps.length) && decide (e.df.ns = e.N.length) && ckSs ⟨e.N, defScope e.st, defScope e.st, tab⟩ e.df.body (defBody e.st)

section
variable {K : PySem.W.Frag} {A : Addr → Prop} {ρ ρ' : Nat → Addr} {σ σ' : L2.St} {H H' : Hp} {st st' : Sta}
/-- a def's state at the entry -/
def begun (ds : List D) (k : Nat) : Env := ds.map .val ++ List.replicate k .no
theorem begun_own {ds : List D} {k i : Nat} {d : D} : ¬ (begun ds k)[i]? = some (Slot.own d) := fun h => by
  unfold begun at h
  by_cases hi : i < ds.length
  · rw [List.getElem?_append_left (by simpa using hi), List.getElem?_map] at h
    cases e : ds[i]? with
    | none => rw [e] at h; cases h
    | some _ => rw [e] at h; cases h
  · rw [List.getElem?_append_right (by simpa using hi), List.getElem?_replicate] at h
    split at h <;> cases h
theorem own_begun {ds : List D} {k : Nat} {a : Addr} : ¬ Own (begun ds k) σ a := fun ⟨_, _, h, _⟩ => begun_own h
theorem Reps.get' {n : Nat} {L : Addr → Prop} {ds : List D} {vs : List V} {i : Nat} {d : D} (h : Reps K ρ n L H ds vs) (e : ds[i]? = some d) : ∃ v, vs[i]? = some v ∧ Rep K ρ n L H d v := h.get e
theorem Rel.begin {S : Store} {ds : List D} {vs : List V} {N : List Str} {np : Nat} (r : Rel K A ρ [] H ⟨[], S⟩) (h : Reps K ρ S.length (Ch A ρ [] ⟨[], S⟩) H ds vs) (hn : ds.length = np) (hN : np ≤ N.length) : Rel K A ρ (L2.start N vs) H ⟨begun ds (N.length - np), S⟩ := by
  have hch : ∀ a, Ch A ρ (L2.start N vs) ⟨begun ds (N.length - np), S⟩ a → Ch A ρ [] ⟨[], S⟩ a := fun a z => z.elim (fun z => Or.inl z) fun z => z.elim (fun z => Or.inr (Or.inl z)) fun z => (own_begun z).elim
  have kp : Keep ρ S.length (Ch A ρ [] ⟨[], S⟩) H ρ S.length (Ch A ρ (L2.start N vs) ⟨begun ds (N.length - np), S⟩) H := Keep.less hch fun a z => r.chH z
  refine ⟨?_, fun i d e => ?_, fun i d e => (begun_own e).elim, fun m xs e => ?_, r.tr, fun i j d e a h => (begun_own h).elim, r.cc, fun i d m xs h => (begun_own h).elim⟩
  · show (begun ds (N.length - np)).length = (L2.start N vs).length
    unfold begun L2.start
    rw [List.length_append, List.length_append, List.length_map, List.length_map, List.length_replicate, List.length_replicate, h.length]
    omega
  · have e : (begun ds (N.length - np))[i]? = some (Slot.val d) := e
    unfold begun at e
    by_cases hi : i < ds.length
    · rw [List.getElem?_append_left (by simpa using hi), List.getElem?_map] at e
      cases e1 : ds[i]? with
      | none => rw [e1] at e; cases e
      | some d' =>
        rw [e1] at e; cases e
        obtain ⟨v, h1, h2⟩ := h.get e1
        refine ⟨v, ?_, Rep.keep kp h2⟩
        unfold L2.start
        rw [List.getElem?_append_left (by rw [List.length_map, h.length]; exact hi), List.getElem?_map, h1]
        rfl
    · rw [List.getElem?_append_right (by simpa using hi), List.getElem?_replicate] at e
      split at e <;> cases e
  · obtain ⟨na, vs, z, q⟩ := r.cell m xs e
    exact ⟨na, vs, z, Reps.keep kp q⟩
theorem Rel.bare (r : Rel K A ρ σ H st) : Rel K A ρ [] H ⟨[], st.S⟩ := r.drop.weak fun a z => .inl z
theorem ch_bare {a : Addr} (h : Ch A ρ [] ⟨[], st.S⟩ a) : Ch A ρ σ st a := h.elim .inl fun h => h.elim (fun z => .inr (.inl z)) fun z => (own_nil z).elim
theorem fr_bare {ds : List D} {k : Nat} {S : Store} (f : Fr A ρ σ H ⟨begun ds k, S⟩ ρ' σ' H' st') : Fr A ρ [] H ⟨[], S⟩ ρ' [] H' ⟨[], st'.S⟩ :=
  ⟨f.rho, f.sz, fun a o e h1 h2 => f.at_ a o e h1 own_begun, f.free, f.live, fun a z => (own_nil z).elim, fun i z => by simp at z⟩
end

section
variable {P : Program} {w : World} {K : PySem.W.Frag} {mg : Str → Option Value} {base : Heap}
/-- what is known of the text -/
structure Known (K : PySem.W.Frag) (mg : Str → Option Value) (ents : List Ent) : Prop where
  none : ∀ x ∈ bNames, mg x = Option.none
  fn : ∀ (f : Nat) (e : Ent), ents[f]? = some e → ∃ a fd, Fun K e.df.name e.qual e.st a fd ∧ mg e.df.name = some (.ref a) ∧ Binds K fd e.ps []
  ck : ∀ (f : Nat) (e : Ent), ents[f]? = some e → entB (ents.map (·.df)) e = true
theorem callN_np {tab : List Def} : ∀ {n f : Nat} {df : Def} {ds : List D} {S : Store} {r : D × Store}, tab[f]? = some df → callN tab n f ds S = some r → ds.length = df.np
  | 0, _, _, _, _, _, _, h => by cases h
  | n + 1, f, df, ds, S, r, e, h => by
    unfold callN at h
    rw [e] at h
    have h : runD (callN tab n) df ds S = some r := h
    unfold runD at h
    split at h
    · assumption
    · cases h
theorem lib_ok {ents : List Ent} (Kn : Known K mg ents) : ∀ (n f : Nat) (e : Ent) (a : Addr) (fd : FuncData), ents[f]? = some e → Fun K e.df.name e.qual e.st a fd → FnOk P w K mg base CX0 n a fd e.ps (spF K (callN (ents.map (·.df)) n f) e.df.np e.df.fr)
  | 0, f, e, a, fd, he, F => by
    refine ⟨fun vs H Q E h => ?_, fun A outer s H args us vs Q E _ _ _ _ h => ?_⟩
    · obtain ⟨_, _, _, _, _, _, _, _, _, h, _⟩ := h
      cases h
    · obtain ⟨_, _, _, _, _, _, _, _, _, h, _⟩ := h
      cases h
  | n + 1, f, e, a, fd, he, F => by
    have hck := Kn.ck f e he
    obtain ⟨hck, h4⟩ := and_t hck
    obtain ⟨hck, h3⟩ := and_t hck
    obtain ⟨h1, h2⟩ := and_t hck
    have S := scopeB_ok h1
    have hnp := of_decide_eq_true h2
    have hns := of_decide_eq_true h3
    have htab : (ents.map (·.df))[f]? = some e.df := by rw [List.getElem?_map, he]; rfl
    have hpl : e.ps.length ≤ e.N.length := by have := congrArg List.length S.pre; rw [List.length_take] at this; omega
    refine F.ok S (fun vs H Q E h => ?_) (fun cdv A outer s H vs Q E hr h => ?_)
    · obtain ⟨_, _, _, ds, _, _, h1, _, h2, _⟩ := h
      rw [h2.length, h1, hnp]
    · obtain ⟨A', ρ, St, ds, d, S', hl, r, hreps, hF, q⟩ := h
      refine ⟨tS K (evSs (callN (ents.map (·.df)) n) e.df.body), okSs (n := n) (cl := callN (ents.map (·.df)) n) e.df.body ⟨e.N, defScope e.st, defScope e.st, ents.map (·.df)⟩ _ (defBody e.st) ⟨⟨rfl, S.nd, rfl, fun x hx => ?_, rfl, hr, Kn.none, fun g df hg => ?_, fun g df ds S r hg hr => callN_np hg hr⟩, PassesOwn.never, S.kind⟩ h4, ?_⟩
      · unfold locB at hx
        split at hx
        · rename_i e; exact ⟨.inl e, .inl rfl⟩
        · rename_i e; exact ⟨.inr e, .inl rfl⟩
        · cases hx
      · rw [List.getElem?_map] at hg
        cases eg : ents[g]? with
        | none => rw [eg] at hg; cases hg
        | some e' =>
          rw [eg] at hg; cases hg
          obtain ⟨a', fd', h1, h2, h3⟩ := Kn.fn g e' eg
          exact ⟨a', fd', e'.ps, lib_ok Kn n g e' a' fd' eg h1, h2, h1.kp, h3⟩
      · unfold callN at hF
        rw [htab] at hF
        have hF : runD (callN (ents.map (·.df)) n) e.df ds St = some (d, S') := hF
        unfold runD at hF
        rw [if_pos hl] at hF
        have r0 := r.begin (N := e.N) (np := e.df.np) hreps hl (by rw [hnp]; exact hpl)
        have hbeg : (⟨ds.map Slot.val ++ List.replicate (e.df.ns - e.df.np) Slot.no, St⟩ : Sta) = ⟨begun ds (e.N.length - e.df.np), St⟩ := by rw [hns]; rfl
        rw [hbeg] at hF
        split at hF
        · rename_i d' fr st1 hev
          split at hF
          · rename_i hfr
            cases hF
            refine ⟨A', ρ, ⟨begun ds (e.N.length - e.df.np), St⟩, .rt d fr, st1, r0, hev, fun ρ' σ' v H' f hrt => ?_⟩
            refine q ρ' v H' (fr_bare f) ?_
            unfold RtOk at hrt
            rw [hfr] at hrt
            cases hfr' : e.df.fr with
            | true =>
              rw [hfr'] at hrt
              simp only [if_true] at hrt ⊢
              rcases hrt with ⟨ds', b, ws, e1, e2, n, h1, h2, h3⟩ | ⟨h0, h1, h2⟩
              · exact .inl ⟨ds', b, ws, by rw [e1], e2, n.elim .inl fun z => (own_begun z).elim, h1.bare, h2, Reps.keep (Keep.less (fun a z => ch_bare z) fun a z => h1.chH z) h3⟩
              · exact .inr ⟨fun ds z => h0 ds (T.v.inj z), h1.bare, Rep.keep (Keep.less (fun a z => ch_bare z) fun a z => h1.chH z) h2⟩
            | false =>
              rw [hfr'] at hrt
              simp only [Bool.false_eq_true, if_false] at hrt ⊢
              exact ⟨hrt.1.bare, Rep.keep (Keep.less (fun a z => ch_bare z) fun a z => hrt.1.chH z) hrt.2⟩
          · cases hF
        · rename_i st1 hev
          split at hF
          · cases hF
          · rename_i hfr
            cases hF
            refine ⟨A', ρ, ⟨begun ds (e.N.length - e.df.np), St⟩, .nx, st1, r0, hev, fun ρ' σ' H' f hr' => ?_⟩
            refine q ρ' .non H' (fr_bare f) ?_
            rw [if_neg hfr]
            exact ⟨hr'.bare, rfl⟩
        · cases hF

/-! ### a law -/
def spLaw (K : PySem.W.Frag) : Sp := fun vs H Q _ => ∃ (a : Addr) (ns : List Int), vs = [.ref a] ∧ Only H ∧ SqL K H a (ns.map V.int) ∧ ns.length ≤ 63 ∧ ∀ H', Q (.bl true) H'
theorem law_sp {F : List D → Store → Option (D × Store)} (hF : ∀ ns : List Int, ns.length ≤ 63 → ∃ S', F [.lst (ns.map D.int)] [] = some (.bl true, S')) : ∀ vs H Q E, spLaw K vs H Q E → spF K F 1 false vs H Q E := by
  rintro vs H Q E ⟨a, ns, rfl, hO, hS, hl, q⟩
  obtain ⟨S', hF⟩ := hF ns hl
  refine ⟨fun _ => False, fun _ => 0, [], [.lst (ns.map D.int)], .bl true, S', rfl, ⟨rfl, fun i d e => by simp at e, fun i d e => by simp at e, fun m xs e => by simp at e, fun a h => h.elim, fun i j d e a h => by simp at h, fun m m' xs ys h => by simp at h, fun i d m xs h => by simp at h⟩, ⟨_, [], rfl, ⟨a, ns.map V.int, rfl, ?_, Reps.map_int ns⟩, rfl⟩, hF, fun ρ' v H' _ h => ?_⟩
  · have nch : ¬ Ch (fun _ => False) (fun _ => 0) [] ⟨[], []⟩ a := fun z => z.elim id fun z => z.elim (fun ⟨_, _, h, _⟩ => by simp at h) own_nil
    rcases hS with (h | ⟨o, h⟩) | h
    · exact .inl ⟨_, h, nch, .inl rfl⟩
    · exact .inl ⟨_, h, nch, .inr ⟨o, rfl⟩⟩
    · exact .inr h
  · simp only [Bool.false_eq_true, if_false] at h
    rw [show v = V.bl true from h.2]
    exact q H'
end
/-- how each def's arguments bind -/
def BindAll : List Ent → Prop
  | [] => True
  | e :: r => (∀ (kV doc pm : Value) (an : Option Addr) (cdv ct : Value) (us : List Value), us.length = e.ps.length → bindArgs (PySem.W.fnOf e.df.name e.qual (defArgs e.st) (defBody e.st) (defScope e.st) .none kV doc pm an cdv ct) ⟨us, []⟩ = pure (e.ps.zip us)) ∧ BindAll r
theorem BindAll.get : ∀ {ents : List Ent} {f : Nat} {e : Ent}, BindAll ents → ents[f]? = some e → ∀ (kV doc pm : Value) (an : Option Addr) (cdv ct : Value) (us : List Value), us.length = e.ps.length → bindArgs (PySem.W.fnOf e.df.name e.qual (defArgs e.st) (defBody e.st) (defScope e.st) .none kV doc pm an cdv ct) ⟨us, []⟩ = pure (e.ps.zip us)
  | e :: r, 0, _, h, he => by cases he; exact h.1
  | e :: r, f + 1, _, h, he => BindAll.get (f := f) h.2 he
def FactAll (K : PySem.W.Frag) (mg : Str → Option Value) : List Ent → Prop
  | [] => True
  | e :: r => (∃ a fd, Fun K e.df.name e.qual e.st a fd ∧ mg e.df.name = some (.ref a)) ∧ FactAll K mg r
theorem FactAll.get {K : PySem.W.Frag} {mg : Str → Option Value} : ∀ {ents : List Ent} {f : Nat} {e : Ent}, FactAll K mg ents → ents[f]? = some e → ∃ a fd, Fun K e.df.name e.qual e.st a fd ∧ mg e.df.name = some (.ref a)
  | e :: r, 0, _, h, he => by cases he; exact h.1
  | e :: r, f + 1, _, h, he => FactAll.get (f := f) h.2 he
theorem fact_mk {K : PySem.W.Frag} {mg : Str → Option Value} {h : Heap} (X : K.In h) (G : h.Ns mainGlobals mg) {e : Ent} {f : Addr} {oc : Value} {od an : Option Addr} {osl : Array (Option Value)} {kV doc pm cdv ct : Value}
    (a : PySem.W.nsIn K mainGlobals e.df.name = some (some (.ref f))) (l : K.lookup f = some ⟨oc, od, .func (PySem.W.fnOf e.df.name e.qual (defArgs e.st) (defBody e.st) (defScope e.st) .none kV doc pm an cdv ct), osl⟩) (c : PySem.W.codeIn K cdv e.qual = true) (k : PySem.W.keepIn K (.ref f) = true) :
    ∃ a fd, Fun K e.df.name e.qual e.st a fd ∧ mg e.df.name = some (.ref a) := ⟨f, _, fun_mk l c k, PySem.W.mg_of X G a⟩
theorem none_mk {K : PySem.W.Frag} {mg : Str → Option Value} {h : Heap} (X : K.In h) (G : h.Ns mainGlobals mg) : ∀ {xs : List Str}, (∀ x ∈ xs, PySem.W.nsIn K mainGlobals x = some none) → ∀ x ∈ xs, mg x = none := fun hx x h => PySem.W.mg_none_of X G (hx x h)

/-- the end of a law's row: what k_head and k_fill leave -/
theorem law_walk {l : PySem.W.OpenLaw} {q : Program} {loose : List Str} {XP : (Str → Option Value) → Heap → Prop} {YP : World → Heap → Prop} {d : DefRec} {K : Params → PySem.W.Frag} {ents : List Ent} {f : Nat} {e : Ent} {x : Str} {n : Nat}
    (hn : l.most = some 63) (hdf : d.params.defaults = []) (hr : Room n callerA) (he : ents[f]? = some e) (hname : e.df.name = d.name) (hps : e.ps = [x]) (hnp : e.df.np = 1) (hfr : e.df.fr = false)
    (hba : BindAll ents)
    (hck : ents.all (entB (ents.map (·.df))) = true)
    (hF : ∀ ns : List Int, ns.length ≤ 63 → ∃ S', callN (ents.map (·.df)) n f [.lst (ns.map D.int)] [] = some (.bl true, S'))
    (hY : ∀ (w : World) (h : Heap), YP w h → (K w.params).In h)
    (kn : ∀ (w : World) (mg : Str → Option Value) (h : Heap), (K w.params).In h → h.Ns mainGlobals mg → (∀ x ∈ bNames, mg x = none) ∧ FactAll (K w.params) mg ents) :
    PySem.W.WalkO q loose XP YP l.row.toRowW d [] (fun f vs => PySem.call f vs) := by
  have ck : ∀ f e, ents[f]? = some e → entB (ents.map (·.df)) e = true := fun f e h => List.all_eq_true.mp hck e (List.mem_of_getElem? h)
  refine L2.walk_of (l := l) (n := 63) (k := n) (x := x) (CX := fun _ => CX0) (sp := fun w => spLaw (K w.params)) hn (by decide) hdf hr hY (fun w mg fa h KX G hmg => ?_) (fun w H a ns hl hO hS => ⟨a, ns, rfl, hO, hS, hl, fun _ => rfl⟩) fun _ _ _ _ _ z => z
  obtain ⟨hnone, hfa⟩ := kn w mg h KX G
  have hfn : ∀ (f : Nat) (e : Ent), ents[f]? = some e → ∃ a fd, Fun (K w.params) e.df.name e.qual e.st a fd ∧ mg e.df.name = some (.ref a) ∧ Binds (K w.params) fd e.ps [] := fun f e he => by
    obtain ⟨a, fd, F, hm⟩ := hfa.get he
    exact ⟨a, fd, F, hm, F.binds (hba.get he)⟩
  obtain ⟨a, fd, F, hm, hb⟩ := hfn f e he
  rw [hname, hmg] at hm
  have hm' : a = fa := by injection hm with z; injection z with z; exact z.symm
  subst hm'
  refine ⟨fd, fun s u => ?_, fun base KB GB => ?_⟩
  · obtain ⟨oc, od, kV, doc, pm, an, cdv, ct, osl, rfl, lk, hcd⟩ := F.ex
    have := hba.get he kV doc pm an cdv ct [u] (by rw [hps]; rfl)
    rw [hps] at this
    exact .of_eq this
  · have h1 := lib_ok (P := l.prog) (w := w) (base := base) ⟨hnone, hfn, ck⟩ n f e a fd he F
    rw [hps, hnp, hfr] at h1
    exact h1.imp (law_sp hF)
end Gp

/-! Gp, part N: plain tools for what the evaluator tells. -/
namespace Gp
open PySem L2

def isT (o : Option (D × Store)) : Bool := match o with
  | some (.bl true, []) => true
  | _ => false
theorem isT_ok {o : Option (D × Store)} (h : isT o = true) : o = some (.bl true, []) := by
  unfold isT at h
  split at h
  · rfl
  · cases h
theorem callN_ret {tab : List Def} {n f : Nat} {df : Def} {ds : List D} {S : Store} {d : D} {st : Sta} (ht : tab[f]? = some df) (hl : ds.length = df.np) (h : evSs (callN tab n) df.body ⟨ds.map .val ++ List.replicate (df.ns - df.np) .no, S⟩ = .ok (.rt d df.fr) st) : callN tab (n + 1) f ds S = some (d, st.S) := by
  show (match tab[f]? with
    | some df => runD (callN tab n) df ds S
    | none => none) = _
  rw [ht]
  show runD (callN tab n) df ds S = _
  unfold runD
  rw [if_pos hl, h]
  show (if df.fr = df.fr then some (d, st.S) else none) = _
  rw [if_pos rfl]
theorem evSs_cons {cl : CallF} {s : S} {ss : List S} {st s1 : Sta} (h : evS cl s st = .ok .nx s1) : evSs cl (s :: ss) st = evSs cl ss s1 := by
  simp only [evSs, h, Out.ok_bind]
theorem evSs_ret {cl : CallF} {s : S} {ss : List S} {st s1 : Sta} {d : D} {fr : Bool} (h : evS cl s st = .ok (.rt d fr) s1) : evSs cl (s :: ss) st = .ok (.rt d fr) s1 := by
  simp only [evSs, h, Out.ok_bind]
theorem evFor {cl : CallF} {g : G} {it : I} {body : List S} {st s1 : Sta} {ds : List D} (h : evI cl it st = .ok ds s1) : evS cl (.for g it body) st = loop (evG cl g) (evSs cl body) ds s1 := by
  simp only [evS, h, Out.ok_bind]
theorem loop_nx {tg : D → Sta → Out Unit} {body : Sta → Out Ctl} (I : List D → Sta → Prop)
    (h : ∀ d ds st, I (d :: ds) st → ∃ s1 s2 c, tg d st = .ok () s1 ∧ body s1 = .ok c s2 ∧ (c = .nx ∨ c = .ct) ∧ I ds s2) :
    ∀ ds st, I ds st → ∃ s', loop tg body ds st = .ok .nx s' ∧ I [] s'
  | [], st, i => ⟨st, rfl, i⟩
  | d :: ds, st, i => by
    obtain ⟨s1, s2, c, e1, e2, hc, i2⟩ := h d ds st i
    obtain ⟨s', e3, i3⟩ := loop_nx I h ds s2 i2
    refine ⟨s', ?_, i3⟩
    show (tg d st).bind _ = _
    rw [e1]
    show (body s1).bind _ = _
    rw [e2]
    rcases hc with rfl | rfl <;> exact e3
theorem compL_map {tg : D → Sta → Out Unit} {c : Sta → Out Bool} {e : Sta → Out D} {own : List Nat} (I : Sta → Prop) (f : D → D) :
    ∀ (ds acc : List D) (st : Sta), (∀ d ∈ ds, ∀ st, I st → ∃ s1 s2 s3, tg d { st with env := wipeE st.env own } = .ok () s1 ∧ c s1 = .ok true s2 ∧ e s2 = .ok (f d) s3 ∧ I s3) →
      I st → acc.length + ds.length ≤ 1000000 → ∃ s', compL tg c e own ds acc st = .ok (acc ++ ds.map f) s' ∧ I s'
  | [], acc, st, _, i, _ => ⟨st, by simp [compL], i⟩
  | d :: ds, acc, st, h, i, hl => by
    obtain ⟨s1, s2, s3, e1, e2, e3, i3⟩ := h d (List.mem_cons_self) st i
    have hl' : acc.length + ds.length + 1 ≤ 1000000 := by simpa [Nat.add_assoc] using hl
    obtain ⟨s', e4, i4⟩ := compL_map I f ds (acc ++ [f d]) s3 (fun d' m => h d' (List.mem_cons_of_mem _ m)) i3 (by simp; omega)
    refine ⟨s', ?_, i4⟩
    have hlt : acc.length < 1000000 := by omega
    have e5 : compL tg c e own ds (acc ++ [f d]) s3 = .ok (acc ++ (d :: ds).map f) s' := by rw [e4]; simp
    simp only [compL, e1, Out.ok_bind, e2, e3, if_true, hlt, e5]
theorem evComp {cl : CallF} {e : E} {g : G} {it : I} {cs : List C} {own : List Nat} {st s1 s2 : Sta} {ds xs : List D} (h : evI cl it st = .ok ds s1) (h2 : compL (evG cl g) (evAll cl cs) (fun s => lk (evT cl e s)) own ds [] s1 = .ok xs s2) : evT cl (.comp e g it cs own) st = .ok (.v (.lst xs)) { s2 with env := unwipe s1.env s2.env own } := by
  simp only [evT, h, Out.ok_bind, h2, vO]
theorem ret_all {cl : CallF} {e : E} {st s1 : Sta} {xs : List Bool} (hx : ∀ b ∈ xs, b = true) (h : evT cl e st = .ok (.v (.lst (xs.map .bl))) s1) : evS cl (.ret (.b1 .all e) false) st = .ok (.rt (.bl true) false) s1 := by
  have e1 : b1F .all (.lst (xs.map D.bl)) = some (.bl true) := by
    have : D.bls (xs.map D.bl) = some xs := by
      clear hx h
      induction xs with
      | nil => rfl
      | cons b xs ih => simp [D.bls, ih]
    simp only [b1F, this, Option.map_some]
    have : xs.all id = true := List.all_eq_true.mpr fun b hb => hx b hb
    rw [this]
  simp only [evS, evE, evT, h, Out.ok_bind, look, e1, vF, lk, leak]
theorem bls_true : ∀ n : Nat, D.bls (List.replicate n (D.bl true)) = some (List.replicate n true)
  | 0 => rfl
  | n + 1 => by simp [List.replicate_succ, D.bls, bls_true n]
theorem map_const (xs : List D) (y : D) : xs.map (fun _ => y) = List.replicate xs.length y := by
  induction xs with
  | nil => rfl
  | cons x xs ih => rw [List.map_cons, ih]; rfl
theorem all_true (xs : List D) : b1F .all (.lst (xs.map fun _ => D.bl true)) = some (.bl true) := by
  rw [map_const]
  simp only [b1F, bls_true, Option.map_some]
  have : (List.replicate xs.length true).all id = true := List.all_eq_true.mpr fun b hb => (List.mem_replicate.mp hb).2
  rw [this]
theorem cutD_mem {xs : List D} {lo hi : Option Int} {d : D} (h : d ∈ cutD xs lo hi) : d ∈ xs := List.mem_of_mem_drop (List.mem_of_mem_take h)
theorem cutD_len {xs : List D} {lo hi : Option Int} : (cutD xs lo hi).length ≤ xs.length := by
  unfold cutD
  rw [List.length_take, List.length_drop]
  omega
theorem mem_rangeL {a b : Int} {d : D} (h : d ∈ rangeL a b) : ∃ k : Nat, d = .int (a + k) ∧ a + k < b := by
  unfold rangeL at h
  obtain ⟨k, hk, rfl⟩ := List.mem_map.mp h
  rw [List.mem_range] at hk
  exact ⟨k, rfl, by omega⟩
theorem rangeL_len {a b : Int} : (rangeL a b).length = (b - a).toNat := by unfold rangeL; rw [List.length_map, List.length_range]
/-! rows of noughts and ones -/
def bitsL : Nat → List (List D)
  | 0 => [[]]
  | n + 1 => (bitsL n).flatMap fun r => [.int 0 :: r, .int 1 :: r]
def Bits (xs : List D) : Prop := ∀ x ∈ xs, x = .int 0 ∨ x = .int 1
theorem bitsL_mem : ∀ {xs : List D}, Bits xs → xs ∈ bitsL xs.length
  | [], _ => by simp [bitsL]
  | x :: xs, h => by
    have h1 := bitsL_mem (xs := xs) fun y m => h y (List.mem_cons_of_mem _ m)
    rw [List.length_cons, bitsL, List.mem_flatMap]
    refine ⟨xs, h1, ?_⟩
    rcases h x List.mem_cons_self with rfl | rfl <;> simp
theorem Bits.append {xs ys : List D} (h : Bits xs) (h' : Bits ys) : Bits (xs ++ ys) := fun x m => (List.mem_append.mp m).elim (h x) (h' x)
theorem Bits.rep0 (n : Nat) : Bits (List.replicate n (.int 0)) := fun x m => .inl (List.mem_replicate.mp m).2
theorem Bits.rep1 (n : Nat) : Bits (List.replicate n (.int 1)) := fun x m => .inr (List.mem_replicate.mp m).2
theorem bit_mod (j : Int) : D.int (j % 2) = .int 0 ∨ D.int (j % 2) = .int 1 := by
  have h : j % 2 = 0 ∨ j % 2 = 1 := by omega
  rcases h with h | h <;> rw [h] <;> simp
/-- each of a list's things holds at the call -/
theorem all_call {cl : CallF} {f : Nat} {st : Sta} {i : Nat} {d : D} (hi : st.env[i]? = some (.val d)) (h : cl f [d] st.S = some (.bl true, st.S)) : lk (evT cl (.call f [.var i]) st) = .ok (.bl true) st := by
  simp only [evT, evEs, hi, lk, leak, Out.ok_bind, callO, h]
theorem evAppend {cl : CallF} {i : Nat} {e : E} {st s1 : Sta} {d : D} {xs ys : List D} (he : lk (evT cl e st) = .ok d s1) (h0 : st.env[i]? = some (.own (.lst ys))) (h1 : s1.env[i]? = some (.own (.lst xs))) (hl : xs.length < 1000000) :
    evS cl (.ex (.meth .append (.var i) [e])) st = .ok .nx { s1 with env := s1.env.set i (.own (.lst (xs ++ [d]))) } := by
  have e1 : evT cl (.var i) st = .ok (.slot i) st := by simp only [evT, h0]
  have e2 : look (.slot i) st = some (.lst ys) := by simp only [look, h0]
  have e3 : look (.slot i) s1 = some (.lst xs) := by simp only [look, h1]
  have e4 : evEs cl [e] st = .ok [d] s1 := by simp only [evEs, he, Out.ok_bind]
  have e5 : put (.slot i) (xs ++ [d]) s1 = some { s1 with env := s1.env.set i (.own (.lst (xs ++ [d]))) } := by simp only [put, h1]
  have e6 : methO .append (.slot i) [d] s1 = .ok (.v .non) { s1 with env := s1.env.set i (.own (.lst (xs ++ [d]))) } := by simp only [methO, e3, methF, mAppend, hl, if_true, e5]
  have e7 : evT cl (.meth .append (.var i) [e]) st = .ok (.v .non) { s1 with env := s1.env.set i (.own (.lst (xs ++ [d]))) } := by
    rw [evT, e1, Out.ok_bind, e2, e4]
    exact e6
  simp only [evS, evE, e7, lk, leak, Out.ok_bind]
theorem evRange1 {cl : CallF} {e : E} {st s1 : Sta} {i : Int} (h : lk (evT cl e st) = .ok (.int i) s1) (hs : smallI i) : evI cl (.range1 e) st = .ok (rangeL 0 i) s1 := by
  simp only [evI, intO, h, Out.ok_bind, if_pos hs]
theorem evRange {cl : CallF} {a b : E} {st s1 s2 : Sta} {i j : Int} (h : lk (evT cl a st) = .ok (.int i) s1) (h' : lk (evT cl b s1) = .ok (.int j) s2) (hs : smallI i) (hs' : smallI j) : evI cl (.range a b) st = .ok (rangeL i j) s2 := by
  simp only [evI, intO, h, h', Out.ok_bind, if_pos (And.intro hs hs')]
theorem evRet {cl : CallF} {e : E} {fr : Bool} {st s1 : Sta} {d : D} (h : lk (evT cl e st) = .ok d s1) : evS cl (.ret e fr) st = .ok (.rt d fr) s1 := by
  simp only [evS, evE, h, Out.ok_bind]
theorem lkv {o : Out T} {d : D} {s : Sta} (h : o = .ok (.v d) s) : lk o = .ok d s := by rw [h]; rfl
end Gp

/-! Gp, part O: the evaluator as combinators (printed by gen_o.py). -/
namespace Gp
open PySem L2
section
variable (cl : CallF)
def cT_var (i : Nat) : Sta → Out T := fun st => (match st.env[i]? with
    | some (.val _) => .ok (.slot i) st
    | some (.own _) => .ok (.slot i) st
    | _ => .bad)
theorem cT_var_eq (i : Nat) : evT cl (.var i) = cT_var i := rfl
def cT_mv (i : Nat) : Sta → Out T := fun st => (match st.env[i]? with
    | some (.own d) => vO d { st with env := st.env.set i .no }
    | _ => .bad)
theorem cT_mv_eq (i : Nat) : evT cl (.mv i) = cT_mv i := rfl
def cT_cst (d : D) : Sta → Out T := fun st => vO d st
theorem cT_cst_eq (d : D) : evT cl (.cst d) = cT_cst d := rfl
def cT_bin (op : BOp) (a : Sta → Out T) (b : Sta → Out T) : Sta → Out T := fun st => two (a) (b) (binF op) st
theorem cT_bin_eq (op : BOp) (a : E) (b : E) : evT cl (.bin op a b) = cT_bin op (evT cl a) (evT cl b) := rfl
def cT_neg (a : Sta → Out T) : Sta → Out T := fun st => (intO (lk (a st))).bind fun i s1 => vO (.int (-i)) s1
theorem cT_neg_eq (a : E) : evT cl (.neg a) = cT_neg (evT cl a) := rfl
def cT_cmp (op : COp) (a : Sta → Out T) (b : Sta → Out T) : Sta → Out T := fun st => two (a) (b) (cmpF op) st
theorem cT_cmp_eq (op : COp) (a : E) (b : E) : evT cl (.cmp op a b) = cT_cmp op (evT cl a) (evT cl b) := rfl
def cT_chain (o1 : COp) (o2 : COp) (a : Sta → Out T) (b : Sta → Out T) (c : Sta → Out T) : Sta → Out T := fun st => (lk (a st)).bind fun x s1 => (lk (b s1)).bind fun y s2 => match cmpF o1 x y with
    | some (.bl true) => (lk (c s2)).bind fun z s3 => vF (cmpF o2 y z) s3
    | some (.bl false) => vO (.bl false) s2
    | _ => .bad
theorem cT_chain_eq (o1 : COp) (o2 : COp) (a : E) (b : E) (c : E) : evT cl (.chain o1 o2 a b c) = cT_chain o1 o2 (evT cl a) (evT cl b) (evT cl c) := rfl
def cT_and (a : Sta → Out T) (b : Sta → Out T) : Sta → Out T := fun st => (lk (a st)).bind fun x s1 => (match x with
    | .bl true => (lk (b s1)).bind vO
    | .bl false => vO (.bl false) s1
    | _ => .bad)
theorem cT_and_eq (a : E) (b : E) : evT cl (.and a b) = cT_and (evT cl a) (evT cl b) := rfl
def cT_or (a : Sta → Out T) (b : Sta → Out T) : Sta → Out T := fun st => (lk (a st)).bind fun x s1 => (match x with
    | .bl false => (lk (b s1)).bind vO
    | .bl true => vO (.bl true) s1
    | _ => .bad)
theorem cT_or_eq (a : E) (b : E) : evT cl (.or a b) = cT_or (evT cl a) (evT cl b) := rfl
def cT_not (a : Sta → Out T) : Sta → Out T := fun st => (lk (a st)).bind fun x s1 => (match x with
    | .bl k => vO (.bl (!k)) s1
    | _ => .bad)
theorem cT_not_eq (a : E) : evT cl (.not a) = cT_not (evT cl a) := rfl
def cT_ife (c : Sta → Out Bool) (a : Sta → Out T) (b : Sta → Out T) : Sta → Out T := fun st => (c st).bind fun k s1 => if k then (lk (a s1)).bind vO else (lk (b s1)).bind vO
theorem cT_ife_eq (c : C) (a : E) (b : E) : evT cl (.ife c a b) = cT_ife (evB cl c) (evT cl a) (evT cl b) := rfl
def cT_sub (a : Sta → Out T) (b : Sta → Out T) : Sta → Out T := fun st => two (a) (b) itemF st
theorem cT_sub_eq (a : E) (b : E) : evT cl (.sub a b) = cT_sub (evT cl a) (evT cl b) := rfl
def cT_cut (a : Sta → Out T) (lo : Sta → Out (Option Int)) (hi : Sta → Out (Option Int)) : Sta → Out T := fun st => (a st).bind fun x s1 => (lo s1).bind fun l s2 => (hi s2).bind fun h s3 => match look x s3 with
    | some d => vF (cutF d l h) s3
    | none => .bad
theorem cT_cut_eq (a : E) (lo : Option E) (hi : Option E) : evT cl (.cut a lo hi) = cT_cut (evT cl a) (evP cl lo) (evP cl hi) := rfl
def cT_back (a : Sta → Out T) : Sta → Out T := fun st => (a st).bind fun x s1 => match look x s1 with
    | some (.lst xs) => vO (.lst xs.reverse) s1
    | _ => .bad
theorem cT_back_eq (a : E) : evT cl (.back a) = cT_back (evT cl a) := rfl
def cT_tup (es : Sta → Out (List D)) : Sta → Out T := fun st => (es st).bind fun xs s1 => if xs.length ≤ 1000000 then vO (.tup xs) s1 else .bad
theorem cT_tup_eq (es : List E) : evT cl (.tup es) = cT_tup (evEs cl es) := rfl
def cT_lst (es : Sta → Out (List D)) : Sta → Out T := fun st => (es st).bind fun xs s1 => if xs.length ≤ 1000000 then vO (.lst xs) s1 else .bad
theorem cT_lst_eq (es : List E) : evT cl (.lst es) = cT_lst (evEs cl es) := rfl
def cT_rep (es : Sta → Out (List D)) (k : Sta → Out T) : Sta → Out T := fun st => (es st).bind fun xs s1 => (intO (lk (k s1))).bind fun k s2 => if xs.length ≤ 1000000 then vF (repF xs k) s2 else .bad
theorem cT_rep_eq (es : List E) (k : E) : evT cl (.rep es k) = cT_rep (evEs cl es) (evT cl k) := rfl
def cT_call (f : Nat) (es : Sta → Out (List D)) : Sta → Out T := fun st => (es st).bind fun xs s1 => callO cl f xs s1
theorem cT_call_eq (f : Nat) (es : List E) : evT cl (.call f es) = cT_call cl f (evEs cl es) := rfl
def cT_pcall (f : Nat) (es : Sta → Out (List T)) : Sta → Out T := fun st => (es st).bind fun ts s1 => pcallO cl f ts s1
theorem cT_pcall_eq (f : Nat) (es : List E) : evT cl (.pcall f es) = cT_pcall cl f (evTs cl es) := rfl
def cT_b1 (b : B1) (a : Sta → Out T) : Sta → Out T := fun st => (a st).bind fun x s1 => match look x s1 with
    | some d => vF (b1F b d) s1
    | none => .bad
theorem cT_b1_eq (b : B1) (a : E) : evT cl (.b1 b a) = cT_b1 b (evT cl a) := rfl
def cT_b2 (b : B2) (a : Sta → Out T) (c : Sta → Out T) : Sta → Out T := fun st => (lk (a st)).bind fun x s1 => (lk (c s1)).bind fun y s2 => vF (b2F b x y) s2
theorem cT_b2_eq (b : B2) (a : E) (c : E) : evT cl (.b2 b a c) = cT_b2 b (evT cl a) (evT cl c) := rfl
def cT_lrange (a : Sta → Out T) (b : Sta → Out T) : Sta → Out T := fun st => (intO (lk (a st))).bind fun i s1 => (intO (lk (b s1))).bind fun j s2 =>
      if smallI i ∧ smallI j ∧ j - i ≤ 1000000 then vO (.lst (rangeL i j)) s2 else .bad
theorem cT_lrange_eq (a : E) (b : E) : evT cl (.lrange a b) = cT_lrange (evT cl a) (evT cl b) := rfl
def cT_lrange1 (b : Sta → Out T) : Sta → Out T := fun st => (intO (lk (b st))).bind fun j s2 =>
      if smallI j ∧ j ≤ 1000000 then vO (.lst (rangeL 0 j)) s2 else .bad
theorem cT_lrange1_eq (b : E) : evT cl (.lrange1 b) = cT_lrange1 (evT cl b) := rfl
def cT_isi (t : Ty) (a : Sta → Out T) : Sta → Out T := fun st => (a st).bind fun x s1 => match look x s1 with
    | some d => (match isiF t d with
      | some k => vO (.bl k) s1
      | none => .bad)
    | none => .bad
theorem cT_isi_eq (t : Ty) (a : E) : evT cl (.isi t a) = cT_isi t (evT cl a) := rfl
def cT_meth (m : Me) (o : Sta → Out T) (es : Sta → Out (List D)) : Sta → Out T := fun st => (o st).bind fun x s1 => match look x s1 with
    | some (.lst _) => (es s1).bind fun ds s2 => methO m x ds s2
    | _ => .bad
theorem cT_meth_eq (m : Me) (o : E) (es : List E) : evT cl (.meth m o es) = cT_meth m (evT cl o) (evEs cl es) := rfl
def cT_comp (e : Sta → Out T) (g : D → Sta → Out Unit) (it : Sta → Out (List D)) (cs : Sta → Out Bool) (own : List Nat) : Sta → Out T := fun st => (it st).bind fun ds s1 =>
      (compL (g) (cs) (fun s => lk (e s)) own ds [] s1).bind fun xs s2 => vO (.lst xs) { s2 with env := unwipe s1.env s2.env own }
theorem cT_comp_eq (e : E) (g : G) (it : I) (cs : List C) (own : List Nat) : evT cl (.comp e g it cs own) = cT_comp (evT cl e) (evG cl g) (evI cl it) (evAll cl cs) own := rfl
def cB_and (a : Sta → Out Bool) (b : Sta → Out Bool) : Sta → Out Bool := fun st => (a st).bind fun k s1 => if k then b s1 else .ok false s1
theorem cB_and_eq (a : C) (b : C) : evB cl (.and a b) = cB_and (evB cl a) (evB cl b) := rfl
def cB_or (a : Sta → Out Bool) (b : Sta → Out Bool) : Sta → Out Bool := fun st => (a st).bind fun k s1 => if k then .ok true s1 else b s1
theorem cB_or_eq (a : C) (b : C) : evB cl (.or a b) = cB_or (evB cl a) (evB cl b) := rfl
def cB_not (a : Sta → Out Bool) : Sta → Out Bool := fun st => (a st).bind fun k s1 => .ok (!k) s1
theorem cB_not_eq (a : C) : evB cl (.not a) = cB_not (evB cl a) := rfl
def cB_val (e : Sta → Out T) : Sta → Out Bool := fun st => (e st).bind fun x s1 => match look x s1 with
    | some d => (match truth d with
      | some k => .ok k s1
      | none => .bad)
    | none => .bad
theorem cB_val_eq (e : E) : evB cl (.val e) = cB_val (evT cl e) := rfl
def cI_seq (e : Sta → Out T) : Sta → Out (List D) := fun st => (lk (e st)).bind fun x s1 => (match x with
    | .lst xs => .ok xs s1
    | .tup xs => .ok xs s1
    | _ => .bad)
theorem cI_seq_eq (e : E) : evI cl (.seq e) = cI_seq (evT cl e) := rfl
def cI_range1 (a : Sta → Out T) : Sta → Out (List D) := fun st => (intO (lk (a st))).bind fun i s1 => if smallI i then .ok (rangeL 0 i) s1 else .bad
theorem cI_range1_eq (a : E) : evI cl (.range1 a) = cI_range1 (evT cl a) := rfl
def cI_range (a : Sta → Out T) (b : Sta → Out T) : Sta → Out (List D) := fun st => (intO (lk (a st))).bind fun i s1 => (intO (lk (b s1))).bind fun j s2 => if smallI i ∧ smallI j then .ok (rangeL i j) s2 else .bad
theorem cI_range_eq (a : E) (b : E) : evI cl (.range a b) = cI_range (evT cl a) (evT cl b) := rfl
def cI_enum (e : Sta → Out T) : Sta → Out (List D) := fun st => (lk (e st)).bind fun x s1 => (match x with
    | .lst xs => .ok ((List.range xs.length).zipWith (fun (k : Nat) d => .tup [.int k, d]) xs) s1
    | _ => .bad)
theorem cI_enum_eq (e : E) : evI cl (.enum e) = cI_enum (evT cl e) := rfl
def cI_zip (a : Sta → Out T) (b : Sta → Out T) : Sta → Out (List D) := fun st => (lk (a st)).bind fun x s1 => (lk (b s1)).bind fun y s2 => (match x, y with
    | .lst xs, .lst ys => .ok (xs.zipWith (fun x y => .tup [x, y]) ys) s2
    | _, _ => .bad)
theorem cI_zip_eq (a : E) (b : E) : evI cl (.zip a b) = cI_zip (evT cl a) (evT cl b) := rfl
def cI_rev (e : Sta → Out T) : Sta → Out (List D) := fun st => (lk (e st)).bind fun x s1 => (match x with
    | .lst xs => .ok xs.reverse s1
    | _ => .bad)
theorem cI_rev_eq (e : E) : evI cl (.rev e) = cI_rev (evT cl e) := rfl
def cG_name (i : Nat) : D → Sta → Out Unit := fun d st => if i < st.env.length then .ok () (setName i d st) else .bad
theorem cG_name_eq (i : Nat) : evG cl (.name i) = cG_name i := rfl
def cG_tup (gs : List D → Sta → Out Unit) : D → Sta → Out Unit := fun d st => (match d with
    | .tup ds => gs ds st
    | _ => .bad)
theorem cG_tup_eq (gs : List G) : evG cl (.tup gs) = cG_tup (evGs cl gs) := rfl
def cG_sub (o : Sta → Out T) (i : Sta → Out T) : D → Sta → Out Unit := fun d st => (o st).bind fun x s1 => (intO (lk (i s1))).bind fun j s2 => setO x j d s2
theorem cG_sub_eq (o : E) (i : E) : evG cl (.sub o i) = cG_sub (evT cl o) (evT cl i) := rfl
def cP_none : Sta → Out (Option Int) := fun st => .ok none st
theorem cP_none_eq : evP cl none = cP_none := rfl
def cP_some (e : Sta → Out T) : Sta → Out (Option Int) := fun st => (intO (lk (e st))).bind fun i s1 => .ok (some i) s1
theorem cP_some_eq (e : E) : evP cl (some e) = cP_some (evT cl e) := rfl
def cEs_nil : Sta → Out (List D) := fun st => .ok [] st
theorem cEs_nil_eq : evEs cl [] = cEs_nil := rfl
def cEs_cons (e : Sta → Out T) (es : Sta → Out (List D)) : Sta → Out (List D) := fun st => (lk (e st)).bind fun d s1 => (es s1).bind fun ds s2 => .ok (d :: ds) s2
theorem cEs_cons_eq (e : E) (es : List E) : evEs cl (e :: es) = cEs_cons (evT cl e) (evEs cl es) := rfl
def cTs_nil : Sta → Out (List T) := fun st => .ok [] st
theorem cTs_nil_eq : evTs cl [] = cTs_nil := rfl
def cTs_cons (e : Sta → Out T) (es : Sta → Out (List T)) : Sta → Out (List T) := fun st => (e st).bind fun d s1 => (es s1).bind fun ds s2 => .ok (d :: ds) s2
theorem cTs_cons_eq (e : E) (es : List E) : evTs cl (e :: es) = cTs_cons (evT cl e) (evTs cl es) := rfl
def cGs_nil : List D → Sta → Out Unit := fun ds st => if ds.isEmpty then .ok () st else .bad
theorem cGs_nil_eq : evGs cl [] = cGs_nil := rfl
def cGs_cons (g : D → Sta → Out Unit) (gs : List D → Sta → Out Unit) : List D → Sta → Out Unit := fun ds st => (match ds with
    | d :: r => (g d st).bind fun _ s1 => gs r s1
    | [] => .bad)
theorem cGs_cons_eq (g : G) (gs : List G) : evGs cl (g :: gs) = cGs_cons (evG cl g) (evGs cl gs) := rfl
def cAll_nil : Sta → Out Bool := fun st => .ok true st
theorem cAll_nil_eq : evAll cl [] = cAll_nil := rfl
def cAll_cons (c : Sta → Out Bool) (cs : Sta → Out Bool) : Sta → Out Bool := fun st => (c st).bind fun k s1 => if k then cs s1 else .ok false s1
theorem cAll_cons_eq (c : C) (cs : List C) : evAll cl (c :: cs) = cAll_cons (evB cl c) (evAll cl cs) := rfl
def cS_set (i : Nat) (e : Sta → Out T) (own : Bool) : Sta → Out Ctl := fun st => (lk (e st)).bind fun d s1 => if i < s1.env.length then .ok .nx { s1 with env := s1.env.set i (if own then mkSlot d else .val d) } else .bad
theorem cS_set_eq (i : Nat) (e : E) (own : Bool) : evS cl (.set i e own) = cS_set i (evT cl e) own := rfl
def cS_asg (g : D → Sta → Out Unit) (e : Sta → Out T) : Sta → Out Ctl := fun st => (lk (e st)).bind fun d s1 => (g d s1).bind fun _ s2 => .ok .nx s2
theorem cS_asg_eq (g : G) (e : E) : evS cl (.asg g e) = cS_asg (evG cl g) (evT cl e) := rfl
def cS_aug (i : Nat) (op : BOp) (e : Sta → Out T) : Sta → Out Ctl := fun st => (match st.env[i]? with
    | some (.val x) => (lk (e st)).bind fun y s1 => (match x, y, binF op x y with
      | .int _, .int _, some z => if i < s1.env.length then .ok .nx (setName i z s1) else .bad
      | _, _, _ => .bad)
    | _ => .bad)
theorem cS_aug_eq (i : Nat) (op : BOp) (e : E) : evS cl (.aug i op e) = cS_aug i op (evT cl e) := rfl
def cS_ex (e : Sta → Out T) : Sta → Out Ctl := fun st => (lk (e st)).bind fun _ s1 => .ok .nx s1
theorem cS_ex_eq (e : E) : evS cl (.ex e) = cS_ex (evT cl e) := rfl
def cS_ret (e : Sta → Out T) (fr : Bool) : Sta → Out Ctl := fun st => (lk (e st)).bind fun d s1 => .ok (.rt d fr) s1
theorem cS_ret_eq (e : E) (fr : Bool) : evS cl (.ret e fr) = cS_ret (evT cl e) fr := rfl
def cS_retN : Sta → Out Ctl := fun st => .ok (.rt .non false) st
theorem cS_retN_eq : evS cl (.retN) = cS_retN := rfl
def cS_ite (c : Sta → Out Bool) (a : Sta → Out Ctl) (b : Sta → Out Ctl) : Sta → Out Ctl := fun st => (c st).bind fun k s1 => if k then a s1 else b s1
theorem cS_ite_eq (c : C) (a : List S) (b : List S) : evS cl (.ite c a b) = cS_ite (evB cl c) (evSs cl a) (evSs cl b) := rfl
def cS_for (g : D → Sta → Out Unit) (it : Sta → Out (List D)) (body : Sta → Out Ctl) : Sta → Out Ctl := fun st => (it st).bind fun ds s1 => loop (g) (body) ds s1
theorem cS_for_eq (g : G) (it : I) (body : List S) : evS cl (.for g it body) = cS_for (evG cl g) (evI cl it) (evSs cl body) := rfl
def cS_forO (i : Nat) (g : D → Sta → Out Unit) (body : Sta → Out Ctl) : Sta → Out Ctl := fun st => (match st.env[i]? with
    | some (.own (.lst xs)) => (loop (g) (body) xs { st with env := st.env.set i .busy }).bind fun c s1 => (match s1.env[i]?, c with
      | some .busy, .nx => .ok .nx { s1 with env := s1.env.set i (.own (.lst xs)) }
      | some .busy, .rt d fr => .ok (.rt d fr) { s1 with env := s1.env.set i .no }
      | _, _ => .bad)
    | _ => .bad)
theorem cS_forO_eq (i : Nat) (g : G) (body : List S) : evS cl (.forO i g body) = cS_forO i (evG cl g) (evSs cl body) := rfl
def cS_wh (c : Sta → Out Bool) (body : Sta → Out Ctl) : Sta → Out Ctl := fun st => whil (c) (body) fuel st
theorem cS_wh_eq (c : C) (body : List S) : evS cl (.wh c body) = cS_wh (evB cl c) (evSs cl body) := rfl
def cS_pass : Sta → Out Ctl := fun st => .ok .nx st
theorem cS_pass_eq : evS cl (.pass) = cS_pass := rfl
def cS_brk : Sta → Out Ctl := fun st => .ok .bk st
theorem cS_brk_eq : evS cl (.brk) = cS_brk := rfl
def cS_cont : Sta → Out Ctl := fun st => .ok .ct st
theorem cS_cont_eq : evS cl (.cont) = cS_cont := rfl
def cS_never : Sta → Out Ctl := fun _ => .bad
theorem cS_never_eq : evS cl (.never) = cS_never := rfl
def cSs_nil : Sta → Out Ctl := fun st => .ok .nx st
theorem cSs_nil_eq : evSs cl [] = cSs_nil := rfl
def cSs_cons (s : Sta → Out Ctl) (ss : Sta → Out Ctl) : Sta → Out Ctl := fun st => (s st).bind fun c s1 => match c with
    | .nx => ss s1
    | c => .ok c s1
theorem cSs_cons_eq (s : S) (ss : List S) : evSs cl (s :: ss) = cSs_cons (evS cl s) (evSs cl ss) := rfl
end

/-- comparing whole numbers, short -/
def cmpQ (op : COp) (a b : D) : Option D := match a, b with
  | .int i, .int j => (match op with
    | .eq => some (.bl (i == j))
    | .ne => some (.bl (!(i == j)))
    | .lt => some (.bl (decide (i < j)))
    | .le => some (.bl (decide (i ≤ j)))
    | .gt => some (.bl (decide (j < i)))
    | .ge => some (.bl (decide (j ≤ i)))
    | _ => cmpF op a b)
  | _, _ => cmpF op a b
theorem cmpQ_eq (op : COp) (a b : D) : cmpF op a b = cmpQ op a b := by
  cases a <;> cases b <;> first
    | rfl
    | (cases op <;> rfl)
def cQ_cmp (op : COp) (a b : Sta → Out T) : Sta → Out T := fun st => two a b (cmpQ op) st
theorem cQ_cmp_eq (cl : CallF) (op : COp) (a b : E) : evT cl (.cmp op a b) = cQ_cmp op (evT cl a) (evT cl b) := by
  funext st
  show two (evT cl a) (evT cl b) (cmpF op) st = two (evT cl a) (evT cl b) (cmpQ op) st
  rw [show cmpF op = cmpQ op from funext fun x => funext fun y => cmpQ_eq op x y]
structure CDef where
  np : Nat
  ns : Nat
  fr : Bool
  run : CallF → Sta → Out Ctl
def runC (cl : CallF) (df : CDef) (ds : List D) (S : Store) : Option (D × Store) :=
  if ds.length = df.np then
    match df.run cl ⟨ds.map .val ++ List.replicate (df.ns - df.np) .no, S⟩ with
    | .ok (.rt d fr) st => if fr = df.fr then some (d, st.S) else none
    | .ok .nx st => if df.fr then none else some (.non, st.S)
    | _ => none
  else none
def callC (tab : List CDef) : Nat → CallF
  | 0 => fun _ _ _ => none
  | n + 1 => fun f ds S => match tab[f]? with
    | some df => runC (callC tab n) df ds S
    | none => none
def AsC (d : Def) (c : CDef) : Prop := c.np = d.np ∧ c.ns = d.ns ∧ c.fr = d.fr ∧ ∀ cl, evSs cl d.body = c.run cl
theorem runC_eq {d : Def} {c : CDef} (h : AsC d c) (cl : CallF) (ds : List D) (S : Store) : runC cl c ds S = runD cl d ds S := by
  obtain ⟨h1, h2, h3, h4⟩ := h
  unfold runC runD
  rw [h1, h2, h3, h4]
  all_goals rfl
inductive AsCs : List Def → List CDef → Prop
  | nil : AsCs [] []
  | cons {d c ds cs} : AsC d c → AsCs ds cs → AsCs (d :: ds) (c :: cs)
theorem AsCs.get {tab : List Def} {ct : List CDef} (h : AsCs tab ct) : ∀ f : Nat, (tab[f]? = none ∧ ct[f]? = none) ∨ ∃ d c, tab[f]? = some d ∧ ct[f]? = some c ∧ AsC d c := by
  induction h with
  | nil => exact fun f => .inl ⟨rfl, rfl⟩
  | cons h _ ih =>
    intro f
    cases f with
    | zero => exact .inr ⟨_, _, rfl, rfl, h⟩
    | succ f => exact ih f
theorem callC_eq {tab : List Def} {ct : List CDef} (h : AsCs tab ct) : ∀ n, callN tab n = callC ct n
  | 0 => rfl
  | n + 1 => by
    funext f ds S
    show (match tab[f]? with
      | some df => runD (callN tab n) df ds S
      | none => none) = (match ct[f]? with
      | some df => runC (callC ct n) df ds S
      | none => none)
    rcases h.get f with ⟨e1, e2⟩ | ⟨d, c, e1, e2, h'⟩
    · rw [e1, e2]
    · rw [e1, e2, callC_eq h n]
      exact (runC_eq h' _ _ _).symm
end Gp

namespace K07
open PySem L2 Gp
/-- number_of: 0=bits 1=number 2=bit -/
def d0 : Def := ⟨"number_of", 1, 3, [.set 1 (.cst (.int 0)) false,
  .for (.name 2) (.rev (.var 0)) [.set 1 (.bin .add (.bin .mul (.cst (.int 2)) (.var 1)) (.var 2)) false],
  .ret (.var 1) false], false⟩
/-- figure: 0=table 1=row -/
def d1 : Def := ⟨"figure", 2, 2, [.ret (.bin .band (.bin .shr (.var 0) (.var 1)) (.cst (.int 1))) false], false⟩
/-- turned: 0=row 1=k -/
def d2 : Def := ⟨"turned", 2, 2, [.ret (.bin .bxor (.var 0) (.bin .shl (.cst (.int 1)) (.var 1))) false], false⟩
/-- flipped: 0=table 1=many 2=k 3=row -/
def d3 : Def := ⟨"flipped", 3, 4, [.ret (.call 0 [(.comp (.call 1 [(.var 0), (.call 2 [(.var 3), (.var 2)])]) (.name 3) (.range1 (.bin .shl (.cst (.int 1)) (.var 1))) [] [3])]) false], false⟩
/-- row_by: 0=row 1=order 2=made 3=i 4=place -/
def d4 : Def := ⟨"row_by", 2, 5, [.set 2 (.cst (.int 0)) false,
  .for (.tup [(.name 3), (.name 4)]) (.enum (.var 1)) [.set 2 (.bin .bor (.var 2) (.bin .shl (.bin .band (.bin .shr (.var 0) (.var 3)) (.cst (.int 1))) (.var 4))) false],
  .ret (.var 2) false], false⟩
/-- ordered: 0=table 1=order 2=row -/
def d5 : Def := ⟨"ordered", 2, 3, [.ret (.call 0 [(.comp (.call 1 [(.var 0), (.call 4 [(.var 2), (.var 1)])]) (.name 2) (.range1 (.bin .shl (.cst (.int 1)) (.b1 .len (.var 1)))) [] [2])]) false], false⟩
/-- _law_whole: 0=_law_found -/
def d6 : Def := ⟨"_law_whole", 1, 1, [.ret (.and (.isi .int (.var 0)) (.not (.isi .bool (.var 0)))) false], false⟩
/-- _law_figure: 0=_law_table 1=_law_bits 2=_law_row 3=_law_k 4=_law_bit -/
def d7 : Def := ⟨"_law_figure", 2, 5, [.set 2 (.cst (.int 0)) false,
  .for (.tup [(.name 3), (.name 4)]) (.enum (.var 1)) [.set 2 (.bin .add (.var 2) (.bin .mul (.var 4) (.bin .shl (.cst (.int 1)) (.var 3)))) false],
  .ret (.bin .mod (.bin .fdiv (.var 0) (.bin .shl (.cst (.int 1)) (.var 2))) (.cst (.int 2))) false], false⟩
/-- _law_rows: 0=_law_many 1=_law_rows_here 2=_law_k 3=_law_row -/
def d8 : Def := ⟨"_law_rows", 1, 4, [.set 1 (.lst [(.lst [])]) false,
  .for (.name 2) (.range1 (.var 0)) [.set 1 (.bin .add (.comp (.bin .add (.var 3) (.lst [(.cst (.int 0))])) (.name 3) (.seq (.var 1)) [] [3]) (.comp (.bin .add (.var 3) (.lst [(.cst (.int 1))])) (.name 3) (.seq (.var 1)) [] [3])) false],
  .ret (.var 1) false], false⟩
/-- _law_cases: 0=_law_script 1=_law_least 2=_law_cases_here 3=_law_many 4=_law_cell -/
def d9 : Def := ⟨"_law_cases", 2, 5, [.set 2 (.lst []) true,
  .for (.name 3) (.range (.var 1) (.cst (.int 4))) [.set 2 (.bin .add (.var 2) (.lst [(.tup [(.var 3), (.cst (.int 0))]), (.tup [(.var 3), (.bin .sub (.bin .shl (.cst (.int 1)) (.bin .shl (.cst (.int 1)) (.var 3))) (.cst (.int 1)))]), (.tup [(.var 3), (.bin .mod (.cst (.int 216)) (.bin .shl (.cst (.int 1)) (.bin .shl (.cst (.int 1)) (.var 3))))])])) true],
  .for (.name 4) (.seq (.var 0)) [.set 3 (.bin .add (.var 1) (.bin .mod (.var 4) (.bin .sub (.cst (.int 4)) (.var 1)))) false,
  .ex (.meth .append (.var 2) [(.tup [(.var 3), (.bin .mod (.bin .fdiv (.var 4) (.bin .sub (.cst (.int 4)) (.var 1))) (.bin .shl (.cst (.int 1)) (.bin .shl (.cst (.int 1)) (.var 3))))])])],
  .ret (.var 2) false], false⟩
/-- _law_is: 0=_law_found 1=_law_many -/
def d10 : Def := ⟨"_law_is", 2, 2, [.ret (.and (.call 6 [(.var 0)]) (.chain .le .lt (.cst (.int 0)) (.var 0) (.bin .shl (.cst (.int 1)) (.bin .shl (.cst (.int 1)) (.var 1))))) false], false⟩
/-- _law_order: 0=_law_many 1=_law_pick 2=_law_left 3=_law_order_here -/
def d11 : Def := ⟨"_law_order", 2, 4, [.set 2 (.lrange1 (.var 0)) true,
  .set 3 (.lst []) true,
  .wh (.val (.cmp .ne (.var 2) (.lst []))) [.ex (.meth .append (.var 3) [(.meth .pop (.var 2) [(.bin .mod (.var 1) (.b1 .len (.var 2)))])]),
  .set 1 (.bin .fdiv (.var 1) (.cst (.int 3))) false],
  .ret (.var 3) false], false⟩
/-- _law_flips: 0=_law_many 1=_law_table 2=_law_k 3=_law_found 4=_law_bits -/
def d12 : Def := ⟨"_law_flips", 2, 5, [.for (.name 2) (.range1 (.var 0)) [.set 3 (.call 3 [(.var 1), (.var 0), (.var 2)]) false,
  .ite (.or (.not (.val (.call 10 [(.var 3), (.var 0)]))) (.val (.cmp .ne (.call 3 [(.var 3), (.var 0), (.var 2)]) (.var 1)))) [.ret (.cst (.bl false)) false] [],
  .for (.name 4) (.seq (.call 8 [(.var 0)])) [.ite (.val (.cmp .ne (.call 7 [(.var 3), (.var 4)]) (.call 7 [(.var 1), (.bin .add (.bin .add (.cut (.var 4) none (some (.var 2))) (.lst [(.bin .sub (.cst (.int 1)) (.sub (.var 4) (.var 2)))])) (.cut (.var 4) (some (.bin .add (.var 2) (.cst (.int 1)))) none))]))) [.ret (.cst (.bl false)) false] []]],
  .ret (.cst (.bl true)) false], false⟩
/-- _law_orders: 0=_law_many 1=_law_table 2=_law_order_here 3=_law_handed 4=_law_found 5=_law_bits 6=_law_old 7=_law_place -/
def d13 : Def := ⟨"_law_orders", 3, 8, [.set 3 (.b1 .list (.var 2)) false,
  .set 4 (.call 5 [(.var 1), (.var 3)]) false,
  .ite (.or (.not (.val (.call 10 [(.var 4), (.var 0)]))) (.val (.cmp .ne (.var 3) (.var 2)))) [.ret (.cst (.bl false)) false] [],
  .for (.name 5) (.seq (.call 8 [(.var 0)])) [.set 6 (.comp (.sub (.var 5) (.meth .index (.var 2) [(.var 7)])) (.name 7) (.range1 (.var 0)) [] [7]) false,
  .ite (.val (.cmp .ne (.call 7 [(.var 4), (.var 5)]) (.call 7 [(.var 1), (.var 6)]))) [.ret (.cst (.bl false)) false] []],
  .ret (.cmp .eq (.call 5 [(.var 4), (.comp (.meth .index (.var 2) [(.var 7)]) (.name 7) (.range1 (.var 0)) [] [7])]) (.var 1)) false], false⟩
/-- law: 0=_law_script 1=_law_many 2=_law_table 3=_law_cell -/
def d14 : Def := ⟨"law", 1, 4, [.for (.tup [(.name 1), (.name 2)]) (.seq (.call 9 [(.lst []), (.cst (.int 0))])) [.ite (.or (.not (.val (.call 12 [(.var 1), (.var 2)]))) (.not (.val (.call 13 [(.var 1), (.var 2), (.lrange1 (.var 1))])))) [.ret (.cst (.bl false)) false] []],
  .for (.name 3) (.seq (.var 0)) [.set 1 (.bin .mod (.bin .fdiv (.var 3) (.cst (.int 9))) (.cst (.int 4))) false,
  .set 2 (.bin .mod (.bin .fdiv (.var 3) (.cst (.int 36))) (.bin .shl (.cst (.int 1)) (.bin .shl (.cst (.int 1)) (.var 1)))) false,
  .ite (.or (.not (.val (.call 12 [(.var 1), (.var 2)]))) (.not (.val (.call 13 [(.var 1), (.var 2), (.call 11 [(.var 1), (.bin .mod (.var 3) (.cst (.int 9)))])])))) [.ret (.cst (.bl false)) false] []],
  .ret (.cst (.bl true)) false], false⟩
abbrev tab : List Def := [d0, d1, d2, d3, d4, d5, d6, d7, d8, d9, d10, d11, d12, d13, d14]
def b0 : {g : CallF → Sta → Out Ctl // ∀ cl, evSs cl d0.body = g cl} := ⟨_, fun cl => by
  simp only [d0, cT_var_eq, cT_mv_eq, cT_cst_eq, cT_bin_eq, cT_neg_eq, cQ_cmp_eq, cT_chain_eq, cT_and_eq, cT_or_eq, cT_not_eq, cT_ife_eq, cT_sub_eq, cT_cut_eq, cT_back_eq, cT_tup_eq, cT_lst_eq, cT_rep_eq, cT_call_eq, cT_pcall_eq, cT_b1_eq, cT_b2_eq, cT_lrange_eq, cT_lrange1_eq, cT_isi_eq, cT_meth_eq, cT_comp_eq, cB_and_eq, cB_or_eq, cB_not_eq, cB_val_eq, cI_seq_eq, cI_range1_eq, cI_range_eq, cI_enum_eq, cI_zip_eq, cI_rev_eq, cG_name_eq, cG_tup_eq, cG_sub_eq, cP_none_eq, cP_some_eq, cEs_nil_eq, cEs_cons_eq, cTs_nil_eq, cTs_cons_eq, cGs_nil_eq, cGs_cons_eq, cAll_nil_eq, cAll_cons_eq, cS_set_eq, cS_asg_eq, cS_aug_eq, cS_ex_eq, cS_ret_eq, cS_retN_eq, cS_ite_eq, cS_for_eq, cS_forO_eq, cS_wh_eq, cS_pass_eq, cS_brk_eq, cS_cont_eq, cS_never_eq, cSs_nil_eq, cSs_cons_eq]
  rfl⟩
def b1 : {g : CallF → Sta → Out Ctl // ∀ cl, evSs cl d1.body = g cl} := ⟨_, fun cl => by
  simp only [d1, cT_var_eq, cT_mv_eq, cT_cst_eq, cT_bin_eq, cT_neg_eq, cQ_cmp_eq, cT_chain_eq, cT_and_eq, cT_or_eq, cT_not_eq, cT_ife_eq, cT_sub_eq, cT_cut_eq, cT_back_eq, cT_tup_eq, cT_lst_eq, cT_rep_eq, cT_call_eq, cT_pcall_eq, cT_b1_eq, cT_b2_eq, cT_lrange_eq, cT_lrange1_eq, cT_isi_eq, cT_meth_eq, cT_comp_eq, cB_and_eq, cB_or_eq, cB_not_eq, cB_val_eq, cI_seq_eq, cI_range1_eq, cI_range_eq, cI_enum_eq, cI_zip_eq, cI_rev_eq, cG_name_eq, cG_tup_eq, cG_sub_eq, cP_none_eq, cP_some_eq, cEs_nil_eq, cEs_cons_eq, cTs_nil_eq, cTs_cons_eq, cGs_nil_eq, cGs_cons_eq, cAll_nil_eq, cAll_cons_eq, cS_set_eq, cS_asg_eq, cS_aug_eq, cS_ex_eq, cS_ret_eq, cS_retN_eq, cS_ite_eq, cS_for_eq, cS_forO_eq, cS_wh_eq, cS_pass_eq, cS_brk_eq, cS_cont_eq, cS_never_eq, cSs_nil_eq, cSs_cons_eq]
  rfl⟩
def b2 : {g : CallF → Sta → Out Ctl // ∀ cl, evSs cl d2.body = g cl} := ⟨_, fun cl => by
  simp only [d2, cT_var_eq, cT_mv_eq, cT_cst_eq, cT_bin_eq, cT_neg_eq, cQ_cmp_eq, cT_chain_eq, cT_and_eq, cT_or_eq, cT_not_eq, cT_ife_eq, cT_sub_eq, cT_cut_eq, cT_back_eq, cT_tup_eq, cT_lst_eq, cT_rep_eq, cT_call_eq, cT_pcall_eq, cT_b1_eq, cT_b2_eq, cT_lrange_eq, cT_lrange1_eq, cT_isi_eq, cT_meth_eq, cT_comp_eq, cB_and_eq, cB_or_eq, cB_not_eq, cB_val_eq, cI_seq_eq, cI_range1_eq, cI_range_eq, cI_enum_eq, cI_zip_eq, cI_rev_eq, cG_name_eq, cG_tup_eq, cG_sub_eq, cP_none_eq, cP_some_eq, cEs_nil_eq, cEs_cons_eq, cTs_nil_eq, cTs_cons_eq, cGs_nil_eq, cGs_cons_eq, cAll_nil_eq, cAll_cons_eq, cS_set_eq, cS_asg_eq, cS_aug_eq, cS_ex_eq, cS_ret_eq, cS_retN_eq, cS_ite_eq, cS_for_eq, cS_forO_eq, cS_wh_eq, cS_pass_eq, cS_brk_eq, cS_cont_eq, cS_never_eq, cSs_nil_eq, cSs_cons_eq]
  rfl⟩
def b3 : {g : CallF → Sta → Out Ctl // ∀ cl, evSs cl d3.body = g cl} := ⟨_, fun cl => by
  simp only [d3, cT_var_eq, cT_mv_eq, cT_cst_eq, cT_bin_eq, cT_neg_eq, cQ_cmp_eq, cT_chain_eq, cT_and_eq, cT_or_eq, cT_not_eq, cT_ife_eq, cT_sub_eq, cT_cut_eq, cT_back_eq, cT_tup_eq, cT_lst_eq, cT_rep_eq, cT_call_eq, cT_pcall_eq, cT_b1_eq, cT_b2_eq, cT_lrange_eq, cT_lrange1_eq, cT_isi_eq, cT_meth_eq, cT_comp_eq, cB_and_eq, cB_or_eq, cB_not_eq, cB_val_eq, cI_seq_eq, cI_range1_eq, cI_range_eq, cI_enum_eq, cI_zip_eq, cI_rev_eq, cG_name_eq, cG_tup_eq, cG_sub_eq, cP_none_eq, cP_some_eq, cEs_nil_eq, cEs_cons_eq, cTs_nil_eq, cTs_cons_eq, cGs_nil_eq, cGs_cons_eq, cAll_nil_eq, cAll_cons_eq, cS_set_eq, cS_asg_eq, cS_aug_eq, cS_ex_eq, cS_ret_eq, cS_retN_eq, cS_ite_eq, cS_for_eq, cS_forO_eq, cS_wh_eq, cS_pass_eq, cS_brk_eq, cS_cont_eq, cS_never_eq, cSs_nil_eq, cSs_cons_eq]
  rfl⟩
def b4 : {g : CallF → Sta → Out Ctl // ∀ cl, evSs cl d4.body = g cl} := ⟨_, fun cl => by
  simp only [d4, cT_var_eq, cT_mv_eq, cT_cst_eq, cT_bin_eq, cT_neg_eq, cQ_cmp_eq, cT_chain_eq, cT_and_eq, cT_or_eq, cT_not_eq, cT_ife_eq, cT_sub_eq, cT_cut_eq, cT_back_eq, cT_tup_eq, cT_lst_eq, cT_rep_eq, cT_call_eq, cT_pcall_eq, cT_b1_eq, cT_b2_eq, cT_lrange_eq, cT_lrange1_eq, cT_isi_eq, cT_meth_eq, cT_comp_eq, cB_and_eq, cB_or_eq, cB_not_eq, cB_val_eq, cI_seq_eq, cI_range1_eq, cI_range_eq, cI_enum_eq, cI_zip_eq, cI_rev_eq, cG_name_eq, cG_tup_eq, cG_sub_eq, cP_none_eq, cP_some_eq, cEs_nil_eq, cEs_cons_eq, cTs_nil_eq, cTs_cons_eq, cGs_nil_eq, cGs_cons_eq, cAll_nil_eq, cAll_cons_eq, cS_set_eq, cS_asg_eq, cS_aug_eq, cS_ex_eq, cS_ret_eq, cS_retN_eq, cS_ite_eq, cS_for_eq, cS_forO_eq, cS_wh_eq, cS_pass_eq, cS_brk_eq, cS_cont_eq, cS_never_eq, cSs_nil_eq, cSs_cons_eq]
  rfl⟩
def b5 : {g : CallF → Sta → Out Ctl // ∀ cl, evSs cl d5.body = g cl} := ⟨_, fun cl => by
  simp only [d5, cT_var_eq, cT_mv_eq, cT_cst_eq, cT_bin_eq, cT_neg_eq, cQ_cmp_eq, cT_chain_eq, cT_and_eq, cT_or_eq, cT_not_eq, cT_ife_eq, cT_sub_eq, cT_cut_eq, cT_back_eq, cT_tup_eq, cT_lst_eq, cT_rep_eq, cT_call_eq, cT_pcall_eq, cT_b1_eq, cT_b2_eq, cT_lrange_eq, cT_lrange1_eq, cT_isi_eq, cT_meth_eq, cT_comp_eq, cB_and_eq, cB_or_eq, cB_not_eq, cB_val_eq, cI_seq_eq, cI_range1_eq, cI_range_eq, cI_enum_eq, cI_zip_eq, cI_rev_eq, cG_name_eq, cG_tup_eq, cG_sub_eq, cP_none_eq, cP_some_eq, cEs_nil_eq, cEs_cons_eq, cTs_nil_eq, cTs_cons_eq, cGs_nil_eq, cGs_cons_eq, cAll_nil_eq, cAll_cons_eq, cS_set_eq, cS_asg_eq, cS_aug_eq, cS_ex_eq, cS_ret_eq, cS_retN_eq, cS_ite_eq, cS_for_eq, cS_forO_eq, cS_wh_eq, cS_pass_eq, cS_brk_eq, cS_cont_eq, cS_never_eq, cSs_nil_eq, cSs_cons_eq]
  rfl⟩
def b6 : {g : CallF → Sta → Out Ctl // ∀ cl, evSs cl d6.body = g cl} := ⟨_, fun cl => by
  simp only [d6, cT_var_eq, cT_mv_eq, cT_cst_eq, cT_bin_eq, cT_neg_eq, cQ_cmp_eq, cT_chain_eq, cT_and_eq, cT_or_eq, cT_not_eq, cT_ife_eq, cT_sub_eq, cT_cut_eq, cT_back_eq, cT_tup_eq, cT_lst_eq, cT_rep_eq, cT_call_eq, cT_pcall_eq, cT_b1_eq, cT_b2_eq, cT_lrange_eq, cT_lrange1_eq, cT_isi_eq, cT_meth_eq, cT_comp_eq, cB_and_eq, cB_or_eq, cB_not_eq, cB_val_eq, cI_seq_eq, cI_range1_eq, cI_range_eq, cI_enum_eq, cI_zip_eq, cI_rev_eq, cG_name_eq, cG_tup_eq, cG_sub_eq, cP_none_eq, cP_some_eq, cEs_nil_eq, cEs_cons_eq, cTs_nil_eq, cTs_cons_eq, cGs_nil_eq, cGs_cons_eq, cAll_nil_eq, cAll_cons_eq, cS_set_eq, cS_asg_eq, cS_aug_eq, cS_ex_eq, cS_ret_eq, cS_retN_eq, cS_ite_eq, cS_for_eq, cS_forO_eq, cS_wh_eq, cS_pass_eq, cS_brk_eq, cS_cont_eq, cS_never_eq, cSs_nil_eq, cSs_cons_eq]
  rfl⟩
def b7 : {g : CallF → Sta → Out Ctl // ∀ cl, evSs cl d7.body = g cl} := ⟨_, fun cl => by
  simp only [d7, cT_var_eq, cT_mv_eq, cT_cst_eq, cT_bin_eq, cT_neg_eq, cQ_cmp_eq, cT_chain_eq, cT_and_eq, cT_or_eq, cT_not_eq, cT_ife_eq, cT_sub_eq, cT_cut_eq, cT_back_eq, cT_tup_eq, cT_lst_eq, cT_rep_eq, cT_call_eq, cT_pcall_eq, cT_b1_eq, cT_b2_eq, cT_lrange_eq, cT_lrange1_eq, cT_isi_eq, cT_meth_eq, cT_comp_eq, cB_and_eq, cB_or_eq, cB_not_eq, cB_val_eq, cI_seq_eq, cI_range1_eq, cI_range_eq, cI_enum_eq, cI_zip_eq, cI_rev_eq, cG_name_eq, cG_tup_eq, cG_sub_eq, cP_none_eq, cP_some_eq, cEs_nil_eq, cEs_cons_eq, cTs_nil_eq, cTs_cons_eq, cGs_nil_eq, cGs_cons_eq, cAll_nil_eq, cAll_cons_eq, cS_set_eq, cS_asg_eq, cS_aug_eq, cS_ex_eq, cS_ret_eq, cS_retN_eq, cS_ite_eq, cS_for_eq, cS_forO_eq, cS_wh_eq, cS_pass_eq, cS_brk_eq, cS_cont_eq, cS_never_eq, cSs_nil_eq, cSs_cons_eq]
  rfl⟩
def b8 : {g : CallF → Sta → Out Ctl // ∀ cl, evSs cl d8.body = g cl} := ⟨_, fun cl => by
  simp only [d8, cT_var_eq, cT_mv_eq, cT_cst_eq, cT_bin_eq, cT_neg_eq, cQ_cmp_eq, cT_chain_eq, cT_and_eq, cT_or_eq, cT_not_eq, cT_ife_eq, cT_sub_eq, cT_cut_eq, cT_back_eq, cT_tup_eq, cT_lst_eq, cT_rep_eq, cT_call_eq, cT_pcall_eq, cT_b1_eq, cT_b2_eq, cT_lrange_eq, cT_lrange1_eq, cT_isi_eq, cT_meth_eq, cT_comp_eq, cB_and_eq, cB_or_eq, cB_not_eq, cB_val_eq, cI_seq_eq, cI_range1_eq, cI_range_eq, cI_enum_eq, cI_zip_eq, cI_rev_eq, cG_name_eq, cG_tup_eq, cG_sub_eq, cP_none_eq, cP_some_eq, cEs_nil_eq, cEs_cons_eq, cTs_nil_eq, cTs_cons_eq, cGs_nil_eq, cGs_cons_eq, cAll_nil_eq, cAll_cons_eq, cS_set_eq, cS_asg_eq, cS_aug_eq, cS_ex_eq, cS_ret_eq, cS_retN_eq, cS_ite_eq, cS_for_eq, cS_forO_eq, cS_wh_eq, cS_pass_eq, cS_brk_eq, cS_cont_eq, cS_never_eq, cSs_nil_eq, cSs_cons_eq]
  rfl⟩
def b9 : {g : CallF → Sta → Out Ctl // ∀ cl, evSs cl d9.body = g cl} := ⟨_, fun cl => by
  simp only [d9, cT_var_eq, cT_mv_eq, cT_cst_eq, cT_bin_eq, cT_neg_eq, cQ_cmp_eq, cT_chain_eq, cT_and_eq, cT_or_eq, cT_not_eq, cT_ife_eq, cT_sub_eq, cT_cut_eq, cT_back_eq, cT_tup_eq, cT_lst_eq, cT_rep_eq, cT_call_eq, cT_pcall_eq, cT_b1_eq, cT_b2_eq, cT_lrange_eq, cT_lrange1_eq, cT_isi_eq, cT_meth_eq, cT_comp_eq, cB_and_eq, cB_or_eq, cB_not_eq, cB_val_eq, cI_seq_eq, cI_range1_eq, cI_range_eq, cI_enum_eq, cI_zip_eq, cI_rev_eq, cG_name_eq, cG_tup_eq, cG_sub_eq, cP_none_eq, cP_some_eq, cEs_nil_eq, cEs_cons_eq, cTs_nil_eq, cTs_cons_eq, cGs_nil_eq, cGs_cons_eq, cAll_nil_eq, cAll_cons_eq, cS_set_eq, cS_asg_eq, cS_aug_eq, cS_ex_eq, cS_ret_eq, cS_retN_eq, cS_ite_eq, cS_for_eq, cS_forO_eq, cS_wh_eq, cS_pass_eq, cS_brk_eq, cS_cont_eq, cS_never_eq, cSs_nil_eq, cSs_cons_eq]
  rfl⟩
def b10 : {g : CallF → Sta → Out Ctl // ∀ cl, evSs cl d10.body = g cl} := ⟨_, fun cl => by
  simp only [d10, cT_var_eq, cT_mv_eq, cT_cst_eq, cT_bin_eq, cT_neg_eq, cQ_cmp_eq, cT_chain_eq, cT_and_eq, cT_or_eq, cT_not_eq, cT_ife_eq, cT_sub_eq, cT_cut_eq, cT_back_eq, cT_tup_eq, cT_lst_eq, cT_rep_eq, cT_call_eq, cT_pcall_eq, cT_b1_eq, cT_b2_eq, cT_lrange_eq, cT_lrange1_eq, cT_isi_eq, cT_meth_eq, cT_comp_eq, cB_and_eq, cB_or_eq, cB_not_eq, cB_val_eq, cI_seq_eq, cI_range1_eq, cI_range_eq, cI_enum_eq, cI_zip_eq, cI_rev_eq, cG_name_eq, cG_tup_eq, cG_sub_eq, cP_none_eq, cP_some_eq, cEs_nil_eq, cEs_cons_eq, cTs_nil_eq, cTs_cons_eq, cGs_nil_eq, cGs_cons_eq, cAll_nil_eq, cAll_cons_eq, cS_set_eq, cS_asg_eq, cS_aug_eq, cS_ex_eq, cS_ret_eq, cS_retN_eq, cS_ite_eq, cS_for_eq, cS_forO_eq, cS_wh_eq, cS_pass_eq, cS_brk_eq, cS_cont_eq, cS_never_eq, cSs_nil_eq, cSs_cons_eq]
  rfl⟩
def b11 : {g : CallF → Sta → Out Ctl // ∀ cl, evSs cl d11.body = g cl} := ⟨_, fun cl => by
  simp only [d11, cT_var_eq, cT_mv_eq, cT_cst_eq, cT_bin_eq, cT_neg_eq, cQ_cmp_eq, cT_chain_eq, cT_and_eq, cT_or_eq, cT_not_eq, cT_ife_eq, cT_sub_eq, cT_cut_eq, cT_back_eq, cT_tup_eq, cT_lst_eq, cT_rep_eq, cT_call_eq, cT_pcall_eq, cT_b1_eq, cT_b2_eq, cT_lrange_eq, cT_lrange1_eq, cT_isi_eq, cT_meth_eq, cT_comp_eq, cB_and_eq, cB_or_eq, cB_not_eq, cB_val_eq, cI_seq_eq, cI_range1_eq, cI_range_eq, cI_enum_eq, cI_zip_eq, cI_rev_eq, cG_name_eq, cG_tup_eq, cG_sub_eq, cP_none_eq, cP_some_eq, cEs_nil_eq, cEs_cons_eq, cTs_nil_eq, cTs_cons_eq, cGs_nil_eq, cGs_cons_eq, cAll_nil_eq, cAll_cons_eq, cS_set_eq, cS_asg_eq, cS_aug_eq, cS_ex_eq, cS_ret_eq, cS_retN_eq, cS_ite_eq, cS_for_eq, cS_forO_eq, cS_wh_eq, cS_pass_eq, cS_brk_eq, cS_cont_eq, cS_never_eq, cSs_nil_eq, cSs_cons_eq]
  rfl⟩
def b12 : {g : CallF → Sta → Out Ctl // ∀ cl, evSs cl d12.body = g cl} := ⟨_, fun cl => by
  simp only [d12, cT_var_eq, cT_mv_eq, cT_cst_eq, cT_bin_eq, cT_neg_eq, cQ_cmp_eq, cT_chain_eq, cT_and_eq, cT_or_eq, cT_not_eq, cT_ife_eq, cT_sub_eq, cT_cut_eq, cT_back_eq, cT_tup_eq, cT_lst_eq, cT_rep_eq, cT_call_eq, cT_pcall_eq, cT_b1_eq, cT_b2_eq, cT_lrange_eq, cT_lrange1_eq, cT_isi_eq, cT_meth_eq, cT_comp_eq, cB_and_eq, cB_or_eq, cB_not_eq, cB_val_eq, cI_seq_eq, cI_range1_eq, cI_range_eq, cI_enum_eq, cI_zip_eq, cI_rev_eq, cG_name_eq, cG_tup_eq, cG_sub_eq, cP_none_eq, cP_some_eq, cEs_nil_eq, cEs_cons_eq, cTs_nil_eq, cTs_cons_eq, cGs_nil_eq, cGs_cons_eq, cAll_nil_eq, cAll_cons_eq, cS_set_eq, cS_asg_eq, cS_aug_eq, cS_ex_eq, cS_ret_eq, cS_retN_eq, cS_ite_eq, cS_for_eq, cS_forO_eq, cS_wh_eq, cS_pass_eq, cS_brk_eq, cS_cont_eq, cS_never_eq, cSs_nil_eq, cSs_cons_eq]
  rfl⟩
def b13 : {g : CallF → Sta → Out Ctl // ∀ cl, evSs cl d13.body = g cl} := ⟨_, fun cl => by
  simp only [d13, cT_var_eq, cT_mv_eq, cT_cst_eq, cT_bin_eq, cT_neg_eq, cQ_cmp_eq, cT_chain_eq, cT_and_eq, cT_or_eq, cT_not_eq, cT_ife_eq, cT_sub_eq, cT_cut_eq, cT_back_eq, cT_tup_eq, cT_lst_eq, cT_rep_eq, cT_call_eq, cT_pcall_eq, cT_b1_eq, cT_b2_eq, cT_lrange_eq, cT_lrange1_eq, cT_isi_eq, cT_meth_eq, cT_comp_eq, cB_and_eq, cB_or_eq, cB_not_eq, cB_val_eq, cI_seq_eq, cI_range1_eq, cI_range_eq, cI_enum_eq, cI_zip_eq, cI_rev_eq, cG_name_eq, cG_tup_eq, cG_sub_eq, cP_none_eq, cP_some_eq, cEs_nil_eq, cEs_cons_eq, cTs_nil_eq, cTs_cons_eq, cGs_nil_eq, cGs_cons_eq, cAll_nil_eq, cAll_cons_eq, cS_set_eq, cS_asg_eq, cS_aug_eq, cS_ex_eq, cS_ret_eq, cS_retN_eq, cS_ite_eq, cS_for_eq, cS_forO_eq, cS_wh_eq, cS_pass_eq, cS_brk_eq, cS_cont_eq, cS_never_eq, cSs_nil_eq, cSs_cons_eq]
  rfl⟩
def b14 : {g : CallF → Sta → Out Ctl // ∀ cl, evSs cl d14.body = g cl} := ⟨_, fun cl => by
  simp only [d14, cT_var_eq, cT_mv_eq, cT_cst_eq, cT_bin_eq, cT_neg_eq, cQ_cmp_eq, cT_chain_eq, cT_and_eq, cT_or_eq, cT_not_eq, cT_ife_eq, cT_sub_eq, cT_cut_eq, cT_back_eq, cT_tup_eq, cT_lst_eq, cT_rep_eq, cT_call_eq, cT_pcall_eq, cT_b1_eq, cT_b2_eq, cT_lrange_eq, cT_lrange1_eq, cT_isi_eq, cT_meth_eq, cT_comp_eq, cB_and_eq, cB_or_eq, cB_not_eq, cB_val_eq, cI_seq_eq, cI_range1_eq, cI_range_eq, cI_enum_eq, cI_zip_eq, cI_rev_eq, cG_name_eq, cG_tup_eq, cG_sub_eq, cP_none_eq, cP_some_eq, cEs_nil_eq, cEs_cons_eq, cTs_nil_eq, cTs_cons_eq, cGs_nil_eq, cGs_cons_eq, cAll_nil_eq, cAll_cons_eq, cS_set_eq, cS_asg_eq, cS_aug_eq, cS_ex_eq, cS_ret_eq, cS_retN_eq, cS_ite_eq, cS_for_eq, cS_forO_eq, cS_wh_eq, cS_pass_eq, cS_brk_eq, cS_cont_eq, cS_never_eq, cSs_nil_eq, cSs_cons_eq]
  rfl⟩
abbrev ctab : List CDef := [⟨1, 3, false, b0.1⟩, ⟨2, 2, false, b1.1⟩, ⟨2, 2, false, b2.1⟩, ⟨3, 4, false, b3.1⟩, ⟨2, 5, false, b4.1⟩, ⟨2, 3, false, b5.1⟩, ⟨1, 1, false, b6.1⟩, ⟨2, 5, false, b7.1⟩, ⟨1, 4, false, b8.1⟩, ⟨2, 5, false, b9.1⟩, ⟨2, 2, false, b10.1⟩, ⟨2, 4, false, b11.1⟩, ⟨2, 5, false, b12.1⟩, ⟨3, 8, false, b13.1⟩, ⟨1, 4, false, b14.1⟩]
theorem asC : AsCs tab ctab := (.cons ⟨rfl, rfl, rfl, b0.2⟩ (.cons ⟨rfl, rfl, rfl, b1.2⟩ (.cons ⟨rfl, rfl, rfl, b2.2⟩ (.cons ⟨rfl, rfl, rfl, b3.2⟩ (.cons ⟨rfl, rfl, rfl, b4.2⟩ (.cons ⟨rfl, rfl, rfl, b5.2⟩ (.cons ⟨rfl, rfl, rfl, b6.2⟩ (.cons ⟨rfl, rfl, rfl, b7.2⟩ (.cons ⟨rfl, rfl, rfl, b8.2⟩ (.cons ⟨rfl, rfl, rfl, b9.2⟩ (.cons ⟨rfl, rfl, rfl, b10.2⟩ (.cons ⟨rfl, rfl, rfl, b11.2⟩ (.cons ⟨rfl, rfl, rfl, b12.2⟩ (.cons ⟨rfl, rfl, rfl, b13.2⟩ (.cons ⟨rfl, rfl, rfl, b14.2⟩ .nil)))))))))))))))
/-! the cases of a script: how many places, and a table -/
def Pc (least : Nat) (d : D) : Prop := ∃ m t : Nat, least ≤ m ∧ m ≤ 3 ∧ t < 2 ^ (2 ^ m) ∧ d = .tup [.int m, .int t]
abbrev caseA : S := .set 2 (.bin .add (.var 2) (.lst [(.tup [(.var 3), (.cst (.int 0))]), (.tup [(.var 3), (.bin .sub (.bin .shl (.cst (.int 1)) (.bin .shl (.cst (.int 1)) (.var 3))) (.cst (.int 1)))]), (.tup [(.var 3), (.bin .mod (.cst (.int 216)) (.bin .shl (.cst (.int 1)) (.bin .shl (.cst (.int 1)) (.var 3))))])])) true
abbrev caseB : List S := [.set 3 (.bin .add (.var 1) (.bin .mod (.var 4) (.bin .sub (.cst (.int 4)) (.var 1)))) false,
  .ex (.meth .append (.var 2) [(.tup [(.var 3), (.bin .mod (.bin .fdiv (.var 4) (.bin .sub (.cst (.int 4)) (.var 1))) (.bin .shl (.cst (.int 1)) (.bin .shl (.cst (.int 1)) (.var 3))))])])]
abbrev caseBody : List S := [.set 2 (.lst []) true, .for (.name 3) (.range (.var 1) (.cst (.int 4))) [caseA], .for (.name 4) (.seq (.var 0)) caseB, .ret (.var 2) false]
def CSt (ns : List Int) (l : Nat) (acc : List D) (a b : Slot) : Sta := ⟨[.val (.lst (ns.map D.int)), .val (.int l), .own (.lst acc), a, b], []⟩
theorem case1 (cl : CallF) (ns : List Int) (l : Nat) : evS cl (.set 2 (.lst []) true) ⟨[.val (.lst (ns.map D.int)), .val (.int l), .no, .no, .no], []⟩ = .ok .nx (CSt ns l [] .no .no) := by simp [CSt, evS, evT, evEs, lk, leak, vO, mkSlot]
def trio (m : Nat) : List D := [.tup [.int m, .int 0], .tup [.int m, .int ((2 ^ 2 ^ m : Nat) - 1)], .tup [.int m, .int (216 % (2 ^ 2 ^ m : Nat))]]
theorem trio_P {l m : Nat} (h : l ≤ m) (h' : m ≤ 3) : ∀ d ∈ trio m, Pc l d := by
  intro d hd
  have hp : 0 < 2 ^ 2 ^ m := Nat.pow_pos (by decide)
  simp only [trio, List.mem_cons, List.not_mem_nil, or_false] at hd
  rcases hd with rfl | rfl | rfl
  · exact ⟨m, 0, h, h', hp, rfl⟩
  · exact ⟨m, 2 ^ 2 ^ m - 1, h, h', by omega, by rw [Int.ofNat_sub hp]; rfl⟩
  · exact ⟨m, 216 % 2 ^ 2 ^ m, h, h', Nat.mod_lt _ hp, rfl⟩
def I1 (ns : List Int) (l : Nat) (ds : List D) (st : Sta) : Prop := ∃ acc a, st = CSt ns l acc a .no ∧ (∀ d ∈ acc, Pc l d) ∧ acc.length + 3 * ds.length ≤ 12 ∧ ∀ d ∈ ds, ∃ m : Nat, d = .int m ∧ l ≤ m ∧ m ≤ 3
theorem expA (cl : CallF) (ns : List Int) (l m : Nat) (acc : List D) (hm : m ≤ 3) (hl : acc.length ≤ 100) : evS cl caseA (CSt ns l acc (.val (.int m)) .no) = .ok .nx (CSt ns l (acc ++ trio m) (.val (.int m)) .no) := by
  have h0 : acc.length + 3 ≤ 1000000 := by omega
  rcases (show m = 0 ∨ m = 1 ∨ m = 2 ∨ m = 3 by omega) with rfl | rfl | rfl | rfl <;>
    simp [CSt, evS, evT, evEs, lk, leak, two, look, binF, intF, vF, vO, mkSlot, h0, trio]
theorem turn1 (cl : CallF) (ns : List Int) (l : Nat) : ∀ d ds st, I1 ns l (d :: ds) st → ∃ s1 s2 c, evG cl (.name 3) d st = .ok () s1 ∧ evSs cl [caseA] s1 = .ok c s2 ∧ (c = .nx ∨ c = .ct) ∧ I1 ns l ds s2 := by
  rintro d ds st ⟨acc, a, rfl, h1, h2, h3⟩
  obtain ⟨m, rfl, hm1, hm2⟩ := h3 d List.mem_cons_self
  rw [List.length_cons] at h2
  refine ⟨CSt ns l acc (.val (.int m)) .no, CSt ns l (acc ++ trio m) (.val (.int m)) .no, .nx, ?_, ?_, .inl rfl, ⟨_, _, rfl, ?_, ?_, fun d m => h3 d (List.mem_cons_of_mem _ m)⟩⟩
  · simp [CSt, evG, setName]
  · rw [evSs_cons (expA cl ns l m acc hm2 (by omega))]; rfl
  · intro d hd
    rcases List.mem_append.mp hd with z | z
    · exact h1 d z
    · exact trio_P hm1 hm2 d z
  · rw [List.length_append, show (trio m).length = 3 from rfl]; omega
theorem case2 (cl : CallF) (ns : List Int) (l : Nat) (hl : l ≤ 3) : ∃ acc a, evS cl (.for (.name 3) (.range (.var 1) (.cst (.int 4))) [caseA]) (CSt ns l [] .no .no) = .ok .nx (CSt ns l acc a .no) ∧ (∀ d ∈ acc, Pc l d) ∧ acc.length ≤ 12 := by
  have hs : smallI l := by unfold smallI; omega
  rw [evFor (evRange (i := l) (j := 4) (s1 := CSt ns l [] .no .no) (s2 := CSt ns l [] .no .no) (by simp [CSt, evT, lk, leak]) (by simp [evT, lk, leak, vO]) hs (by decide))]
  obtain ⟨s', e, acc, a, rfl, h1, h2, _⟩ := loop_nx (I1 ns l) (turn1 cl ns l) (rangeL l 4) (CSt ns l [] .no .no) ⟨[], .no, rfl, (fun d h => by cases h), by rw [rangeL_len, List.length_nil]; omega, fun d hd => by
    obtain ⟨k, rfl, hk⟩ := mem_rangeL hd
    exact ⟨l + k, by rw [Int.natCast_add], by omega, by omega⟩⟩
  rw [List.length_nil] at h2
  exact ⟨acc, a, e, h1, by omega⟩
theorem cell_P (l : Nat) (hl : l ≤ 3) (j : Int) : ∃ m t : Nat, (l : Int) + j % (4 - l) = m ∧ j / (4 - l) % 2 ^ (2 ^ m) = t ∧ l ≤ m ∧ m ≤ 3 ∧ t < 2 ^ (2 ^ m) := by
  have h0 : 0 ≤ j % (4 - (l : Int)) := Int.emod_nonneg _ (by omega)
  have h1 : j % (4 - (l : Int)) < 4 - l := Int.emod_lt_of_pos _ (by omega)
  obtain ⟨w, hw⟩ := Int.eq_ofNat_of_zero_le h0
  have hp : (0 : Int) < 2 ^ (2 ^ (l + w)) := Int.pow_pos (by decide)
  obtain ⟨t, ht⟩ := Int.eq_ofNat_of_zero_le (Int.emod_nonneg (j / (4 - (l : Int))) (Int.ne_of_gt hp))
  have h2 := Int.emod_lt_of_pos (j / (4 - (l : Int))) hp
  rw [ht] at h2
  exact ⟨l + w, t, by omega, ht, by omega, by omega, by exact_mod_cast h2⟩
def I3 (ns : List Int) (l : Nat) (ds : List D) (st : Sta) : Prop := ∃ acc a b, st = CSt ns l acc a b ∧ (∀ d ∈ acc, Pc l d) ∧ acc.length + ds.length ≤ 100 ∧ ∀ d ∈ ds, ∃ i, d = .int i
theorem elemB (cl : CallF) (ns : List Int) (l : Nat) (hl : l ≤ 3) (acc : List D) (j : Int) (m t : Nat) (hm : m ≤ 3) (e2 : j / (4 - l) % 2 ^ (2 ^ m) = t) : lk (evT cl (.tup [(.var 3), (.bin .mod (.bin .fdiv (.var 4) (.bin .sub (.cst (.int 4)) (.var 1))) (.bin .shl (.cst (.int 1)) (.bin .shl (.cst (.int 1)) (.var 3))))]) (CSt ns l acc (.val (.int m)) (.val (.int j)))) = .ok (.tup [.int m, .int t]) (CSt ns l acc (.val (.int m)) (.val (.int j))) := by
  have h1 : (l : Int) < 4 := by omega
  have h2 : (4 : Int) - l < 1073741824 := by omega
  rw [← e2]
  rcases (show m = 0 ∨ m = 1 ∨ m = 2 ∨ m = 3 by omega) with rfl | rfl | rfl | rfl <;>
    simp [CSt, evT, evEs, lk, leak, two, look, binF, intF, vF, vO, h1, h2]
theorem turn3 (cl : CallF) (ns : List Int) (l : Nat) (hl : l ≤ 3) : ∀ d ds st, I3 ns l (d :: ds) st → ∃ s1 s2 c, evG cl (.name 4) d st = .ok () s1 ∧ evSs cl caseB s1 = .ok c s2 ∧ (c = .nx ∨ c = .ct) ∧ I3 ns l ds s2 := by
  rintro d ds st ⟨acc, a, b, rfl, h1, h2, h3⟩
  obtain ⟨j, rfl⟩ := h3 d List.mem_cons_self
  obtain ⟨m, t, e1, e2, hm1, hm2, ht⟩ := cell_P l hl j
  rw [List.length_cons] at h2
  have hlen : acc.length < 1000000 := by omega
  refine ⟨CSt ns l acc a (.val (.int j)), CSt ns l (acc ++ [.tup [.int m, .int t]]) (.val (.int m)) (.val (.int j)), .nx, ?_, ?_, .inl rfl, ⟨_, _, _, rfl, ?_, ?_, fun d m => h3 d (List.mem_cons_of_mem _ m)⟩⟩
  · simp [CSt, evG, setName]
  · have s1 : evS cl (.set 3 (.bin .add (.var 1) (.bin .mod (.var 4) (.bin .sub (.cst (.int 4)) (.var 1)))) false) (CSt ns l acc a (.val (.int j))) = .ok .nx (CSt ns l acc (.val (.int m)) (.val (.int j))) := by
      have h1 : (l : Int) < 4 := by omega
      simp [CSt, evS, evT, lk, leak, two, look, binF, intF, vF, vO, h1, e1]
    rw [evSs_cons s1, evSs_cons (evAppend (elemB cl ns l hl acc j m t hm2 e2) (ys := acc) rfl rfl hlen)]
    rfl
  · intro d hd
    rcases List.mem_append.mp hd with z | z
    · exact h1 d z
    · rw [List.mem_singleton.mp z]; exact ⟨m, t, hm1, hm2, ht, rfl⟩
  · rw [List.length_append, List.length_singleton]; omega
theorem case3 (cl : CallF) (ns : List Int) (hns : ns.length ≤ 63) (l : Nat) (hl : l ≤ 3) (acc : List D) (a : Slot) (hP : ∀ d ∈ acc, Pc l d) (hlen : acc.length ≤ 12) : ∃ acc' a' b', evS cl (.for (.name 4) (.seq (.var 0)) caseB) (CSt ns l acc a .no) = .ok .nx (CSt ns l acc' a' b') ∧ (∀ d ∈ acc', Pc l d) ∧ acc'.length ≤ 100 := by
  rw [evFor (ds := ns.map D.int) (s1 := CSt ns l acc a .no) (by simp [CSt, evI, evT, lk, leak])]
  have i0 : I3 ns l (ns.map D.int) (CSt ns l acc a .no) := ⟨acc, a, .no, rfl, hP, by rw [List.length_map]; omega, by simp⟩
  obtain ⟨s', e, acc, a, b, rfl, h1, h2, _⟩ := loop_nx (I3 ns l) (turn3 cl ns l hl) _ _ i0
  rw [List.length_nil] at h2
  exact ⟨acc, a, b, e, h1, by omega⟩
theorem cases_ok {tab : List Def} {n f : Nat} (hf : tab[f]? = some ⟨"_law_cases", 2, 5, caseBody, false⟩) (ns : List Int) (hns : ns.length ≤ 63) (l : Nat) (hl : l ≤ 3) : ∃ cs, callN tab (n + 1) f [.lst (ns.map D.int), .int l] [] = some (.lst cs, []) ∧ (∀ d ∈ cs, Pc l d) ∧ cs.length ≤ 100 := by
  obtain ⟨acc, a, e2, h1, h2⟩ := case2 (callN tab n) ns l hl
  obtain ⟨acc3, a3, b3, e3, h3, h4⟩ := case3 (callN tab n) ns hns l hl acc a h1 h2
  have e4 : evS (callN tab n) (.ret (.var 2) false) (CSt ns l acc3 a3 b3) = .ok (.rt (.lst acc3) false) ⟨[.val (.lst (ns.map D.int)), .val (.int l), .val (.lst acc3), a3, b3], []⟩ := evRet (by simp [CSt, evT, lk, leak])
  have h : evSs (callN tab n) caseBody ⟨[.val (.lst (ns.map D.int)), .val (.int l), .no, .no, .no], []⟩ = .ok (.rt (.lst acc3) false) ⟨[.val (.lst (ns.map D.int)), .val (.int l), .val (.lst acc3), a3, b3], []⟩ := by
    rw [evSs_cons (case1 _ ns l), evSs_cons e2, evSs_cons e3, evSs_ret e4]
  have r := callN_ret (ds := [.lst (ns.map D.int), .int l]) (S := []) hf rfl h
  exact ⟨acc3, r, h3, h4⟩
def chkF (m t : Nat) : Bool := isT (callC ctab 4 12 [.int m, .int t] [])
def permsI : Nat → List (List Int)
  | 0 => [[]]
  | 1 => [[0]]
  | 2 => [[0, 1], [1, 0]]
  | _ => [[0, 1, 2], [0, 2, 1], [1, 0, 2], [1, 2, 0], [2, 0, 1], [2, 1, 0]]
def chkO (m t : Nat) (o : List Int) : Bool := isT (callC ctab 4 13 [.int m, .int t, .lst (o.map D.int)] [])
theorem flipA_0 : ((List.range (2 ^ 2 ^ 0)).all fun t => chkF 0 t) = true := by decide +kernel
theorem flipA_1 : ((List.range (2 ^ 2 ^ 1)).all fun t => chkF 1 t) = true := by decide +kernel
theorem flipA_2 : ((List.range (2 ^ 2 ^ 2)).all fun t => chkF 2 t) = true := by decide +kernel
theorem flipA : ∀ i : Nat, i < 3 → ((List.range (2 ^ 2 ^ i)).all fun t => chkF i t) = true
  | 0, _ => flipA_0
  | 1, _ => flipA_1
  | 2, _ => flipA_2
  | n + 3, h => absurd h (by omega)
theorem flipB_0 : ((List.range 8).all fun t => chkF 3 (8 * 0 + t)) = true := by decide +kernel
theorem flipB_1 : ((List.range 8).all fun t => chkF 3 (8 * 1 + t)) = true := by decide +kernel
theorem flipB_2 : ((List.range 8).all fun t => chkF 3 (8 * 2 + t)) = true := by decide +kernel
theorem flipB_3 : ((List.range 8).all fun t => chkF 3 (8 * 3 + t)) = true := by decide +kernel
theorem flipB_4 : ((List.range 8).all fun t => chkF 3 (8 * 4 + t)) = true := by decide +kernel
theorem flipB_5 : ((List.range 8).all fun t => chkF 3 (8 * 5 + t)) = true := by decide +kernel
theorem flipB_6 : ((List.range 8).all fun t => chkF 3 (8 * 6 + t)) = true := by decide +kernel
theorem flipB_7 : ((List.range 8).all fun t => chkF 3 (8 * 7 + t)) = true := by decide +kernel
theorem flipB_8 : ((List.range 8).all fun t => chkF 3 (8 * 8 + t)) = true := by decide +kernel
theorem flipB_9 : ((List.range 8).all fun t => chkF 3 (8 * 9 + t)) = true := by decide +kernel
theorem flipB_10 : ((List.range 8).all fun t => chkF 3 (8 * 10 + t)) = true := by decide +kernel
theorem flipB_11 : ((List.range 8).all fun t => chkF 3 (8 * 11 + t)) = true := by decide +kernel
theorem flipB_12 : ((List.range 8).all fun t => chkF 3 (8 * 12 + t)) = true := by decide +kernel
theorem flipB_13 : ((List.range 8).all fun t => chkF 3 (8 * 13 + t)) = true := by decide +kernel
theorem flipB_14 : ((List.range 8).all fun t => chkF 3 (8 * 14 + t)) = true := by decide +kernel
theorem flipB_15 : ((List.range 8).all fun t => chkF 3 (8 * 15 + t)) = true := by decide +kernel
theorem flipB_16 : ((List.range 8).all fun t => chkF 3 (8 * 16 + t)) = true := by decide +kernel
theorem flipB_17 : ((List.range 8).all fun t => chkF 3 (8 * 17 + t)) = true := by decide +kernel
theorem flipB_18 : ((List.range 8).all fun t => chkF 3 (8 * 18 + t)) = true := by decide +kernel
theorem flipB_19 : ((List.range 8).all fun t => chkF 3 (8 * 19 + t)) = true := by decide +kernel
theorem flipB_20 : ((List.range 8).all fun t => chkF 3 (8 * 20 + t)) = true := by decide +kernel
theorem flipB_21 : ((List.range 8).all fun t => chkF 3 (8 * 21 + t)) = true := by decide +kernel
theorem flipB_22 : ((List.range 8).all fun t => chkF 3 (8 * 22 + t)) = true := by decide +kernel
theorem flipB_23 : ((List.range 8).all fun t => chkF 3 (8 * 23 + t)) = true := by decide +kernel
theorem flipB_24 : ((List.range 8).all fun t => chkF 3 (8 * 24 + t)) = true := by decide +kernel
theorem flipB_25 : ((List.range 8).all fun t => chkF 3 (8 * 25 + t)) = true := by decide +kernel
theorem flipB_26 : ((List.range 8).all fun t => chkF 3 (8 * 26 + t)) = true := by decide +kernel
theorem flipB_27 : ((List.range 8).all fun t => chkF 3 (8 * 27 + t)) = true := by decide +kernel
theorem flipB_28 : ((List.range 8).all fun t => chkF 3 (8 * 28 + t)) = true := by decide +kernel
theorem flipB_29 : ((List.range 8).all fun t => chkF 3 (8 * 29 + t)) = true := by decide +kernel
theorem flipB_30 : ((List.range 8).all fun t => chkF 3 (8 * 30 + t)) = true := by decide +kernel
theorem flipB_31 : ((List.range 8).all fun t => chkF 3 (8 * 31 + t)) = true := by decide +kernel
theorem flipB : ∀ i : Nat, i < 32 → ((List.range 8).all fun t => chkF 3 (8 * i + t)) = true
  | 0, _ => flipB_0
  | 1, _ => flipB_1
  | 2, _ => flipB_2
  | 3, _ => flipB_3
  | 4, _ => flipB_4
  | 5, _ => flipB_5
  | 6, _ => flipB_6
  | 7, _ => flipB_7
  | 8, _ => flipB_8
  | 9, _ => flipB_9
  | 10, _ => flipB_10
  | 11, _ => flipB_11
  | 12, _ => flipB_12
  | 13, _ => flipB_13
  | 14, _ => flipB_14
  | 15, _ => flipB_15
  | 16, _ => flipB_16
  | 17, _ => flipB_17
  | 18, _ => flipB_18
  | 19, _ => flipB_19
  | 20, _ => flipB_20
  | 21, _ => flipB_21
  | 22, _ => flipB_22
  | 23, _ => flipB_23
  | 24, _ => flipB_24
  | 25, _ => flipB_25
  | 26, _ => flipB_26
  | 27, _ => flipB_27
  | 28, _ => flipB_28
  | 29, _ => flipB_29
  | 30, _ => flipB_30
  | 31, _ => flipB_31
  | n + 32, h => absurd h (by omega)
theorem ordA_0 : ((List.range (2 ^ 2 ^ 0)).all fun t => (permsI 0).all fun o => chkO 0 t o) = true := by decide +kernel
theorem ordA_1 : ((List.range (2 ^ 2 ^ 1)).all fun t => (permsI 1).all fun o => chkO 1 t o) = true := by decide +kernel
theorem ordA_2 : ((List.range (2 ^ 2 ^ 2)).all fun t => (permsI 2).all fun o => chkO 2 t o) = true := by decide +kernel
theorem ordA : ∀ i : Nat, i < 3 → ((List.range (2 ^ 2 ^ i)).all fun t => (permsI i).all fun o => chkO i t o) = true
  | 0, _ => ordA_0
  | 1, _ => ordA_1
  | 2, _ => ordA_2
  | n + 3, h => absurd h (by omega)
theorem ordB_0 : ((List.range 4).all fun t => (permsI 3).all fun o => chkO 3 (4 * 0 + t) o) = true := by decide +kernel
theorem ordB_1 : ((List.range 4).all fun t => (permsI 3).all fun o => chkO 3 (4 * 1 + t) o) = true := by decide +kernel
theorem ordB_2 : ((List.range 4).all fun t => (permsI 3).all fun o => chkO 3 (4 * 2 + t) o) = true := by decide +kernel
theorem ordB_3 : ((List.range 4).all fun t => (permsI 3).all fun o => chkO 3 (4 * 3 + t) o) = true := by decide +kernel
theorem ordB_4 : ((List.range 4).all fun t => (permsI 3).all fun o => chkO 3 (4 * 4 + t) o) = true := by decide +kernel
theorem ordB_5 : ((List.range 4).all fun t => (permsI 3).all fun o => chkO 3 (4 * 5 + t) o) = true := by decide +kernel
theorem ordB_6 : ((List.range 4).all fun t => (permsI 3).all fun o => chkO 3 (4 * 6 + t) o) = true := by decide +kernel
theorem ordB_7 : ((List.range 4).all fun t => (permsI 3).all fun o => chkO 3 (4 * 7 + t) o) = true := by decide +kernel
theorem ordB_8 : ((List.range 4).all fun t => (permsI 3).all fun o => chkO 3 (4 * 8 + t) o) = true := by decide +kernel
theorem ordB_9 : ((List.range 4).all fun t => (permsI 3).all fun o => chkO 3 (4 * 9 + t) o) = true := by decide +kernel
theorem ordB_10 : ((List.range 4).all fun t => (permsI 3).all fun o => chkO 3 (4 * 10 + t) o) = true := by decide +kernel
theorem ordB_11 : ((List.range 4).all fun t => (permsI 3).all fun o => chkO 3 (4 * 11 + t) o) = true := by decide +kernel
theorem ordB_12 : ((List.range 4).all fun t => (permsI 3).all fun o => chkO 3 (4 * 12 + t) o) = true := by decide +kernel
theorem ordB_13 : ((List.range 4).all fun t => (permsI 3).all fun o => chkO 3 (4 * 13 + t) o) = true := by decide +kernel
theorem ordB_14 : ((List.range 4).all fun t => (permsI 3).all fun o => chkO 3 (4 * 14 + t) o) = true := by decide +kernel
theorem ordB_15 : ((List.range 4).all fun t => (permsI 3).all fun o => chkO 3 (4 * 15 + t) o) = true := by decide +kernel
theorem ordB_16 : ((List.range 4).all fun t => (permsI 3).all fun o => chkO 3 (4 * 16 + t) o) = true := by decide +kernel
theorem ordB_17 : ((List.range 4).all fun t => (permsI 3).all fun o => chkO 3 (4 * 17 + t) o) = true := by decide +kernel
theorem ordB_18 : ((List.range 4).all fun t => (permsI 3).all fun o => chkO 3 (4 * 18 + t) o) = true := by decide +kernel
theorem ordB_19 : ((List.range 4).all fun t => (permsI 3).all fun o => chkO 3 (4 * 19 + t) o) = true := by decide +kernel
theorem ordB_20 : ((List.range 4).all fun t => (permsI 3).all fun o => chkO 3 (4 * 20 + t) o) = true := by decide +kernel
theorem ordB_21 : ((List.range 4).all fun t => (permsI 3).all fun o => chkO 3 (4 * 21 + t) o) = true := by decide +kernel
theorem ordB_22 : ((List.range 4).all fun t => (permsI 3).all fun o => chkO 3 (4 * 22 + t) o) = true := by decide +kernel
theorem ordB_23 : ((List.range 4).all fun t => (permsI 3).all fun o => chkO 3 (4 * 23 + t) o) = true := by decide +kernel
theorem ordB_24 : ((List.range 4).all fun t => (permsI 3).all fun o => chkO 3 (4 * 24 + t) o) = true := by decide +kernel
theorem ordB_25 : ((List.range 4).all fun t => (permsI 3).all fun o => chkO 3 (4 * 25 + t) o) = true := by decide +kernel
theorem ordB_26 : ((List.range 4).all fun t => (permsI 3).all fun o => chkO 3 (4 * 26 + t) o) = true := by decide +kernel
theorem ordB_27 : ((List.range 4).all fun t => (permsI 3).all fun o => chkO 3 (4 * 27 + t) o) = true := by decide +kernel
theorem ordB_28 : ((List.range 4).all fun t => (permsI 3).all fun o => chkO 3 (4 * 28 + t) o) = true := by decide +kernel
theorem ordB_29 : ((List.range 4).all fun t => (permsI 3).all fun o => chkO 3 (4 * 29 + t) o) = true := by decide +kernel
theorem ordB_30 : ((List.range 4).all fun t => (permsI 3).all fun o => chkO 3 (4 * 30 + t) o) = true := by decide +kernel
theorem ordB_31 : ((List.range 4).all fun t => (permsI 3).all fun o => chkO 3 (4 * 31 + t) o) = true := by decide +kernel
theorem ordB_32 : ((List.range 4).all fun t => (permsI 3).all fun o => chkO 3 (4 * 32 + t) o) = true := by decide +kernel
theorem ordB_33 : ((List.range 4).all fun t => (permsI 3).all fun o => chkO 3 (4 * 33 + t) o) = true := by decide +kernel
theorem ordB_34 : ((List.range 4).all fun t => (permsI 3).all fun o => chkO 3 (4 * 34 + t) o) = true := by decide +kernel
theorem ordB_35 : ((List.range 4).all fun t => (permsI 3).all fun o => chkO 3 (4 * 35 + t) o) = true := by decide +kernel
theorem ordB_36 : ((List.range 4).all fun t => (permsI 3).all fun o => chkO 3 (4 * 36 + t) o) = true := by decide +kernel
theorem ordB_37 : ((List.range 4).all fun t => (permsI 3).all fun o => chkO 3 (4 * 37 + t) o) = true := by decide +kernel
theorem ordB_38 : ((List.range 4).all fun t => (permsI 3).all fun o => chkO 3 (4 * 38 + t) o) = true := by decide +kernel
theorem ordB_39 : ((List.range 4).all fun t => (permsI 3).all fun o => chkO 3 (4 * 39 + t) o) = true := by decide +kernel
theorem ordB_40 : ((List.range 4).all fun t => (permsI 3).all fun o => chkO 3 (4 * 40 + t) o) = true := by decide +kernel
theorem ordB_41 : ((List.range 4).all fun t => (permsI 3).all fun o => chkO 3 (4 * 41 + t) o) = true := by decide +kernel
theorem ordB_42 : ((List.range 4).all fun t => (permsI 3).all fun o => chkO 3 (4 * 42 + t) o) = true := by decide +kernel
theorem ordB_43 : ((List.range 4).all fun t => (permsI 3).all fun o => chkO 3 (4 * 43 + t) o) = true := by decide +kernel
theorem ordB_44 : ((List.range 4).all fun t => (permsI 3).all fun o => chkO 3 (4 * 44 + t) o) = true := by decide +kernel
theorem ordB_45 : ((List.range 4).all fun t => (permsI 3).all fun o => chkO 3 (4 * 45 + t) o) = true := by decide +kernel
theorem ordB_46 : ((List.range 4).all fun t => (permsI 3).all fun o => chkO 3 (4 * 46 + t) o) = true := by decide +kernel
theorem ordB_47 : ((List.range 4).all fun t => (permsI 3).all fun o => chkO 3 (4 * 47 + t) o) = true := by decide +kernel
theorem ordB_48 : ((List.range 4).all fun t => (permsI 3).all fun o => chkO 3 (4 * 48 + t) o) = true := by decide +kernel
theorem ordB_49 : ((List.range 4).all fun t => (permsI 3).all fun o => chkO 3 (4 * 49 + t) o) = true := by decide +kernel
theorem ordB_50 : ((List.range 4).all fun t => (permsI 3).all fun o => chkO 3 (4 * 50 + t) o) = true := by decide +kernel
theorem ordB_51 : ((List.range 4).all fun t => (permsI 3).all fun o => chkO 3 (4 * 51 + t) o) = true := by decide +kernel
theorem ordB_52 : ((List.range 4).all fun t => (permsI 3).all fun o => chkO 3 (4 * 52 + t) o) = true := by decide +kernel
theorem ordB_53 : ((List.range 4).all fun t => (permsI 3).all fun o => chkO 3 (4 * 53 + t) o) = true := by decide +kernel
theorem ordB_54 : ((List.range 4).all fun t => (permsI 3).all fun o => chkO 3 (4 * 54 + t) o) = true := by decide +kernel
theorem ordB_55 : ((List.range 4).all fun t => (permsI 3).all fun o => chkO 3 (4 * 55 + t) o) = true := by decide +kernel
theorem ordB_56 : ((List.range 4).all fun t => (permsI 3).all fun o => chkO 3 (4 * 56 + t) o) = true := by decide +kernel
theorem ordB_57 : ((List.range 4).all fun t => (permsI 3).all fun o => chkO 3 (4 * 57 + t) o) = true := by decide +kernel
theorem ordB_58 : ((List.range 4).all fun t => (permsI 3).all fun o => chkO 3 (4 * 58 + t) o) = true := by decide +kernel
theorem ordB_59 : ((List.range 4).all fun t => (permsI 3).all fun o => chkO 3 (4 * 59 + t) o) = true := by decide +kernel
theorem ordB_60 : ((List.range 4).all fun t => (permsI 3).all fun o => chkO 3 (4 * 60 + t) o) = true := by decide +kernel
theorem ordB_61 : ((List.range 4).all fun t => (permsI 3).all fun o => chkO 3 (4 * 61 + t) o) = true := by decide +kernel
theorem ordB_62 : ((List.range 4).all fun t => (permsI 3).all fun o => chkO 3 (4 * 62 + t) o) = true := by decide +kernel
theorem ordB_63 : ((List.range 4).all fun t => (permsI 3).all fun o => chkO 3 (4 * 63 + t) o) = true := by decide +kernel
theorem ordB : ∀ i : Nat, i < 64 → ((List.range 4).all fun t => (permsI 3).all fun o => chkO 3 (4 * i + t) o) = true
  | 0, _ => ordB_0
  | 1, _ => ordB_1
  | 2, _ => ordB_2
  | 3, _ => ordB_3
  | 4, _ => ordB_4
  | 5, _ => ordB_5
  | 6, _ => ordB_6
  | 7, _ => ordB_7
  | 8, _ => ordB_8
  | 9, _ => ordB_9
  | 10, _ => ordB_10
  | 11, _ => ordB_11
  | 12, _ => ordB_12
  | 13, _ => ordB_13
  | 14, _ => ordB_14
  | 15, _ => ordB_15
  | 16, _ => ordB_16
  | 17, _ => ordB_17
  | 18, _ => ordB_18
  | 19, _ => ordB_19
  | 20, _ => ordB_20
  | 21, _ => ordB_21
  | 22, _ => ordB_22
  | 23, _ => ordB_23
  | 24, _ => ordB_24
  | 25, _ => ordB_25
  | 26, _ => ordB_26
  | 27, _ => ordB_27
  | 28, _ => ordB_28
  | 29, _ => ordB_29
  | 30, _ => ordB_30
  | 31, _ => ordB_31
  | 32, _ => ordB_32
  | 33, _ => ordB_33
  | 34, _ => ordB_34
  | 35, _ => ordB_35
  | 36, _ => ordB_36
  | 37, _ => ordB_37
  | 38, _ => ordB_38
  | 39, _ => ordB_39
  | 40, _ => ordB_40
  | 41, _ => ordB_41
  | 42, _ => ordB_42
  | 43, _ => ordB_43
  | 44, _ => ordB_44
  | 45, _ => ordB_45
  | 46, _ => ordB_46
  | 47, _ => ordB_47
  | 48, _ => ordB_48
  | 49, _ => ordB_49
  | 50, _ => ordB_50
  | 51, _ => ordB_51
  | 52, _ => ordB_52
  | 53, _ => ordB_53
  | 54, _ => ordB_54
  | 55, _ => ordB_55
  | 56, _ => ordB_56
  | 57, _ => ordB_57
  | 58, _ => ordB_58
  | 59, _ => ordB_59
  | 60, _ => ordB_60
  | 61, _ => ordB_61
  | 62, _ => ordB_62
  | 63, _ => ordB_63
  | n + 64, h => absurd h (by omega)
def isIn (l : List (List Int)) (o : Option (D × Store)) : Bool := match o with
  | some (.lst xs, []) => (match D.ints xs with
    | some is => l.contains is
    | none => false)
  | _ => false
theorem ints_map : ∀ {xs : List D} {is : List Int}, D.ints xs = some is → xs = is.map D.int
  | [], is, h => by cases h; rfl
  | x :: xs, is, h => by
    cases x <;> try (cases h; done)
    rename_i i
    have h : (D.ints xs).map (fun is => i :: is) = some is := h
    cases e : D.ints xs with
    | none => rw [e] at h; cases h
    | some js =>
      rw [e] at h
      cases h
      rw [ints_map e]
      rfl
theorem isIn_ok {l : List (List Int)} {o : Option (D × Store)} (h : isIn l o = true) : ∃ is ∈ l, o = some (.lst (is.map D.int), []) := by
  unfold isIn at h
  split at h
  · split at h
    · rename_i xs is e
      exact ⟨is, by simpa using h, by rw [ints_map e]⟩
    · cases h
  · cases h
theorem pick_0 : ((List.range 9).all fun p => isIn (permsI 0) (callC ctab 4 11 [.int 0, .int p] [])) = true := by decide +kernel
theorem pick_1 : ((List.range 9).all fun p => isIn (permsI 1) (callC ctab 4 11 [.int 1, .int p] [])) = true := by decide +kernel
theorem pick_2 : ((List.range 9).all fun p => isIn (permsI 2) (callC ctab 4 11 [.int 2, .int p] [])) = true := by decide +kernel
theorem pick_3 : ((List.range 9).all fun p => isIn (permsI 3) (callC ctab 4 11 [.int 3, .int p] [])) = true := by decide +kernel
theorem pick : ∀ i : Nat, i < 4 → ((List.range 9).all fun p => isIn (permsI i) (callC ctab 4 11 [.int i, .int p] [])) = true
  | 0, _ => pick_0
  | 1, _ => pick_1
  | 2, _ => pick_2
  | 3, _ => pick_3
  | n + 4, h => absurd h (by omega)
structure Right (cl : CallF) : Prop where
  flip : ∀ m t : Nat, m ≤ 3 → t < 2 ^ 2 ^ m → cl 12 [.int m, .int t] [] = some (.bl true, [])
  ord : ∀ (m t : Nat) (o : List Int), m ≤ 3 → t < 2 ^ 2 ^ m → o ∈ permsI m → cl 13 [.int m, .int t, .lst (o.map D.int)] [] = some (.bl true, [])
  pick : ∀ m p : Nat, m ≤ 3 → p < 9 → ∃ is ∈ permsI m, cl 11 [.int m, .int p] [] = some (.lst (is.map D.int), [])
theorem right : Right (callN tab 4) where
  flip := fun m t hm ht => by
    rw [callC_eq asC]
    apply isT_ok
    show chkF m t = true
    by_cases h : m < 3
    · exact List.all_eq_true.mp (flipA m h) t (List.mem_range.mpr ht)
    · have e : m = 3 := by omega
      subst e
      have ht : t < 256 := ht
      have := List.all_eq_true.mp (flipB (t / 8) (by omega)) (t % 8) (List.mem_range.mpr (by omega))
      rw [show 8 * (t / 8) + t % 8 = t by omega] at this
      exact this
  ord := fun m t o hm ht ho => by
    rw [callC_eq asC]
    apply isT_ok
    show chkO m t o = true
    by_cases h : m < 3
    · exact List.all_eq_true.mp (List.all_eq_true.mp (ordA m h) t (List.mem_range.mpr ht)) o ho
    · have e : m = 3 := by omega
      subst e
      have ht : t < 256 := ht
      have := List.all_eq_true.mp (List.all_eq_true.mp (ordB (t / 4) (by omega)) (t % 4) (List.mem_range.mpr (by omega))) o ho
      rw [show 4 * (t / 4) + t % 4 = t by omega] at this
      exact this
  pick := fun m p hm hp => by
    rw [callC_eq asC]
    exact isIn_ok (List.all_eq_true.mp (pick m (by omega)) p (List.mem_range.mpr hp))
abbrev body1 : List S := [.ite (.or (.not (.val (.call 12 [(.var 1), (.var 2)]))) (.not (.val (.call 13 [(.var 1), (.var 2), (.lrange1 (.var 1))])))) [.ret (.cst (.bl false)) false] []]
abbrev s2a : S := .set 1 (.bin .mod (.bin .fdiv (.var 3) (.cst (.int 9))) (.cst (.int 4))) false
abbrev s2b : S := .set 2 (.bin .mod (.bin .fdiv (.var 3) (.cst (.int 36))) (.bin .shl (.cst (.int 1)) (.bin .shl (.cst (.int 1)) (.var 1)))) false
abbrev s2c : S := .ite (.or (.not (.val (.call 12 [(.var 1), (.var 2)]))) (.not (.val (.call 13 [(.var 1), (.var 2), (.call 11 [(.var 1), (.bin .mod (.var 3) (.cst (.int 9)))])])))) [.ret (.cst (.bl false)) false] []
theorem evLrange1 {cl : CallF} {e : E} {st s1 : Sta} {i : Int} (h : lk (evT cl e st) = .ok (.int i) s1) (hs : smallI i ∧ i ≤ 1000000) : lk (evT cl (.lrange1 e) st) = .ok (.lst (rangeL 0 i)) s1 := by
  have e : evT cl (.lrange1 e) st = .ok (.v (.lst (rangeL 0 i))) s1 := by
    rw [evT]
    simp only [intO, h, Out.ok_bind, if_pos hs, vO]
  exact lkv e
theorem lr (cl : CallF) (st : Sta) (m : Nat) (hm : m ≤ 3) (h : lk (evT cl (.var 1) st) = .ok (.int m) st) : lk (evT cl (.lrange1 (.var 1)) st) = .ok (.lst (rangeL 0 m)) st :=
  evLrange1 h (by unfold smallI; omega)
theorem rng (m : Nat) (hm : m ≤ 3) : ∃ o ∈ permsI m, rangeL 0 m = o.map D.int := by
  rcases (show m = 0 ∨ m = 1 ∨ m = 2 ∨ m = 3 by omega) with rfl | rfl | rfl | rfl
  · exact ⟨[], by decide, rfl⟩
  · exact ⟨[0], by decide, rfl⟩
  · exact ⟨[0, 1], by decide, rfl⟩
  · exact ⟨[0, 1, 2], by decide, rfl⟩
theorem test (cl : CallF) (e : E) (st : Sta) (m t : Nat) (o : List D) (h1 : lk (evT cl (.var 1) st) = .ok (.int m) st) (h2 : lk (evT cl (.var 2) st) = .ok (.int t) st) (he : lk (evT cl e st) = .ok (.lst o) st) (hS : st.S = []) (hf : cl 12 [.int m, .int t] [] = some (.bl true, [])) (ho : cl 13 [.int m, .int t, .lst o] [] = some (.bl true, [])) :
    evS cl (.ite (.or (.not (.val (.call 12 [(.var 1), (.var 2)]))) (.not (.val (.call 13 [(.var 1), (.var 2), e])))) [.ret (.cst (.bl false)) false] []) st = .ok .nx st := by
  obtain ⟨env, S⟩ := st
  have hS : S = [] := hS
  subst hS
  have c1 : evT cl (.call 12 [(.var 1), (.var 2)]) ⟨env, []⟩ = .ok (.v (.bl true)) ⟨env, []⟩ := by
    rw [evT]
    simp only [evEs, h1, h2, Out.ok_bind, callO, hf]
  have c2 : evT cl (.call 13 [(.var 1), (.var 2), e]) ⟨env, []⟩ = .ok (.v (.bl true)) ⟨env, []⟩ := by
    rw [evT]
    simp only [evEs, h1, h2, he, Out.ok_bind, callO, ho]
  simp only [evS, evB, c1, c2, Out.ok_bind, look, truth, evSs]
  rfl
def Ia (x : Slot) (ds : List D) (st : Sta) : Prop := ∃ u v w, st = ⟨[x, u, v, w], []⟩ ∧ ∀ d ∈ ds, Pc 0 d
theorem turnA {cl : CallF} (hr : Right cl) (x : Slot) : ∀ d ds st, Ia x (d :: ds) st → ∃ s1 s2 c, evG cl (.tup [(.name 1), (.name 2)]) d st = .ok () s1 ∧ evSs cl body1 s1 = .ok c s2 ∧ (c = .nx ∨ c = .ct) ∧ Ia x ds s2 := by
  rintro d ds st ⟨u, v, w, rfl, h⟩
  obtain ⟨m, t, _, hm, ht, rfl⟩ := h d List.mem_cons_self
  obtain ⟨o, ho, eo⟩ := rng m hm
  have h1 : lk (evT cl (.var 1) ⟨[x, .val (.int m), .val (.int t), w], []⟩) = .ok (.int m) ⟨[x, .val (.int m), .val (.int t), w], []⟩ := by simp [evT, lk, leak]
  have h2 : lk (evT cl (.var 2) ⟨[x, .val (.int m), .val (.int t), w], []⟩) = .ok (.int t) ⟨[x, .val (.int m), .val (.int t), w], []⟩ := by simp [evT, lk, leak]
  have hl := lr cl _ m hm h1
  refine ⟨⟨[x, .val (.int m), .val (.int t), w], []⟩, ⟨[x, .val (.int m), .val (.int t), w], []⟩, .nx, ?_, ?_, .inl rfl, _, _, _, rfl, fun d m => h d (List.mem_cons_of_mem _ m)⟩
  · simp [evG, evGs, setName]
  · rw [evSs_cons (test cl _ _ m t _ h1 h2 hl rfl (hr.flip m t hm ht) (by rw [eo]; exact hr.ord m t o hm ht ho))]
    rfl
def Ib (x : Slot) (ds : List D) (st : Sta) : Prop := ∃ u v w, st = ⟨[x, u, v, w], []⟩ ∧ ∀ d ∈ ds, ∃ i, d = .int i
theorem nums (j : Int) : ∃ m t p : Nat, j / 9 % 4 = m ∧ j / 36 % 2 ^ 2 ^ m = t ∧ j % 9 = p ∧ m ≤ 3 ∧ t < 2 ^ 2 ^ m ∧ p < 9 := by
  obtain ⟨m, hm⟩ := Int.eq_ofNat_of_zero_le (Int.emod_nonneg (j / 9) (show (4 : Int) ≠ 0 by decide))
  obtain ⟨p, hp⟩ := Int.eq_ofNat_of_zero_le (Int.emod_nonneg j (show (9 : Int) ≠ 0 by decide))
  have h0 : (0 : Int) < 2 ^ 2 ^ m := Int.pow_pos (by decide)
  obtain ⟨t, ht⟩ := Int.eq_ofNat_of_zero_le (Int.emod_nonneg (j / 36) (Int.ne_of_gt h0))
  have h2 := Int.emod_lt_of_pos (j / 36) h0
  rw [ht] at h2
  exact ⟨m, t, p, hm, ht, hp, by omega, by exact_mod_cast h2, by omega⟩
theorem sB1 (cl : CallF) (x u v : Slot) (j : Int) (m : Nat) (e : j / 9 % 4 = m) : evS cl s2a ⟨[x, u, v, .val (.int j)], []⟩ = .ok .nx ⟨[x, .val (.int m), v, .val (.int j)], []⟩ := by
  simp [evS, evT, lk, leak, two, look, binF, intF, vF, vO, e]
theorem sB2 (cl : CallF) (x v : Slot) (j : Int) (m t : Nat) (hm : m ≤ 3) (e : j / 36 % 2 ^ 2 ^ m = t) : evS cl s2b ⟨[x, .val (.int m), v, .val (.int j)], []⟩ = .ok .nx ⟨[x, .val (.int m), .val (.int t), .val (.int j)], []⟩ := by
  rw [← e]
  rcases (show m = 0 ∨ m = 1 ∨ m = 2 ∨ m = 3 by omega) with rfl | rfl | rfl | rfl <;>
    simp [evS, evT, lk, leak, two, look, binF, intF, vF, vO]
theorem sB3 (cl : CallF) (x : Slot) (j : Int) (m t p : Nat) (o : List D) (ep : j % 9 = p) (h : cl 11 [.int m, .int p] [] = some (.lst o, [])) : lk (evT cl (.call 11 [(.var 1), (.bin .mod (.var 3) (.cst (.int 9)))]) ⟨[x, .val (.int m), .val (.int t), .val (.int j)], []⟩) = .ok (.lst o) ⟨[x, .val (.int m), .val (.int t), .val (.int j)], []⟩ := by
  simp [evT, evEs, lk, leak, two, look, binF, intF, vF, vO, callO, ep, h]
theorem turnB {cl : CallF} (hr : Right cl) (x : Slot) : ∀ d ds st, Ib x (d :: ds) st → ∃ s1 s2 c, evG cl (.name 3) d st = .ok () s1 ∧ evSs cl [s2a, s2b, s2c] s1 = .ok c s2 ∧ (c = .nx ∨ c = .ct) ∧ Ib x ds s2 := by
  rintro d ds st ⟨u, v, w, rfl, h⟩
  obtain ⟨j, rfl⟩ := h d List.mem_cons_self
  obtain ⟨m, t, p, em, et, ep, hm, ht, hp⟩ := nums j
  obtain ⟨o, ho, eo⟩ := hr.pick m p hm hp
  have h1 : lk (evT cl (.var 1) ⟨[x, .val (.int m), .val (.int t), .val (.int j)], []⟩) = .ok (.int m) ⟨[x, .val (.int m), .val (.int t), .val (.int j)], []⟩ := by simp [evT, lk, leak]
  have h2 : lk (evT cl (.var 2) ⟨[x, .val (.int m), .val (.int t), .val (.int j)], []⟩) = .ok (.int t) ⟨[x, .val (.int m), .val (.int t), .val (.int j)], []⟩ := by simp [evT, lk, leak]
  have h3 := sB3 cl x j m t p _ ep eo
  refine ⟨⟨[x, u, v, .val (.int j)], []⟩, ⟨[x, .val (.int m), .val (.int t), .val (.int j)], []⟩, .nx, ?_, ?_, .inl rfl, _, _, _, rfl, fun d m => h d (List.mem_cons_of_mem _ m)⟩
  · simp [evG, setName]
  · rw [evSs_cons (sB1 cl x u v j m em), evSs_cons (sB2 cl x v j m t hm et), evSs_cons (test cl _ _ m t _ h1 h2 h3 rfl (hr.flip m t hm ht) (hr.ord m t o hm ht ho))]
    rfl
theorem seqA (cl : CallF) (x : Slot) (cs : List D) (h : cl 9 [.lst [], .int 0] [] = some (.lst cs, [])) : evI cl (.seq (.call 9 [(.lst []), (.cst (.int 0))])) ⟨[x, .no, .no, .no], []⟩ = .ok cs ⟨[x, .no, .no, .no], []⟩ := by
  simp [evI, evT, evEs, lk, leak, vO, callO, h]
theorem seqB (cl : CallF) (ns : List Int) (u v w : Slot) : evI cl (.seq (.var 0)) ⟨[.val (.lst (ns.map D.int)), u, v, w], []⟩ = .ok (ns.map D.int) ⟨[.val (.lst (ns.map D.int)), u, v, w], []⟩ := by
  simp [evI, evT, lk, leak]
theorem hF : ∀ ns : List Int, ns.length ≤ 63 → ∃ S', callN tab 5 14 [.lst (ns.map D.int)] [] = some (.bl true, S') := by
  intro ns hns
  obtain ⟨cs, e1, h1, h2⟩ := cases_ok (tab := tab) (n := 3) (f := 9) rfl [] (by decide) 0 (by decide)
  obtain ⟨s', e, u, v, w, rfl, _⟩ := loop_nx (Ia (.val (.lst (ns.map D.int)))) (turnA right _) cs ⟨[.val (.lst (ns.map D.int)), .no, .no, .no], []⟩ ⟨_, _, _, rfl, h1⟩
  have e2 : evS (callN tab 4) (.for (.tup [(.name 1), (.name 2)]) (.seq (.call 9 [(.lst []), (.cst (.int 0))])) body1) ⟨[.val (.lst (ns.map D.int)), .no, .no, .no], []⟩ = .ok .nx ⟨[.val (.lst (ns.map D.int)), u, v, w], []⟩ := by rw [evFor (seqA _ _ cs e1)]; exact e
  obtain ⟨s', e', u', v', w', rfl, _⟩ := loop_nx (Ib (.val (.lst (ns.map D.int)))) (turnB right _) (ns.map D.int) ⟨[.val (.lst (ns.map D.int)), u, v, w], []⟩ ⟨_, _, _, rfl, by simp⟩
  have e3 : evS (callN tab 4) (.for (.name 3) (.seq (.var 0)) [s2a, s2b, s2c]) ⟨[.val (.lst (ns.map D.int)), u, v, w], []⟩ = .ok .nx ⟨[.val (.lst (ns.map D.int)), u', v', w'], []⟩ := by rw [evFor (seqB _ ns u v w)]; exact e'
  have e4 : evS (callN tab 4) (.ret (.cst (.bl true)) false) ⟨[.val (.lst (ns.map D.int)), u', v', w'], []⟩ = .ok (.rt (.bl true) false) ⟨[.val (.lst (ns.map D.int)), u', v', w'], []⟩ := evRet (by simp [evT, lk, leak, vO])
  have h : evSs (callN tab 4) d14.body ⟨[.val (.lst (ns.map D.int)), .no, .no, .no], []⟩ = .ok (.rt (.bl true) false) ⟨[.val (.lst (ns.map D.int)), u', v', w'], []⟩ := by
    show evSs (callN tab 4) [_, _, _] _ = _
    rw [evSs_cons e2, evSs_cons e3, evSs_ret e4]
  exact ⟨_, callN_ret (tab := tab) (n := 4) (f := 14) (df := d14) (ds := [.lst (ns.map D.int)]) (S := []) rfl rfl h⟩

def topS (i : Nat) : Stmt := PySem.Challenge.pw_gatepapers_k07_flipped_and_ordered.main.body.getD i (.Pass ⟨0, 0, 0, 0⟩)
def ents : List Ent := [⟨d0, "number_of", topS 1, ["bits", "number", "bit"], ["bits"]⟩,
  ⟨d1, "figure", topS 3, ["table", "row"], ["table", "row"]⟩,
  ⟨d2, "turned", topS 4, ["row", "k"], ["row", "k"]⟩,
  ⟨d3, "flipped", topS 5, ["table", "many", "k", "row"], ["table", "many", "k"]⟩,
  ⟨d4, "row_by", topS 6, ["row", "order", "made", "i", "place"], ["row", "order"]⟩,
  ⟨d5, "ordered", topS 7, ["table", "order", "row"], ["table", "order"]⟩,
  ⟨d6, "_law_whole", topS 9, ["_law_found"], ["_law_found"]⟩,
  ⟨d7, "_law_figure", topS 10, ["_law_table", "_law_bits", "_law_row", "_law_k", "_law_bit"], ["_law_table", "_law_bits"]⟩,
  ⟨d8, "_law_rows", topS 11, ["_law_many", "_law_rows_here", "_law_k", "_law_row"], ["_law_many"]⟩,
  ⟨d9, "_law_cases", topS 12, ["_law_script", "_law_least", "_law_cases_here", "_law_many", "_law_cell"], ["_law_script", "_law_least"]⟩,
  ⟨d10, "_law_is", topS 13, ["_law_found", "_law_many"], ["_law_found", "_law_many"]⟩,
  ⟨d11, "_law_order", topS 14, ["_law_many", "_law_pick", "_law_left", "_law_order_here"], ["_law_many", "_law_pick"]⟩,
  ⟨d12, "_law_flips", topS 15, ["_law_many", "_law_table", "_law_k", "_law_found", "_law_bits"], ["_law_many", "_law_table"]⟩,
  ⟨d13, "_law_orders", topS 16, ["_law_many", "_law_table", "_law_order_here", "_law_handed", "_law_found", "_law_bits", "_law_old", "_law_place"], ["_law_many", "_law_table", "_law_order_here"]⟩,
  ⟨d14, "law", topS 17, ["_law_script", "_law_many", "_law_table", "_law_cell"], ["_law_script"]⟩]
theorem tab_eq : ents.map (·.df) = tab := rfl
theorem ck : ents.all (entB (ents.map (·.df))) = true := by decide +kernel
theorem ba : BindAll ents := ⟨(fun _ _ _ _ _ _ us hl => match us, hl with | [_], _ => rfl), (fun _ _ _ _ _ _ us hl => match us, hl with | [_, _], _ => rfl), (fun _ _ _ _ _ _ us hl => match us, hl with | [_, _], _ => rfl), (fun _ _ _ _ _ _ us hl => match us, hl with | [_, _, _], _ => rfl), (fun _ _ _ _ _ _ us hl => match us, hl with | [_, _], _ => rfl), (fun _ _ _ _ _ _ us hl => match us, hl with | [_, _], _ => rfl), (fun _ _ _ _ _ _ us hl => match us, hl with | [_], _ => rfl), (fun _ _ _ _ _ _ us hl => match us, hl with | [_, _], _ => rfl), (fun _ _ _ _ _ _ us hl => match us, hl with | [_], _ => rfl), (fun _ _ _ _ _ _ us hl => match us, hl with | [_, _], _ => rfl), (fun _ _ _ _ _ _ us hl => match us, hl with | [_, _], _ => rfl), (fun _ _ _ _ _ _ us hl => match us, hl with | [_, _], _ => rfl), (fun _ _ _ _ _ _ us hl => match us, hl with | [_, _], _ => rfl), (fun _ _ _ _ _ _ us hl => match us, hl with | [_, _, _], _ => rfl), (fun _ _ _ _ _ _ us hl => match us, hl with | [_], _ => rfl), trivial⟩
theorem hFe : ∀ ns : List Int, ns.length ≤ 63 → ∃ S', callN (ents.map (·.df)) 5 14 [.lst (ns.map D.int)] [] = some (.bl true, S') := hF
theorem all_mk {K : PySem.W.Frag} {h : Heap} {mg : Str → Option Value} (X : K.In h) (G : h.Ns mainGlobals mg) {f0 f1 f2 f3 f4 f5 f6 f7 f8 f9 f10 f11 f12 f13 f14 : Addr} {od0 an0 od1 an1 od2 an2 od3 an3 od4 an4 od5 an5 od6 an6 od7 an7 od8 an8 od9 an9 od10 an10 od11 an11 od12 an12 od13 an13 od14 an14 : Option Addr} {sl0 sl1 sl2 sl3 sl4 sl5 sl6 sl7 sl8 sl9 sl10 sl11 sl12 sl13 sl14 : Array (Option Value)} {oc0 kV0 dc0 pm0 cd0 ct0 oc1 kV1 dc1 pm1 cd1 ct1 oc2 kV2 dc2 pm2 cd2 ct2 oc3 kV3 dc3 pm3 cd3 ct3 oc4 kV4 dc4 pm4 cd4 ct4 oc5 kV5 dc5 pm5 cd5 ct5 oc6 kV6 dc6 pm6 cd6 ct6 oc7 kV7 dc7 pm7 cd7 ct7 oc8 kV8 dc8 pm8 cd8 ct8 oc9 kV9 dc9 pm9 cd9 ct9 oc10 kV10 dc10 pm10 cd10 ct10 oc11 kV11 dc11 pm11 cd11 ct11 oc12 kV12 dc12 pm12 cd12 ct12 oc13 kV13 dc13 pm13 cd13 ct13 oc14 kV14 dc14 pm14 cd14 ct14 : Value}
    (a0 : PySem.W.nsIn K mainGlobals "number_of" = some (some (.ref f0))) (l0 : K.lookup f0 = some ⟨oc0, od0, .func (PySem.W.fnOf "number_of" "number_of" (defArgs (topS 1)) (defBody (topS 1)) (defScope (topS 1)) .none kV0 dc0 pm0 an0 cd0 ct0), sl0⟩) (c0 : PySem.W.codeIn K cd0 "number_of" = true) (k0 : PySem.W.keepIn K (.ref f0) = true)
    (a1 : PySem.W.nsIn K mainGlobals "figure" = some (some (.ref f1))) (l1 : K.lookup f1 = some ⟨oc1, od1, .func (PySem.W.fnOf "figure" "figure" (defArgs (topS 3)) (defBody (topS 3)) (defScope (topS 3)) .none kV1 dc1 pm1 an1 cd1 ct1), sl1⟩) (c1 : PySem.W.codeIn K cd1 "figure" = true) (k1 : PySem.W.keepIn K (.ref f1) = true)
    (a2 : PySem.W.nsIn K mainGlobals "turned" = some (some (.ref f2))) (l2 : K.lookup f2 = some ⟨oc2, od2, .func (PySem.W.fnOf "turned" "turned" (defArgs (topS 4)) (defBody (topS 4)) (defScope (topS 4)) .none kV2 dc2 pm2 an2 cd2 ct2), sl2⟩) (c2 : PySem.W.codeIn K cd2 "turned" = true) (k2 : PySem.W.keepIn K (.ref f2) = true)
    (a3 : PySem.W.nsIn K mainGlobals "flipped" = some (some (.ref f3))) (l3 : K.lookup f3 = some ⟨oc3, od3, .func (PySem.W.fnOf "flipped" "flipped" (defArgs (topS 5)) (defBody (topS 5)) (defScope (topS 5)) .none kV3 dc3 pm3 an3 cd3 ct3), sl3⟩) (c3 : PySem.W.codeIn K cd3 "flipped" = true) (k3 : PySem.W.keepIn K (.ref f3) = true)
    (a4 : PySem.W.nsIn K mainGlobals "row_by" = some (some (.ref f4))) (l4 : K.lookup f4 = some ⟨oc4, od4, .func (PySem.W.fnOf "row_by" "row_by" (defArgs (topS 6)) (defBody (topS 6)) (defScope (topS 6)) .none kV4 dc4 pm4 an4 cd4 ct4), sl4⟩) (c4 : PySem.W.codeIn K cd4 "row_by" = true) (k4 : PySem.W.keepIn K (.ref f4) = true)
    (a5 : PySem.W.nsIn K mainGlobals "ordered" = some (some (.ref f5))) (l5 : K.lookup f5 = some ⟨oc5, od5, .func (PySem.W.fnOf "ordered" "ordered" (defArgs (topS 7)) (defBody (topS 7)) (defScope (topS 7)) .none kV5 dc5 pm5 an5 cd5 ct5), sl5⟩) (c5 : PySem.W.codeIn K cd5 "ordered" = true) (k5 : PySem.W.keepIn K (.ref f5) = true)
    (a6 : PySem.W.nsIn K mainGlobals "_law_whole" = some (some (.ref f6))) (l6 : K.lookup f6 = some ⟨oc6, od6, .func (PySem.W.fnOf "_law_whole" "_law_whole" (defArgs (topS 9)) (defBody (topS 9)) (defScope (topS 9)) .none kV6 dc6 pm6 an6 cd6 ct6), sl6⟩) (c6 : PySem.W.codeIn K cd6 "_law_whole" = true) (k6 : PySem.W.keepIn K (.ref f6) = true)
    (a7 : PySem.W.nsIn K mainGlobals "_law_figure" = some (some (.ref f7))) (l7 : K.lookup f7 = some ⟨oc7, od7, .func (PySem.W.fnOf "_law_figure" "_law_figure" (defArgs (topS 10)) (defBody (topS 10)) (defScope (topS 10)) .none kV7 dc7 pm7 an7 cd7 ct7), sl7⟩) (c7 : PySem.W.codeIn K cd7 "_law_figure" = true) (k7 : PySem.W.keepIn K (.ref f7) = true)
    (a8 : PySem.W.nsIn K mainGlobals "_law_rows" = some (some (.ref f8))) (l8 : K.lookup f8 = some ⟨oc8, od8, .func (PySem.W.fnOf "_law_rows" "_law_rows" (defArgs (topS 11)) (defBody (topS 11)) (defScope (topS 11)) .none kV8 dc8 pm8 an8 cd8 ct8), sl8⟩) (c8 : PySem.W.codeIn K cd8 "_law_rows" = true) (k8 : PySem.W.keepIn K (.ref f8) = true)
    (a9 : PySem.W.nsIn K mainGlobals "_law_cases" = some (some (.ref f9))) (l9 : K.lookup f9 = some ⟨oc9, od9, .func (PySem.W.fnOf "_law_cases" "_law_cases" (defArgs (topS 12)) (defBody (topS 12)) (defScope (topS 12)) .none kV9 dc9 pm9 an9 cd9 ct9), sl9⟩) (c9 : PySem.W.codeIn K cd9 "_law_cases" = true) (k9 : PySem.W.keepIn K (.ref f9) = true)
    (a10 : PySem.W.nsIn K mainGlobals "_law_is" = some (some (.ref f10))) (l10 : K.lookup f10 = some ⟨oc10, od10, .func (PySem.W.fnOf "_law_is" "_law_is" (defArgs (topS 13)) (defBody (topS 13)) (defScope (topS 13)) .none kV10 dc10 pm10 an10 cd10 ct10), sl10⟩) (c10 : PySem.W.codeIn K cd10 "_law_is" = true) (k10 : PySem.W.keepIn K (.ref f10) = true)
    (a11 : PySem.W.nsIn K mainGlobals "_law_order" = some (some (.ref f11))) (l11 : K.lookup f11 = some ⟨oc11, od11, .func (PySem.W.fnOf "_law_order" "_law_order" (defArgs (topS 14)) (defBody (topS 14)) (defScope (topS 14)) .none kV11 dc11 pm11 an11 cd11 ct11), sl11⟩) (c11 : PySem.W.codeIn K cd11 "_law_order" = true) (k11 : PySem.W.keepIn K (.ref f11) = true)
    (a12 : PySem.W.nsIn K mainGlobals "_law_flips" = some (some (.ref f12))) (l12 : K.lookup f12 = some ⟨oc12, od12, .func (PySem.W.fnOf "_law_flips" "_law_flips" (defArgs (topS 15)) (defBody (topS 15)) (defScope (topS 15)) .none kV12 dc12 pm12 an12 cd12 ct12), sl12⟩) (c12 : PySem.W.codeIn K cd12 "_law_flips" = true) (k12 : PySem.W.keepIn K (.ref f12) = true)
    (a13 : PySem.W.nsIn K mainGlobals "_law_orders" = some (some (.ref f13))) (l13 : K.lookup f13 = some ⟨oc13, od13, .func (PySem.W.fnOf "_law_orders" "_law_orders" (defArgs (topS 16)) (defBody (topS 16)) (defScope (topS 16)) .none kV13 dc13 pm13 an13 cd13 ct13), sl13⟩) (c13 : PySem.W.codeIn K cd13 "_law_orders" = true) (k13 : PySem.W.keepIn K (.ref f13) = true)
    (a14 : PySem.W.nsIn K mainGlobals "law" = some (some (.ref f14))) (l14 : K.lookup f14 = some ⟨oc14, od14, .func (PySem.W.fnOf "law" "law" (defArgs (topS 17)) (defBody (topS 17)) (defScope (topS 17)) .none kV14 dc14 pm14 an14 cd14 ct14), sl14⟩) (c14 : PySem.W.codeIn K cd14 "law" = true) (k14 : PySem.W.keepIn K (.ref f14) = true)
    (z0 : PySem.W.nsIn K mainGlobals "len" = some none) (z1 : PySem.W.nsIn K mainGlobals "all" = some none) (z2 : PySem.W.nsIn K mainGlobals "any" = some none) (z3 : PySem.W.nsIn K mainGlobals "list" = some none) (z4 : PySem.W.nsIn K mainGlobals "sum" = some none) (z5 : PySem.W.nsIn K mainGlobals "int" = some none) (z6 : PySem.W.nsIn K mainGlobals "abs" = some none) (z7 : PySem.W.nsIn K mainGlobals "min" = some none) (z8 : PySem.W.nsIn K mainGlobals "max" = some none) (z9 : PySem.W.nsIn K mainGlobals "range" = some none) (z10 : PySem.W.nsIn K mainGlobals "isinstance" = some none) (z11 : PySem.W.nsIn K mainGlobals "bool" = some none) (z12 : PySem.W.nsIn K mainGlobals "str" = some none) (z13 : PySem.W.nsIn K mainGlobals "tuple" = some none) (z14 : PySem.W.nsIn K mainGlobals "enumerate" = some none) (z15 : PySem.W.nsIn K mainGlobals "zip" = some none) (z16 : PySem.W.nsIn K mainGlobals "reversed" = some none) : (∀ x ∈ bNames, mg x = none) ∧ FactAll K mg ents := by
  refine ⟨none_mk X G fun x hx => ?_, fact_mk X G a0 l0 c0 k0, fact_mk X G a1 l1 c1 k1, fact_mk X G a2 l2 c2 k2, fact_mk X G a3 l3 c3 k3, fact_mk X G a4 l4 c4 k4, fact_mk X G a5 l5 c5 k5, fact_mk X G a6 l6 c6 k6, fact_mk X G a7 l7 c7 k7, fact_mk X G a8 l8 c8 k8, fact_mk X G a9 l9 c9 k9, fact_mk X G a10 l10 c10 k10, fact_mk X G a11 l11 c11 k11, fact_mk X G a12 l12 c12 k12, fact_mk X G a13 l13 c13 k13, fact_mk X G a14 l14 c14 k14, trivial⟩
  simp only [bNames, List.mem_cons, List.not_mem_nil, or_false] at hx
  rcases hx with rfl | rfl | rfl | rfl | rfl | rfl | rfl | rfl | rfl | rfl | rfl | rfl | rfl | rfl | rfl | rfl | rfl <;> assumption
end K07
open PySem PySem.W PyProof.Rows
set_option maxHeartbeats 0 in
theorem PySem.Challenge.cw_gatepapers_k07_flipped_and_ordered_holds : PySem.Challenge.rw_gatepapers_k07_flipped_and_ordered.Holds := by
  w_on; o_law; k_head; (case hw => w_witness2)
  k_fill
  refine Gp.law_walk (l := PySem.Challenge.rw_gatepapers_k07_flipped_and_ordered) (n := 5) (ents := K07.ents) (f := 14) (x := "_law_script") rfl rfl ⟨rfl, by decide, by decide⟩ rfl rfl rfl rfl rfl K07.ba K07.ck K07.hFe (fun w h Y => PySem.W.kIn_of Y) ?F
  case F =>
    intro w mg h KX G
    refine' K07.all_mk KX G ?a0 ?l0 ?c0 ?k0 ?a1 ?l1 ?c1 ?k1 ?a2 ?l2 ?c2 ?k2 ?a3 ?l3 ?c3 ?k3 ?a4 ?l4 ?c4 ?k4 ?a5 ?l5 ?c5 ?k5 ?a6 ?l6 ?c6 ?k6 ?a7 ?l7 ?c7 ?k7 ?a8 ?l8 ?c8 ?k8 ?a9 ?l9 ?c9 ?k9 ?a10 ?l10 ?c10 ?k10 ?a11 ?l11 ?c11 ?k11 ?a12 ?l12 ?c12 ?k12 ?a13 ?l13 ?c13 ?k13 ?a14 ?l14 ?c14 ?k14 ?z0 ?z1 ?z2 ?z3 ?z4 ?z5 ?z6 ?z7 ?z8 ?z9 ?z10 ?z11 ?z12 ?z13 ?z14 ?z15 ?z16
    (case a0 => k_is); (case l0 => k_is); (case c0 => k_is); (case k0 => k_is); (case a1 => k_is); (case l1 => k_is); (case c1 => k_is); (case k1 => k_is); (case a2 => k_is); (case l2 => k_is); (case c2 => k_is); (case k2 => k_is); (case a3 => k_is); (case l3 => k_is); (case c3 => k_is); (case k3 => k_is); (case a4 => k_is); (case l4 => k_is); (case c4 => k_is); (case k4 => k_is); (case a5 => k_is); (case l5 => k_is); (case c5 => k_is); (case k5 => k_is); (case a6 => k_is); (case l6 => k_is); (case c6 => k_is); (case k6 => k_is); (case a7 => k_is); (case l7 => k_is); (case c7 => k_is); (case k7 => k_is); (case a8 => k_is); (case l8 => k_is); (case c8 => k_is); (case k8 => k_is); (case a9 => k_is); (case l9 => k_is); (case c9 => k_is); (case k9 => k_is); (case a10 => k_is); (case l10 => k_is); (case c10 => k_is); (case k10 => k_is); (case a11 => k_is); (case l11 => k_is); (case c11 => k_is); (case k11 => k_is); (case a12 => k_is); (case l12 => k_is); (case c12 => k_is); (case k12 => k_is); (case a13 => k_is); (case l13 => k_is); (case c13 => k_is); (case k13 => k_is); (case a14 => k_is); (case l14 => k_is); (case c14 => k_is); (case k14 => k_is); (case z0 => k_is); (case z1 => k_is); (case z2 => k_is); (case z3 => k_is); (case z4 => k_is); (case z5 => k_is); (case z6 => k_is); (case z7 => k_is); (case z8 => k_is); (case z9 => k_is); (case z10 => k_is); (case z11 => k_is); (case z12 => k_is); (case z13 => k_is); (case z14 => k_is); (case z15 => k_is); (case z16 => k_is)
