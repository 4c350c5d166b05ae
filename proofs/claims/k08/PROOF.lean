import PyProof.Rows.All
import Wide.All
import OpenK.AllK
import Wide.FinOn
import HandS.ForMost
import HandS.SortKw
import KE.DataMinMax
import HandS.IsInst
import HandS.Style
import HandS.Conv
import HandS.Wide
import HandS.Small
import HandS.TupLe
import HandS.NoneIn
import HandS.Deep
import HandS.More
import HandS.WordsDict
import KE.BitLaws
import KE.OsArith
import PySem.Challenge.RW_gatepapers_k08_is_table
set_option Elab.async false
set_option linter.all false
set_option maxRecDepth 100000
set_option maxHeartbeats 4000000
/-! Gp, part A: data D, the state of a def (slots, cells), what it means over the abstract heap, what may change. -/
namespace Gp
open PySem L2

/-- data without addresses; loc n: the n-th cell of the store -/
inductive D where
  | non | bl (b : Bool) | int (i : Int) | str (x : Str)
  | lst (xs : List D) | tup (xs : List D) | loc (n : Nat)
  /-- a dict; its keys: 0: whole numbers and texts; 1: tuples of such; 2: tuples within tuples -/
  | dct (k : Nat) (ks vs : List D)
  /-- an instance of the class c with these attributes (in a cell alone) -/
  | ins (c : Nat) (ns : List Nat) (vs : List D)
/-- a local name's slot: nothing known, a value, an object of its own (nobody else has it) -/
inductive Slot where
  | no | val (d : D) | own (d : D) | busy
inductive Cell where
  | o (d : D) | dead

abbrev Env := List Slot
abbrev Store := List Cell
structure Sta where
  env : Env
  S : Store

mutual
def D.beq : D → D → Bool
  | .non, .non => true
  | .bl a, .bl b => a == b
  | .int a, .int b => a == b
  | .str a, .str b => a == b
  | .lst a, .lst b => D.beqs a b
  | .tup a, .tup b => D.beqs a b
  | .loc a, .loc b => a == b
  | .dct k a b, .dct l c d => k == l && D.beqs a c && D.beqs b d
  | .ins k a b, .ins l c d => k == l && a == c && D.beqs b d
  | _, _ => false
def D.beqs : List D → List D → Bool
  | [], [] => true
  | a :: as, b :: bs => D.beq a b && D.beqs as bs
  | _, _ => false
end

mutual
theorem D.beq_iff : ∀ a b : D, D.beq a b = true ↔ a = b
  | .non, b => by cases b <;> simp [D.beq]
  | .bl x, b => by cases b <;> simp [D.beq]
  | .int x, b => by cases b <;> simp [D.beq]
  | .str x, b => by cases b <;> simp [D.beq]
  | .lst xs, b => by
    cases b <;> simp [D.beq]
    exact D.beqs_iff xs _
  | .tup xs, b => by
    cases b <;> simp [D.beq]
    exact D.beqs_iff xs _
  | .loc x, b => by cases b <;> simp [D.beq]
  | .dct k xs ys, b => by
    cases b <;> simp [D.beq]
    rw [D.beqs_iff xs _, D.beqs_iff ys _, and_assoc]
  | .ins k xs ys, b => by
    cases b <;> simp [D.beq]
    rw [D.beqs_iff ys _, and_assoc]
theorem D.beqs_iff : ∀ a b : List D, D.beqs a b = true ↔ a = b
  | [], b => by cases b <;> simp [D.beqs]
  | x :: xs, b => by
    cases b <;> simp [D.beqs]
    rw [D.beq_iff x _, D.beqs_iff xs _]
end
/-- what may be an object of its own -/
def D.obj : D → Bool
  | .lst _ => true
  | .dct _ _ _ => true
  | _ => false
/-! ### the abstract heap -/
/-- what is known of the program's classes: where they stand, how their attributes are called -/
class Cfg where
  cA : Nat → Addr
  aN : Nat → Str
  fA : Nat → Addr
  inj : ∀ i j, aN i = aN j → i = j
/-- what never changes -/
def Imm (o : HO) : Prop := (∃ xs, o = .tup xs) ∨ (∃ ob xs, o = .frz ob (.tup xs)) ∨ ∃ x, o = .own x
theorem imm_lst {xs : List V} : ¬ Imm (.lst xs) := by rintro (⟨_, h⟩ | ⟨_, _, h⟩ | ⟨_, h⟩) <;> cases h
/-- a key as data -/
def kD : Key → D
  | .inl i => .int i
  | .inr x => .str x
theorem kD_inj {a b : Key} (h : kD a = kD b) : a = b := by
  cases a <;> cases b <;> cases h <;> rfl
theorem kDs_inj : ∀ {a b : List Key}, a.map kD = b.map kD → a = b
  | [], [], _ => rfl
  | [], b :: bs, h => by cases h
  | a :: as, [], h => by cases h
  | a :: as, b :: bs, h => by
    rw [List.map_cons, List.map_cons] at h
    injection h with h1 h2
    rw [kD_inj h1, kDs_inj h2]
/-- a dict's object: its keys and values -/
def IsDct (k : Nat) (o : HO) (ks : List D) (vs : List V) : Prop := match k with
  | 0 => ∃ kvs : List (Key × V), o = .dK kvs ∧ ks = kvs.map (fun p => kD p.1) ∧ vs = kvs.map (·.2)
  | 1 => ∃ kvs : List (List Key × V), o = .dT kvs ∧ ks = kvs.map (fun p => D.tup (p.1.map kD)) ∧ vs = kvs.map (·.2)
  | _ => False
theorem IsDct.imm {k : Nat} {o : HO} {ks : List D} {vs : List V} (h : IsDct k o ks vs) : ¬ Imm o := by
  match k with
  | 0 => obtain ⟨_, rfl, _⟩ := h; rintro (⟨_, h⟩ | ⟨_, _, h⟩ | ⟨_, h⟩) <;> cases h
  | 1 => obtain ⟨_, rfl, _⟩ := h; rintro (⟨_, h⟩ | ⟨_, _, h⟩ | ⟨_, h⟩) <;> cases h
  | _ + 2 => exact h.elim
/-- a dict that stands still -/
def FzD (L : Addr → Prop) (H : Hp) (a : Addr) (k : Nat) (ks : List D) (vs : List V) : Prop := ∃ o, H a = some o ∧ ¬ L a ∧ IsDct k o ks vs
/-- a list that stands still: tracked, none of those that may change, or of the written part -/
def FzL (K : PySem.W.Frag) (L : Addr → Prop) (H : Hp) (a : Addr) (vs : List V) : Prop :=
  (∃ o, H a = some o ∧ ¬ L a ∧ (o = .lst vs ∨ ∃ ob, o = .frz ob (.lst vs))) ∨
    ∃ (o : Obj) (its : Array Value) (n : Nat), K.lookup a = some o ∧ o.cls = .type "list" ∧ o.dict = none ∧ o.data = .seq its n ∧ its.size ≤ sizeLine ∧ Vals vs its.toList
theorem FzL.sq {K : PySem.W.Frag} {L : Addr → Prop} {H : Hp} {a : Addr} {vs : List V} (h : FzL K L H a vs) : SqL K H a vs := by
  rcases h with ⟨o, e, _, rfl | ⟨ob, rfl⟩⟩ | h
  · exact .inl (.inl e)
  · exact .inl (.inr ⟨ob, e⟩)
  · exact .inr h

section
variable [Cfg] (K : PySem.W.Frag) (ρ : Nat → Addr) (n0 : Nat) (L : Addr → Prop) (H : Hp)
mutual
def Rep : D → V → Prop
  | .non, v => v = .non
  | .bl b, v => v = .bl b
  | .int i, v => v = .int i
  | .str x, v => v = .str x
  | .lst ds, v => ∃ a vs, v = .ref a ∧ FzL K L H a vs ∧ Reps ds vs
  | .tup ds, v => ∃ a vs, v = .ref a ∧ H a = some (.tup vs) ∧ Reps ds vs
  | .loc n, v => v = .ref (ρ n) ∧ n < n0
  | .dct k ks ds, v => ∃ a vs, v = .ref a ∧ FzD L H a k ks vs ∧ Reps ds vs
  | .ins _ _ _, _ => False
def Reps : List D → List V → Prop
  | [], vs => vs = []
  | d :: ds, vs => ∃ v r, vs = v :: r ∧ Rep d v ∧ Reps ds r
end
end

theorem Reps.length [Cfg] {K : PySem.W.Frag} {ρ : Nat → Addr} {n0 : Nat} {L : Addr → Prop} {H : Hp} : ∀ {ds : List D} {vs : List V}, Reps K ρ n0 L H ds vs → vs.length = ds.length
  | [], _, h => by rw [show _ = [] from h]; rfl
  | d :: ds, vs, h => by
    obtain ⟨v, r, rfl, _, h2⟩ := h
    rw [List.length_cons, List.length_cons, Reps.length h2]

/-- what of H another one must keep for the data over it -/
structure Keep (ρ : Nat → Addr) (n0 : Nat) (L : Addr → Prop) (H : Hp) (ρ' : Nat → Addr) (n0' : Nat) (L' : Addr → Prop) (H' : Hp) : Prop where
  rho : ∀ n, n < n0 → ρ' n = ρ n
  sz : n0 ≤ n0'
  at_ : ∀ a o, H a = some o → ¬ L a → H' a = some o ∧ ¬ L' a
  tup : ∀ a o, H a = some o → L a → ¬ Imm o

section
variable [Cfg] {K : PySem.W.Frag} {ρ ρ' : Nat → Addr} {n0 n0' : Nat} {L L' : Addr → Prop} {H H' : Hp}
theorem Keep.fz (k : Keep ρ n0 L H ρ' n0' L' H') {a : Addr} {vs : List V} (h : FzL K L H a vs) : FzL K L' H' a vs := by
  rcases h with ⟨o, e, l, q⟩ | h
  · obtain ⟨e', l'⟩ := k.at_ a o e l
    exact .inl ⟨o, e', l', q⟩
  · exact .inr h
theorem Keep.sqT (k : Keep ρ n0 L H ρ' n0' L' H') {a : Addr} {vs : List V} (h : SqT K H a vs) : SqT K H' a vs := by
  rcases h with (h | ⟨o, h⟩) | h
  · by_cases l : L a
    · exact absurd (.inl ⟨vs, rfl⟩) (k.tup a _ h l)
    · exact .inl (.inl (k.at_ a _ h l).1)
  · by_cases l : L a
    · exact absurd (.inr (.inl ⟨o, vs, rfl⟩)) (k.tup a _ h l)
    · exact .inl (.inr ⟨o, (k.at_ a _ h l).1⟩)
  · exact .inr h
theorem Keep.tups (k : Keep ρ n0 L H ρ' n0' L' H') {a : Addr} {xs : List V} (h : H a = some (.tup xs)) : H' a = some (.tup xs) := by
  by_cases l : L a
  · exact absurd (.inl ⟨xs, rfl⟩) (k.tup a _ h l)
  · exact (k.at_ a _ h l).1
theorem Keep.owns (k : Keep ρ n0 L H ρ' n0' L' H') {a x : Addr} (h : H a = some (.own x)) : H' a = some (.own x) := by
  by_cases l : L a
  · exact absurd (.inr (.inr ⟨x, rfl⟩)) (k.tup a _ h l)
  · exact (k.at_ a _ h l).1
theorem Keep.fzD (k : Keep ρ n0 L H ρ' n0' L' H') {a : Addr} {t : Nat} {ks : List D} {vs : List V} (h : FzD L H a t ks vs) : FzD L' H' a t ks vs := by
  obtain ⟨o, e, l, q⟩ := h
  obtain ⟨e', l'⟩ := k.at_ a o e l
  exact ⟨o, e', l', q⟩
mutual
theorem Rep.keep (k : Keep ρ n0 L H ρ' n0' L' H') : ∀ {d : D} {v : V}, Rep K ρ n0 L H d v → Rep K ρ' n0' L' H' d v
  | .non, _, h => h
  | .bl _, _, h => h
  | .int _, _, h => h
  | .str _, _, h => h
  | .lst ds, _, h => by
    obtain ⟨a, vs, rfl, h1, h2⟩ := h
    exact ⟨a, vs, rfl, k.fz h1, Reps.keep k h2⟩
  | .tup ds, _, h => by
    obtain ⟨a, vs, rfl, h1, h2⟩ := h
    exact ⟨a, vs, rfl, k.tups h1, Reps.keep k h2⟩
  | .loc n, _, h => by
    obtain ⟨h1, h2⟩ := h
    exact ⟨by rw [k.rho n h2]; exact h1, Nat.lt_of_lt_of_le h2 k.sz⟩
  | .dct t ks ds, _, h => by
    obtain ⟨a, vs, rfl, h1, h2⟩ := h
    exact ⟨a, vs, rfl, k.fzD h1, Reps.keep k h2⟩
  | .ins _ _ _, _, h => h.elim
theorem Reps.keep (k : Keep ρ n0 L H ρ' n0' L' H') : ∀ {ds : List D} {vs : List V}, Reps K ρ n0 L H ds vs → Reps K ρ' n0' L' H' ds vs
  | [], _, h => h
  | d :: ds, _, h => by
    obtain ⟨v, r, rfl, h1, h2⟩ := h
    exact ⟨v, r, rfl, Rep.keep k h1, Reps.keep k h2⟩
end
end

/-! ### the state of a def -/
/-- the cells that live -/
def Live (ρ : Nat → Addr) (S : Store) (a : Addr) : Prop := ∃ (n : Nat) (d : D), S[n]? = some (Cell.o d) ∧ ρ n = a
/-- the objects of slots -/
def Own (env : Env) (σ : St) (a : Addr) : Prop := ∃ (i : Nat) (d : D), env[i]? = some (Slot.own d) ∧ σ[i]? = some (some (V.ref a))
/-- what may change, or belongs to those around -/
def Ch (A : Addr → Prop) (ρ : Nat → Addr) (σ : St) (st : Sta) (a : Addr) : Prop := A a ∨ Live ρ st.S a ∨ Own st.env σ a

/-- what an object at a holds -/
def ContO [Cfg] (K : PySem.W.Frag) (ρ : Nat → Addr) (n0 : Nat) (L : Addr → Prop) (H : Hp) (a : Addr) (o : HO) : D → Prop
  | .lst ds => ∃ vs, o = .lst vs ∧ Reps K ρ n0 L H ds vs
  | .dct k ks ds => ∃ vs, IsDct k o ks vs ∧ Reps K ρ n0 L H ds vs
  | .ins c ns ds => ∃ dx fs, o = .ins (Cfg.cA c) dx fs ∧ H dx = some (.own a) ∧ fs.map (·.1) = ns.map Cfg.aN ∧ Reps K ρ n0 L H ds (fs.map (·.2))
  | _ => False
/-- an object of a slot or cell: its content -/
def Cont [Cfg] (K : PySem.W.Frag) (ρ : Nat → Addr) (n0 : Nat) (L : Addr → Prop) (H : Hp) (a : Addr) (d : D) : Prop := ∃ o, H a = some o ∧ ContO K ρ n0 L H a o d
section
variable [Cfg] {K : PySem.W.Frag} {ρ ρ' : Nat → Addr} {n0 n0' : Nat} {L L' : Addr → Prop} {H H' : Hp} {a : Addr} {o : HO}
theorem ContO.keep (k : Keep ρ n0 L H ρ' n0' L' H') : ∀ {d : D}, ContO K ρ n0 L H a o d → ContO K ρ' n0' L' H' a o d
  | .lst _, ⟨vs, z, q⟩ => ⟨vs, z, Reps.keep k q⟩
  | .dct _ _ _, ⟨vs, q, q2⟩ => ⟨vs, q, Reps.keep k q2⟩
  | .ins _ _ _, ⟨dx, fs, z, q, q1, q2⟩ => ⟨dx, fs, z, k.owns q, q1, Reps.keep k q2⟩
  | .non, z => z.elim
  | .bl _, z => z.elim
  | .int _, z => z.elim
  | .str _, z => z.elim
  | .tup _, z => z.elim
  | .loc _, z => z.elim
theorem ContO.imm : ∀ {d : D}, ContO K ρ n0 L H a o d → ¬ Imm o
  | .lst _, ⟨vs, z, _⟩ => by rw [z]; exact imm_lst
  | .dct _ _ _, ⟨vs, q, _⟩ => q.imm
  | .ins _ _ _, ⟨dx, fs, z, _⟩ => by rw [z]; rintro (⟨_, h⟩ | ⟨_, _, h⟩ | ⟨_, h⟩) <;> cases h
  | .non, z => z.elim
  | .bl _, z => z.elim
  | .int _, z => z.elim
  | .str _, z => z.elim
  | .tup _, z => z.elim
  | .loc _, z => z.elim
theorem Cont.keep (k : Keep ρ n0 L H ρ' n0' L' H') (h : ∀ o, H a = some o → H' a = some o) {d : D} (c : Cont K ρ n0 L H a d) : Cont K ρ' n0' L' H' a d :=
  let ⟨o, e, q⟩ := c; ⟨o, h o e, q.keep k⟩
theorem Cont.at_ {d : D} (c : Cont K ρ n0 L H a d) : ∃ o, H a = some o ∧ ¬ Imm o := let ⟨o, e, q⟩ := c; ⟨o, e, q.imm⟩
theorem Cont.lst {ds : List D} : Cont K ρ n0 L H a (.lst ds) ↔ ∃ vs, H a = some (.lst vs) ∧ Reps K ρ n0 L H ds vs :=
  ⟨fun ⟨_, e, vs, z, q⟩ => ⟨vs, by rw [← z]; exact e, q⟩, fun ⟨vs, e, q⟩ => ⟨_, e, vs, rfl, q⟩⟩
end

structure Rel [Cfg] (K : PySem.W.Frag) (A : Addr → Prop) (ρ : Nat → Addr) (σ : St) (H : Hp) (st : Sta) : Prop where
  len : st.env.length = σ.length
  val : ∀ (i : Nat) (d : D), st.env[i]? = some (Slot.val d) → ∃ v, σ[i]? = some (some v) ∧ Rep K ρ st.S.length (Ch A ρ σ st) H d v
  own : ∀ (i : Nat) (d : D), st.env[i]? = some (Slot.own d) → ∃ a, σ[i]? = some (some (V.ref a)) ∧ ¬ A a ∧ Cont K ρ st.S.length (Ch A ρ σ st) H a d
  cell : ∀ (n : Nat) (d : D), st.S[n]? = some (Cell.o d) → ¬ A (ρ n) ∧ Cont K ρ st.S.length (Ch A ρ σ st) H (ρ n) d
  tr : ∀ a, A a → ∃ o, H a = some o ∧ ¬ Imm o
  oo : ∀ (i j : Nat) (d e : D) (a : Addr), st.env[i]? = some (Slot.own d) → st.env[j]? = some (Slot.own e) → σ[i]? = some (some (V.ref a)) → σ[j]? = some (some (V.ref a)) → i = j
  cc : ∀ (m n : Nat) (xs ys : D), st.S[m]? = some (Cell.o xs) → st.S[n]? = some (Cell.o ys) → ρ m = ρ n → m = n
  oc : ∀ (i : Nat) (d : D) (n : Nat) (xs : D), st.env[i]? = some (Slot.own d) → st.S[n]? = some (Cell.o xs) → σ[i]? ≠ some (some (V.ref (ρ n)))
  ob : ∀ (i : Nat) (d : D), st.env[i]? = some (Slot.own d) → d.obj = true

/-- from one state to a later one of the same def -/
structure Fr (A : Addr → Prop) (ρ : Nat → Addr) (σ : St) (H : Hp) (st : Sta) (ρ' : Nat → Addr) (σ' : St) (H' : Hp) (st' : Sta) : Prop where
  rho : ∀ n, n < st.S.length → ρ' n = ρ n
  sz : st.S.length ≤ st'.S.length
  at_ : ∀ a o, H a = some o → ¬ Live ρ st.S a → ¬ Own st.env σ a → H' a = some o
  free : ∀ a, H' a = none → H a = none
  live : ∀ a, Live ρ' st'.S a → Live ρ st.S a ∨ Own st.env σ a ∨ H a = none
  own : ∀ a, Own st'.env σ' a → Own st.env σ a ∨ H a = none
  busy : ∀ i : Nat, st'.env[i]? = some Slot.busy → st.env[i]? = some Slot.busy ∧ σ'[i]? = σ[i]?

section
variable [Cfg] {K : PySem.W.Frag} {A : Addr → Prop} {ρ ρ' ρ2 : Nat → Addr} {σ σ' σ2 : St} {H H' H2 : Hp} {st st' st2 : Sta}
theorem Fr.refl : Fr A ρ σ H st ρ σ H st := ⟨fun _ _ => rfl, Nat.le_refl _, fun _ _ e _ _ => e, fun _ e => e, fun _ e => .inl e, fun _ e => .inl e, fun _ e => ⟨e, rfl⟩⟩
theorem Fr.trans (f : Fr A ρ σ H st ρ' σ' H' st') (g : Fr A ρ' σ' H' st' ρ2 σ2 H2 st2) : Fr A ρ σ H st ρ2 σ2 H2 st2 where
  rho := fun n h => (g.rho n (Nat.lt_of_lt_of_le h f.sz)).trans (f.rho n h)
  sz := Nat.le_trans f.sz g.sz
  at_ := fun a o e h1 h2 => g.at_ a o (f.at_ a o e h1 h2) (fun q => (f.live a q).elim h1 fun z => z.elim h2 fun z => by rw [z] at e; cases e) (fun q => (f.own a q).elim h2 fun z => by rw [z] at e; cases e)
  free := fun a e => f.free a (g.free a e)
  live := fun a h => (g.live a h).elim (f.live a) fun z => z.elim (fun z => (f.own a z).elim (fun z => .inr (.inl z)) fun z => .inr (.inr z)) fun z => .inr (.inr (f.free a z))
  own := fun a h => (g.own a h).elim (f.own a) fun z => .inr (f.free a z)
  busy := fun i h => ⟨(f.busy i (g.busy i h).1).1, (g.busy i h).2.trans (f.busy i (g.busy i h).1).2⟩
theorem Rel.liveH (r : Rel K A ρ σ H st) {a : Addr} (h : Live ρ st.S a) : ∃ o, H a = some o ∧ ¬ Imm o := by
  obtain ⟨n, xs, e, rfl⟩ := h
  exact (r.cell n xs e).2.at_
theorem Rel.ownH (r : Rel K A ρ σ H st) {a : Addr} (h : Own st.env σ a) : ∃ o, H a = some o ∧ ¬ Imm o := by
  obtain ⟨i, d, e, q⟩ := h
  obtain ⟨b, q', _, c⟩ := r.own i d e
  rw [q] at q'; cases q'
  exact c.at_
theorem Rel.chH (r : Rel K A ρ σ H st) {a : Addr} (h : Ch A ρ σ st a) : ∃ o, H a = some o ∧ ¬ Imm o := by
  rcases h with h | h | h
  · exact r.tr a h
  · exact r.liveH h
  · exact r.ownH h
theorem Rel.keep (r : Rel K A ρ σ H st) (f : Fr A ρ σ H st ρ' σ' H' st') : Keep ρ st.S.length (Ch A ρ σ st) H ρ' st'.S.length (Ch A ρ' σ' st') H' where
  rho := f.rho
  sz := f.sz
  at_ := fun a o e h => ⟨f.at_ a o e (fun z => h (.inr (.inl z))) fun z => h (.inr (.inr z)), fun q => by
    rcases q with q | q | q
    · exact h (.inl q)
    · exact (f.live a q).elim (fun z => h (.inr (.inl z))) fun z => z.elim (fun z => h (.inr (.inr z))) fun z => by rw [z] at e; cases e
    · exact (f.own a q).elim (fun z => h (.inr (.inr z))) fun z => by rw [z] at e; cases e⟩
  tup := fun a o e h => by
    obtain ⟨o', e', q⟩ := r.chH h
    rw [e] at e'; cases e'
    exact q
/-- data of an earlier state -/
theorem Rel.rep (r : Rel K A ρ σ H st) (f : Fr A ρ σ H st ρ' σ' H' st') {d : D} {v : V} (h : Rep K ρ st.S.length (Ch A ρ σ st) H d v) : Rep K ρ' st'.S.length (Ch A ρ' σ' st') H' d v := Rep.keep (r.keep f) h
theorem Rel.reps (r : Rel K A ρ σ H st) (f : Fr A ρ σ H st ρ' σ' H' st') {d : List D} {v : List V} (h : Reps K ρ st.S.length (Ch A ρ σ st) H d v) : Reps K ρ' st'.S.length (Ch A ρ' σ' st') H' d v := Reps.keep (r.keep f) h

/-- a new object is laid, of which the state knows nothing -/
theorem Fr.laid {p : Addr} {o : HO} (hp : H p = none) : Fr A ρ σ H st ρ σ (upd H p o) st where
  rho := fun _ _ => rfl
  sz := Nat.le_refl _
  at_ := fun a u e _ _ => by rw [upd_ne (ne_of_none e hp)]; exact e
  free := fun a e => by
    by_cases z : a = p
    · subst z; rw [upd_same] at e; cases e
    · rw [upd_ne z] at e; exact e
  live := fun _ e => .inl e
  own := fun _ e => .inl e
  busy := fun _ e => ⟨e, rfl⟩
/-- the state itself, where H is kept but for new objects -/
theorem Rel.of_same (r : Rel K A ρ σ H st) (f : Fr A ρ σ H st ρ σ H' st) (h : ∀ a o, (Live ρ st.S a ∨ Own st.env σ a) → H a = some o → H' a = some o) : Rel K A ρ σ H' st where
  len := r.len
  val := fun i d e => by
    obtain ⟨v, e1, q⟩ := r.val i d e
    exact ⟨v, e1, r.rep f q⟩
  own := fun i d e => by
    obtain ⟨a, e1, na, c⟩ := r.own i d e
    exact ⟨a, e1, na, c.keep (r.keep f) fun o z => h a o (.inr ⟨i, _, e, e1⟩) z⟩
  cell := fun n xs e => by
    obtain ⟨na, c⟩ := r.cell n xs e
    exact ⟨na, c.keep (r.keep f) fun o z => h _ o (.inl ⟨n, xs, e, rfl⟩) z⟩
  tr := fun a ha => by
    obtain ⟨o, e, q⟩ := r.tr a ha
    refine ⟨o, f.at_ a o e (fun z => ?_) (fun z => ?_), q⟩
    · obtain ⟨n, xs, e1, rfl⟩ := z; exact (r.cell n xs e1).1 ha
    · obtain ⟨i, d, e1, e2⟩ := z
      obtain ⟨b, q', nb, _⟩ := r.own i d e1
      rw [e2] at q'; cases q'
      exact nb ha
  oo := r.oo
  cc := r.cc
  oc := r.oc
  ob := r.ob
theorem Rel.laid (r : Rel K A ρ σ H st) {p : Addr} {o : HO} (hp : H p = none) : Rel K A ρ σ (upd H p o) st :=
  r.of_same (Fr.laid hp) fun a o _ e => by rw [upd_ne (ne_of_none e hp)]; exact e
end

/-! ### outcomes -/
inductive Out (α : Type) where
  | ok (a : α) (st : Sta) | bad
def Out.bind {α β : Type} (o : Out α) (f : α → Sta → Out β) : Out β :=
  match o with
  | .ok a st => f a st
  | .bad => .bad
@[simp] theorem Out.ok_bind {α β : Type} (a : α) (st : Sta) (f : α → Sta → Out β) : (Out.ok a st).bind f = f a st := rfl
@[simp] theorem Out.bad_bind {α β : Type} (f : α → Sta → Out β) : (Out.bad : Out α).bind f = .bad := rfl
theorem Out.bind_ok {α β : Type} {o : Out α} {f : α → Sta → Out β} {b : β} {st : Sta} (h : o.bind f = .ok b st) : ∃ a s1, o = .ok a s1 ∧ f a s1 = .ok b st := by
  cases o with
  | ok a s1 => exact ⟨a, s1, rfl, h⟩
  | bad => cases h
end Gp

/-! Gp, part B: a small language, told by evaluation. -/
namespace Gp
open PySem L2

inductive BOp where
  | add | sub | mul | fdiv | mod | shl | shr | band | bor | bxor | pow
  deriving DecidableEq
inductive COp where
  | eq | ne | lt | le | gt | ge | isn | notn | inn | notin
  deriving DecidableEq
inductive Ty where
  | int | bool | str | list | tuple | dict
  deriving DecidableEq
inductive B1 where
  | len | all | any | list | sum | int | abs | tuple | maxl | minl | sorted | dict | str
  deriving DecidableEq
inductive B2 where
  | min | max
  deriving DecidableEq
inductive Me where
  | append | pop0 | pop | index | clear | insert | reverse
  deriving DecidableEq

mutual
inductive E where
  | var (i : Nat)
  | mv (i : Nat)
  | cst (d : D)
  | bin (op : BOp) (a b : E)
  | neg (a : E)
  | cmp (op : COp) (a b : E)
  | chain (o1 o2 : COp) (a b c : E)
  | and (a b : E)
  | or (a b : E)
  | not (a : E)
  | ife (c : C) (a b : E)
  | sub (a b : E)
  | cut (a : E) (lo hi : Option E)
  | back (a : E)
  | tup (es : List E)
  | lst (es : List E)
  | rep (es : List E) (k : E)
  | call (f : Nat) (es : List E)
  | pcall (f : Nat) (es : List E)
  | b1 (b : B1) (a : E)
  | b2 (b : B2) (a c : E)
  | lrange (a b : E)
  | lrange1 (b : E)
  | isi (t : Ty) (a : E)
  | meth (m : Me) (o : E) (es : List E)
  | ext (o e : E)
  | comp (e : E) (g : G) (it : I) (cs : List C) (own : List Nat)
  | glob (x : Str) (d : D)
  | new (e : E)
  | dct0 (k : Nat)
  | dget (o k : E)
  | dgetd (o k d : E)
  | fld (o : E) (n : Nat) (cs : List Nat)
  | make (c f : Nat) (es : List E)
  | mcall (o : E) (m : Str) (es : List E) (ds : List (Nat × Nat))
  | tcall (f : Nat) (es : List E)
  | tmcall (o : E) (m : Str) (es : List E) (ds : List (Nat × Nat))
  | mmd (mx : Bool) (a d : E)
  | dctl (es : List E)
/-- tests -/
inductive C where
  | and (a b : C)
  | or (a b : C)
  | not (a : C)
  | val (e : E)
inductive G where
  | name (i : Nat)
  | tup (gs : List G)
  | sub (o i : E)
inductive I where
  | seq (e : E)
  | range (a b : E)
  | range1 (a : E)
  | enum (e : E)
  | zip (a b : E)
  | rev (e : E)
end
inductive S where
  | set (i : Nat) (e : E) (own : Bool)
  | asg (g : G) (e : E)
  | aug (i : Nat) (op : BOp) (e : E)
  | ex (e : E)
  | ret (e : E) (fr : Bool)
  | retN
  | ite (c : C) (a b : List S)
  | «for» (g : G) (it : I) (body : List S)
  | forO (i : Nat) (g : G) (body : List S)
  | wh (c : C) (body : List S)
  | pass | brk | cont
  | fset (o : E) (n : Nat) (cs : List Nat) (e : E)
  | never
structure Def where
  name : Str
  np : Nat
  ns : Nat
  body : List S
  fr : Bool

/-! ### values -/
/-- an operand: data, or the object at a slot -/
inductive T where
  | v (d : D) | slot (i : Nat)
def look (t : T) (st : Sta) : Option D :=
  let d := match t with
    | .v d => some d
    | .slot i => (match st.env[i]? with
      | some (.val d) => some d
      | some (.own d) => some d
      | _ => none)
  match d with
  | some (.loc n) => (match st.S[n]? with
    | some (.o c) => some c
    | _ => none)
  | d => d
/-- of one kind -/
def D.like : D → D → Bool
  | .lst _, .lst _ => true
  | .dct k _ _, .dct l _ _ => k == l
  | .ins c _ _, .ins d _ _ => c == d
  | _, _ => false
/-- an object changed -/
def put (t : T) (d : D) (st : Sta) : Option Sta :=
  let loc := fun n => match st.S[n]? with
    | some (.o c) => if D.like c d then some { st with S := st.S.set n (.o d) } else none
    | _ => none
  match t with
  | .v (.loc n) => loc n
  | .slot i => (match st.env[i]? with
    | some (.val (.loc n)) => loc n
    | some (.own c) => if D.like c d then some { st with env := st.env.set i (.own d) } else none
    | _ => none)
  | _ => none

def D.flat : D → Bool
  | .lst _ | .tup _ | .loc _ | .dct _ _ _ | .ins _ _ _ => false
  | _ => true
def freeze (t : T) (env : Env) : Env :=
  match t with
  | .slot i => (match env[i]? with
    | some (.own d) => env.set i (.val d)
    | _ => env)
  | .v _ => env
def freezes (ts : List T) (env : Env) : Env := ts.foldl (fun e t => freeze t e) env
def mask (S : Store) : Store := S.map fun _ => .dead

mutual
/-- its cells are among the first n -/
def D.bel (n : Nat) : D → Bool
  | .lst ds => D.bels n ds
  | .tup ds => D.bels n ds
  | .loc m => decide (m < n)
  | .dct _ ks vs => D.bels n ks && D.bels n vs
  | .ins _ _ vs => D.bels n vs
  | _ => true
def D.bels (n : Nat) : List D → Bool
  | [] => true
  | d :: ds => D.bel n d && D.bels n ds
end
/-! ### dicts -/
/-- what may be a key: of the kind 0 a whole number or a text, of the kind 1 a tuple of such -/
def keyOk (k : Nat) (d : D) : Bool := match k, d with
  | 0, .int _ => true
  | 0, .str _ => true
  | 1, .tup ds => ds.all fun d => match d with
    | .int _ => true
    | .str _ => true
    | _ => false
  | _, _ => false
def dgetL : List D → List D → D → Option D
  | k :: ks, v :: vs, x => if D.beq k x then some v else dgetL ks vs x
  | _, _, _ => none
def dsetL : List D → List D → D → D → List D
  | k :: ks, v :: vs, x, d => (if D.beq k x then d else v) :: dsetL ks vs x d
  | _, vs, _, _ => vs
def dputL (ks vs : List D) (x d : D) : List D × List D := if ks.any (fun k => D.beq k x) then (ks, dsetL ks vs x d) else (ks ++ [x], vs ++ [d])
/-- pairs put behind one another -/
def dmerge : List D → List D × List D → Option (List D × List D)
  | [], acc => some acc
  | .tup [k, v] :: r, acc => if keyOk 0 k then dmerge r (dputL acc.1 acc.2 k v) else none
  | _ :: _, _ => none
/-- attributes -/
def fgetL : List Nat → List D → Nat → Option D
  | n :: ns, v :: vs, x => if n = x then some v else fgetL ns vs x
  | _, _, _ => none
def fputL : List Nat → List D → Nat → D → List Nat × List D
  | n :: ns, v :: vs, x, d => if n = x then (n :: ns, d :: vs) else ((n :: (fputL ns vs x d).1), (v :: (fputL ns vs x d).2))
  | _, _, x, d => ([x], [d])

def bigI (i : Int) : Prop := -(2 ^ 64) < i ∧ i < 2 ^ 64
/-- (no unifier is to count up to such bounds) -/
noncomputable instance (i : Int) : Decidable (bigI i) := Classical.propDecidable _

def wideI (i : Int) : Prop := i.natAbs < 2 ^ 250
noncomputable instance (i : Int) : Decidable (wideI i) := Classical.propDecidable _
def fdOk (j : Int) : Prop := 0 < j ∧ j < 1073741824
noncomputable instance (j : Int) : Decidable (fdOk j) := Classical.propDecidable _
def shOk (i j : Int) : Prop := 0 ≤ j ∧ j ≤ 1000000 ∧ i.natAbs < 2 ^ 64
noncomputable instance (i j : Int) : Decidable (shOk i j) := Classical.propDecidable _
def rpOk (n : Nat) (k : Int) : Prop := -(2 ^ 63) ≤ k ∧ k < 2 ^ 63 ∧ n * k.toNat ≤ 1000000
noncomputable instance (n : Nat) (k : Int) : Decidable (rpOk n k) := Classical.propDecidable _

noncomputable section
def intF (op : BOp) (i j : Int) : Option Int :=
  match op with
  | .add => some (i + j)
  | .sub => some (i - j)
  | .mul => if bigI i ∨ bigI j ∨ (wideI i ∧ wideI j) then some (i * j) else none
  | .fdiv => if fdOk j then some (i / j) else none
  | .mod => if 0 < j then some (i % j) else none
  | .shl => if shOk i j then some (i * 2 ^ j.toNat) else none
  | .shr => if 0 ≤ j then some (i / 2 ^ j.toNat) else none
  | .band => some (Builtin.bitAnd i j)
  | .bor => some (Builtin.bitOr i j)
  | .bxor => some (Builtin.bitXor i j)
  | .pow => if shOk i j then some (i ^ j.toNat) else none
def binF (op : BOp) (a b : D) : Option D :=
  match a, b with
  | .int i, .int j => (intF op i j).map .int
  | .lst xs, .lst ys => if op = .add ∧ xs.length + ys.length ≤ 1000000 then some (.lst (xs ++ ys)) else none
  | _, _ => none
def repF (xs : List D) (k : Int) : Option D :=
  if rpOk xs.length k then some (.lst ((List.replicate k.toNat xs).flatten)) else none

/-! ### == -/
mutual
def D.pd : D → Option PyData
  | .non => some .none
  | .bl b => some (.bool b)
  | .int i => some (.int i)
  | .str x => some (.str x)
  | .lst ds => (D.pds ds).map .list
  | .tup ds => (D.pds ds).map .tuple
  | .loc _ => none
  | .dct _ _ _ => none
  | .ins _ _ _ => none
def D.pds : List D → Option (List PyData)
  | [] => some []
  | d :: ds => match D.pd d, D.pds ds with
    | some e, some es => some (e :: es)
    | _, _ => none
end
mutual
def D.eqv : D → D → Bool
  | .non, .non => true
  | .bl a, .bl b => a == b
  | .bl a, .int j => (if a then 1 else 0) == j
  | .int i, .bl b => i == (if b then 1 else 0)
  | .int i, .int j => i == j
  | .str x, .str y => x == y
  | .lst xs, .lst ys => D.eqvs xs ys
  | .tup xs, .tup ys => D.eqvs xs ys
  | _, _ => false
def D.eqvs : List D → List D → Bool
  | [], [] => true
  | x :: xs, y :: ys => D.eqv x y && D.eqvs xs ys
  | _, _ => false
end
mutual
/-- data without cells that is at most so many things deep -/
def D.deep : Nat → D → Bool
  | 0, .lst _ => false
  | 0, .tup _ => false
  | n + 1, .lst ds => D.deeps n ds
  | n + 1, .tup ds => D.deeps n ds
  | _, .str x => PyData.strOk x
  | _, .loc _ => false
  | _, .dct _ _ _ => false
  | _, .ins _ _ _ => false
  | _, _ => true
def D.deeps : Nat → List D → Bool
  | _, [] => true
  | n, d :: ds => D.deep n d && D.deeps n ds
end

def ordF (op : COp) (i j : Int) : Option Bool :=
  match op with
  | .lt => some (decide (i < j))
  | .le => some (decide (i ≤ j))
  | .gt => some (decide (j < i))
  | .ge => some (decide (j ≤ i))
  | _ => none
def D.isNon : D → Bool
  | .non => true
  | _ => false
/-- things that compare at once -/
def D.plain1 : D → Bool
  | .non | .bl _ | .int _ | .str _ => true
  | _ => false
/-- whether a thing is in another one -/
def inF (a b : D) : Option Bool := match b with
  | .dct k ks vs => if keyOk k a then some (dgetL ks vs a).isSome else none
  | .lst xs => if a.deep 60 && D.deeps 60 xs then some (xs.any fun z => D.eqv z a) else none
  | .tup xs => if a.plain1 && xs.all D.plain1 then some (xs.any fun z => D.eqv z a) else none
  | _ => none
def isF (a b : D) : Option Bool := match b, a with
  | .non, a => some a.isNon
  | .bl k, .bl j => some (j == k)
  | _, _ => none
def cmpF (op : COp) (a b : D) : Option D :=
  match op with
  | .eq => if a.deep 60 && b.deep 60 then some (.bl (D.eqv a b)) else none
  | .ne => if a.deep 60 && b.deep 60 then some (.bl (!D.eqv a b)) else none
  | .isn => (isF a b).map .bl
  | .notn => (isF a b).map fun k => .bl (!k)
  | .inn => (inF a b).map .bl
  | .notin => (inF a b).map fun k => .bl (!k)
  | op => match a, b with
    | .int i, .int j => (ordF op i j).map .bl
    | _, _ => none

def truth : D → Option Bool
  | .non => some false
  | .bl b => some b
  | .int i => some (i != 0)
  | .lst xs => some (!xs.isEmpty)
  | .tup xs => some (!xs.isEmpty)
  | _ => none

/-- a place, from the end where it is below nought -/
def place (n : Nat) (i : Int) : Option Nat :=
  if 0 ≤ i then (if i < n then some i.toNat else none) else (if -(n : Int) ≤ i then some (i + n).toNat else none)
def itemF (a b : D) : Option D :=
  match a, b with
  | .lst xs, .int i => (place xs.length i).bind fun k => xs[k]?
  | .tup xs, .int i => (place xs.length i).bind fun k => xs[k]?
  | .dct k ks vs, x => if keyOk k x then dgetL ks vs x else none
  | _, _ => none

def D.ints : List D → Option (List Int)
  | [] => some []
  | .int i :: r => (D.ints r).map fun is => i :: is
  | _ => none
def D.bls : List D → Option (List Bool)
  | [] => some []
  | .bl i :: r => (D.bls r).map fun is => i :: is
  | _ => none
/-- the greatest, the least, the row in order -/
def maxI : List Int → Option Int
  | [] => none
  | i :: is => some (is.foldl (fun m j => if m < j then j else m) i)
def minI : List Int → Option Int
  | [] => none
  | i :: is => some (is.foldl (fun m j => if j < m then j else m) i)
def insI (i : Int) : List Int → List Int
  | [] => [i]
  | j :: js => if i ≤ j then i :: j :: js else j :: insI i js
def sortI (is : List Int) : List Int := is.foldr insI []
/-- few enough bits for a text -/
def strI (i : Int) : Prop := i.natAbs.log2 < 1920
noncomputable instance (i : Int) : Decidable (strI i) := Classical.propDecidable _
/-- max, min with a default -/
def mmF (mx : Bool) (a d : D) : Option D := match a with
  | .lst xs => (D.ints xs).map fun is => match (if mx then maxI is else minI is) with
    | some i => .int i
    | none => d
  | _ => none
/-- keys and values by turns, put behind one another -/
def dpairs : List D → List D × List D → Option D
  | [], acc => some (.dct 0 acc.1 acc.2)
  | k :: v :: r, acc => if keyOk 0 k then dpairs r (dputL acc.1 acc.2 k v) else none
  | [_], _ => none
def b1F (b : B1) (a : D) : Option D :=
  match b, a with
  | .len, .lst xs => some (.int xs.length)
  | .len, .tup xs => some (.int xs.length)
  | .len, .dct 0 ks _ => some (.int ks.length)
  | .dict, .lst xs => (dmerge xs ([], [])).map fun p => .dct 0 p.1 p.2
  | .all, .lst xs => (D.bls xs).map fun bs => .bl (bs.all id)
  | .any, .lst xs => (D.bls xs).map fun bs => .bl (bs.any id)
  | .list, .lst xs => some (.lst xs)
  | .list, .tup xs => some (.lst xs)
  | .sum, .lst xs => (D.ints xs).map fun is => .int is.sum
  | .int, .int i => some (.int i)
  | .int, .bl k => some (.int (if k then 1 else 0))
  | .tuple, .lst xs => some (.tup xs)
  | .tuple, .tup xs => some (.tup xs)
  | .maxl, .lst xs => (D.ints xs).bind fun is => (maxI is).map .int
  | .minl, .lst xs => (D.ints xs).bind fun is => (minI is).map .int
  | .sorted, .lst xs => (D.ints xs).bind fun is => if is.length < 64 then some (.lst ((sortI is).map .int)) else none
  | .abs, .int i => some (.int (if i < 0 then -i else i))
  | .str, .int i => if strI i then some (.str (Str.ofString (toString i))) else none
  | _, _ => none
def b2F (b : B2) (a c : D) : Option D :=
  match b, a, c with
  | .min, .int i, .int j => some (.int (if j < i then j else i))
  | .max, .int i, .int j => some (.int (if j > i then j else i))
  | _, _, _ => none
def rangeL (a b : Int) : List D := (List.range (b - a).toNat).map fun (k : Nat) => D.int (a + (k : Int))
def smallI (i : Int) : Prop := -(2 ^ 40) ≤ i ∧ i < 2 ^ 40
noncomputable instance (i : Int) : Decidable (smallI i) := Classical.propDecidable _
def isiF : Ty → D → Option Bool
  | _, .loc _ => none
  | .dict, .dct _ _ _ => some true
  | _, .ins _ _ _ => none
  | .int, .int _ => some true
  | .int, .bl _ => some true
  | .bool, .bl _ => some true
  | .str, .str _ => some true
  | .list, .lst _ => some true
  | .tuple, .tup _ => some true
  | _, _ => some false
def sIx (n d : Nat) : Option Int → Nat
  | none => d
  | some v => if v < 0 then (v + (n : Int)).toNat else min v.toNat n
def cutD (xs : List D) (lo hi : Option Int) : List D := (xs.drop (sIx xs.length 0 lo)).take (sIx xs.length xs.length hi - sIx xs.length 0 lo)
def cutF (a : D) (lo hi : Option Int) : Option D :=
  match a with
  | .lst xs => some (.lst (cutD xs lo hi))
  | .tup xs => if sIx xs.length 0 lo = 0 ∧ sIx xs.length xs.length hi = xs.length then none else some (.tup (cutD xs lo hi))
  | _ => none
/-- a method of a list: what it tells, and the list behind it -/
def mAppend (xs : List D) : List D → Option (D × Option (List D))
  | [e] => if xs.length < 1000000 then some (.non, some (xs ++ [e])) else none
  | _ => none
def mPop0 (xs : List D) : List D → Option (D × Option (List D))
  | [] => (match xs[xs.length - 1]? with
    | some x => some (x, some xs.dropLast)
    | none => none)
  | _ => none
def mPop (xs : List D) : List D → Option (D × Option (List D))
  | [.int i] => if 0 ≤ i ∧ i < 2 ^ 63 then (match xs[i.toNat]? with
    | some x => some (x, some (xs.eraseIdx i.toNat))
    | none => none) else none
  | _ => none
def mClear (_ : List D) : List D → Option (D × Option (List D))
  | [] => some (.non, some [])
  | _ => none
def mIndex (xs : List D) : List D → Option (D × Option (List D))
  | [.int i] => (match D.ints xs with
    | some is => (if i ∈ is then some (.int (is.idxOf i : Nat), none) else none)
    | none => none)
  | _ => none
def mInsert (xs : List D) : List D → Option (D × Option (List D))
  | [.int i, d] => if 0 ≤ i ∧ i < 2 ^ 63 ∧ xs.length < 1000000 then some (.non, some (xs.take i.toNat ++ [d] ++ xs.drop i.toNat)) else none
  | _ => none
def mReverse (xs : List D) : List D → Option (D × Option (List D))
  | [] => some (.non, some xs.reverse)
  | _ => none
def methF (m : Me) : List D → List D → Option (D × Option (List D)) :=
  match m with
  | .append => mAppend
  | .pop0 => mPop0
  | .pop => mPop
  | .clear => mClear
  | .index => mIndex
  | .insert => mInsert
  | .reverse => mReverse

abbrev CallF := Nat → List D → Store → Option (D × Store)
def ofO (o : Option D) (st : Sta) : Out D := match o with
  | some d => .ok d st
  | none => .bad

def setName (i : Nat) (d : D) (st : Sta) : Sta := { st with env := st.env.set i (.val d) }
def wipeE (env : Env) (own : List Nat) : Env := own.foldr (fun i e => e.set i .no) env
/-- a comprehension's own names behind it: as they were -/
def unSlot (old : Env) (i : Nat) : Slot := match old[i]? with
  | some (.val d) => .val d
  | _ => .no
def unwipe (old env : Env) (own : List Nat) : Env := own.foldr (fun i e => e.set i (unSlot old i)) env

/-- a value is handed on: an object of a slot is nobody's own any more -/
def leak (t : T) (st : Sta) : Out D :=
  match t with
  | .v d => .ok d st
  | .slot i => (match st.env[i]? with
    | some (.val d) => .ok d st
    | some (.own d) => .ok d { st with env := st.env.set i (.val d) }
    | _ => .bad)
def lk (o : Out T) : Out D := o.bind leak
def vO (d : D) (st : Sta) : Out T := .ok (.v d) st
def vF (o : Option D) (st : Sta) : Out T := match o with
  | some d => .ok (.v d) st
  | none => .bad
def intO (o : Out D) : Out Int := o.bind fun x s1 => (match x with
    | .int i => .ok i s1
    | _ => .bad)
def two (a b : Sta → Out T) (f : D → D → Option D) (st : Sta) : Out T :=
  (a st).bind fun x s1 => (b s1).bind fun y s2 => match look x s2, look y s2 with
    | some d, some e => vF (f d e) s2
    | _, _ => .bad
/-- what is handed to a def that asks the store nothing -/
def lent (t : T) (st : Sta) : Option D := match t with
  | .v d => some d
  | .slot i => (match st.env[i]? with
    | some (.val d) => some d
    | some (.own d) => some d
    | _ => none)
def lents : List T → Sta → Option (List D)
  | [], _ => some []
  | t :: ts, st => (match lent t st, lents ts st with
    | some d, some ds => some (d :: ds)
    | _, _ => none)
def callO (cl : CallF) (f : Nat) (xs : List D) (st : Sta) : Out T := match cl f xs st.S with
    | some (d, S') => .ok (.v d) { st with S := S' }
    | none => .bad
def pcallO (cl : CallF) (f : Nat) (ts : List T) (st : Sta) : Out T := match lents ts st with
    | some ds => (match cl f ds (mask st.S) with
      | some (d, _) => if d.bel 0 = true then .ok (.v d) (if d.flat then st else { st with env := freezes ts st.env }) else .bad
      | none => .bad)
    | none => .bad
def methO (m : Me) (x : T) (ds : List D) (st : Sta) : Out T := match look x st with
    | some (.lst xs) => (match methF m xs ds with
      | some (d, none) => .ok (.v d) st
      | some (d, some ys) => (match put x (.lst ys) st with
        | some s3 => .ok (.v d) s3
        | none => .bad)
      | none => .bad)
    | _ => .bad
def extO (x : T) (d : D) (st : Sta) : Out T := match look x st, d with
  | some (.lst xs), .lst ys => if xs.length + ys.length ≤ 1000000 then (match put x (.lst (xs ++ ys)) st with
    | some s3 => .ok (.v .non) s3
    | none => .bad) else .bad
  | _, _ => .bad
def setO (x : T) (i d : D) (st : Sta) : Out Unit := match look x st, i with
    | some (.lst xs), .int j => (match place xs.length j with
      | some k => (match put x (.lst (xs.set k d)) st with
        | some s3 => .ok () s3
        | none => .bad)
      | none => .bad)
    | some (.dct k ks vs), i => if keyOk k i ∧ ks.length < 1000000 then (match put x (.dct k (dputL ks vs i d).1 (dputL ks vs i d).2) st with
      | some s3 => .ok () s3
      | none => .bad) else .bad
    | _, _ => .bad
/-- what a look-up tells -/
def dgetF (o k : D) (d : D) : Option D := match o with
  | .dct t ks vs => if keyOk t k then some ((dgetL ks vs k).getD d) else none
  | _ => none
/-- an instance in a cell -/
def insAt (x : D) (st : Sta) : Option (Nat × Nat × List Nat × List D) := match x with
  | .loc m => (match st.S[m]? with
    | some (.o (.ins c ns ds)) => some (m, c, ns, ds)
    | _ => none)
  | _ => none
def Cell.beq : Cell → Cell → Bool
  | .o a, .o b => D.beq a b
  | .dead, .dead => true
  | _, _ => false
def storeB : Store → Store → Bool
  | [], [] => true
  | a :: as, b :: bs => Cell.beq a b && storeB as bs
  | _, _ => false
/-- a call that leaves the cells as they are -/
def tcallO (cl : CallF) (f : Nat) (xs : List D) (st : Sta) : Out T := match cl f xs st.S with
    | some (d, S') => if storeB (S'.take st.S.length) st.S = true ∧ d.bel st.S.length = true then .ok (.v d) st else .bad
    | none => .bad
/-- what is walked and must stay as it is: where it stands, what it holds -/
abbrev Gd := List (T × D)
def gdB (g : Gd) (st : Sta) : Bool := g.all fun p => match look p.1 st with
  | some d => D.beq d p.2
  | none => false
def cellG (n : Nat) (st : Sta) : Out (D × Gd) := match st.S[n]? with
  | some (.o d) => .ok (d, [(.v (.loc n), d)]) st
  | _ => .bad
/-- what is walked; h: a slot's own object is held, else handed over -/
def hold (h : Bool) (t : T) (st : Sta) : Out (D × Gd) := match t with
  | .slot i => (match st.env[i]? with
    | some (.own d) => if h then .ok (d, [(.slot i, d)]) st else .ok (d, []) { st with env := st.env.set i (.val d) }
    | some (.val (.loc n)) => cellG n st
    | some (.val d) => .ok (d, []) st
    | _ => .bad)
  | .v (.loc n) => cellG n st
  | .v d => .ok (d, []) st
/-- the turns of a comprehension -/
def compL (gd : Gd) (tg : D → Sta → Out Unit) (c : Sta → Out Bool) (e : Sta → Out D) (own : List Nat) : List D → List D → Sta → Out (List D)
  | [], acc, st => if gdB gd { st with env := wipeE st.env own } then .ok acc st else .bad
  | d :: ds, acc, st => if gdB gd { st with env := wipeE st.env own } then (tg d { st with env := wipeE st.env own }).bind fun _ s1 => (c s1).bind fun k s2 =>
      if k then (e s2).bind fun x s3 => (if acc.length < 1000000 then compL gd tg c e own ds (acc ++ [x]) s3 else .bad) else compL gd tg c e own ds acc s2
      else .bad

section
variable (cl : CallF)
mutual
def evT : E → Sta → Out T
  | .var i, st => (match st.env[i]? with
    | some (.val _) => .ok (.slot i) st
    | some (.own _) => .ok (.slot i) st
    | _ => .bad)
  | .mv i, st => (match st.env[i]? with
    | some (.own d) => vO d { st with env := st.env.set i .no }
    | _ => .bad)
  | .cst d, st => vO d st
  | .bin op a b, st => two (evT a) (evT b) (binF op) st
  | .neg a, st => (intO (lk (evT a st))).bind fun i s1 => vO (.int (-i)) s1
  | .cmp op a b, st => two (evT a) (evT b) (cmpF op) st
  | .chain o1 o2 a b c, st => (lk (evT a st)).bind fun x s1 => (lk (evT b s1)).bind fun y s2 => match cmpF o1 x y with
    | some (.bl true) => (lk (evT c s2)).bind fun z s3 => vF (cmpF o2 y z) s3
    | some (.bl false) => vO (.bl false) s2
    | _ => .bad
  | .and a b, st => (lk (evT a st)).bind fun x s1 => (match x with
    | .bl true => (lk (evT b s1)).bind vO
    | .bl false => vO (.bl false) s1
    | _ => .bad)
  | .or a b, st => (lk (evT a st)).bind fun x s1 => (match x with
    | .bl false => (lk (evT b s1)).bind vO
    | .bl true => vO (.bl true) s1
    | _ => .bad)
  | .not a, st => (lk (evT a st)).bind fun x s1 => (match x with
    | .bl k => vO (.bl (!k)) s1
    | _ => .bad)
  | .ife c a b, st => (evB c st).bind fun k s1 => if k then (lk (evT a s1)).bind vO else (lk (evT b s1)).bind vO
  | .sub a b, st => two (evT a) (evT b) itemF st
  | .cut a lo hi, st => (evT a st).bind fun x s1 => (evP lo s1).bind fun l s2 => (evP hi s2).bind fun h s3 => match look x s3 with
    | some d => vF (cutF d l h) s3
    | none => .bad
  | .back a, st => (evT a st).bind fun x s1 => match look x s1 with
    | some (.lst xs) => vO (.lst xs.reverse) s1
    | _ => .bad
  | .tup es, st => (evEs es st).bind fun xs s1 => if xs.length ≤ 1000000 then vO (.tup xs) s1 else .bad
  | .lst es, st => (evEs es st).bind fun xs s1 => if xs.length ≤ 1000000 then vO (.lst xs) s1 else .bad
  | .rep es k, st => (evEs es st).bind fun xs s1 => (intO (lk (evT k s1))).bind fun k s2 => if xs.length ≤ 1000000 then vF (repF xs k) s2 else .bad
  | .call f es, st => (evEs es st).bind fun xs s1 => callO cl f xs s1
  | .pcall f es, st => (evTs es st).bind fun ts s1 => pcallO cl f ts s1
  | .b1 b a, st => (evT a st).bind fun x s1 => match look x s1 with
    | some d => vF (b1F b d) s1
    | none => .bad
  | .b2 b a c, st => (lk (evT a st)).bind fun x s1 => (lk (evT c s1)).bind fun y s2 => vF (b2F b x y) s2
  | .lrange a b, st => (intO (lk (evT a st))).bind fun i s1 => (intO (lk (evT b s1))).bind fun j s2 =>
      if smallI i ∧ smallI j ∧ j - i ≤ 1000000 then vO (.lst (rangeL i j)) s2 else .bad
  | .lrange1 b, st => (intO (lk (evT b st))).bind fun j s2 =>
      if smallI j ∧ j ≤ 1000000 then vO (.lst (rangeL 0 j)) s2 else .bad
  | .isi t a, st => (evT a st).bind fun x s1 => match look x s1 with
    | some d => (match isiF t d with
      | some k => vO (.bl k) s1
      | none => .bad)
    | none => .bad
  | .meth m o es, st => (evT o st).bind fun x s1 => match look x s1 with
    | some (.lst _) => (evEs es s1).bind fun ds s2 => methO m x ds s2
    | _ => .bad
  | .ext o e, st => (evT o st).bind fun x s1 => match look x s1 with
    | some (.lst _) => (lk (evT e s1)).bind fun d s2 => extO x d s2
    | _ => .bad
  | .comp e g it cs own, st => (evI true it st).bind fun ds s1 =>
      (compL ds.2 (evG g) (evAll cs) (fun s => lk (evT e s)) own ds.1 [] s1).bind fun xs s2 => vO (.lst xs) { s2 with env := unwipe s1.env s2.env own }
  | .glob _ d, st => vO d st
  | .new e, st => (evT e st).bind fun t s1 => (match t with
    | .v d => if d.obj then .ok (.v (.loc s1.S.length)) { s1 with S := s1.S ++ [.o d] } else .bad
    | _ => .bad)
  | .dct0 k, st => if k < 2 then vO (.dct k [] []) st else .bad
  | .dget o k, st => (evT o st).bind fun x s1 => match look x s1 with
    | some (.dct _ _ _) => (lk (evT k s1)).bind fun i s2 => (match look x s2 with
      | some c => vF (dgetF c i .non) s2
      | none => .bad)
    | _ => .bad
  | .dgetd o k d, st => (evT o st).bind fun x s1 => match look x s1 with
    | some (.dct _ _ _) => (lk (evT k s1)).bind fun i s2 => (lk (evT d s2)).bind fun e s3 => (match look x s3 with
      | some c => vF (dgetF c i e) s3
      | none => .bad)
    | _ => .bad
  | .fld o n cs, st => (lk (evT o st)).bind fun x s1 => match insAt x s1 with
    | some (_, c, ns, ds) => if c ∈ cs then vF (fgetL ns ds n) s1 else .bad
    | none => .bad
  | .make c f es, st => (evEs es st).bind fun xs s1 => match cl f (.loc s1.S.length :: xs) (s1.S ++ [.o (.ins c [] [])]) with
    | some (.non, S') => .ok (.v (.loc s1.S.length)) { s1 with S := S' }
    | _ => .bad
  | .mcall o _ es dm, st => (lk (evT o st)).bind fun x s1 => match insAt x s1 with
    | some (m, c, _, _) => (match dm.lookup c with
      | some f => (evEs es s1).bind fun xs s2 => callO cl f (.loc m :: xs) s2
      | none => .bad)
    | none => .bad
  | .tcall f es, st => (evEs es st).bind fun xs s1 => tcallO cl f xs s1
  | .tmcall o _ es dm, st => (lk (evT o st)).bind fun x s1 => match insAt x s1 with
    | some (m, c, _, _) => (match dm.lookup c with
      | some f => (evEs es s1).bind fun xs s2 => tcallO cl f (.loc m :: xs) s2
      | none => .bad)
    | none => .bad
  | .mmd mx a d, st => (evT a st).bind fun x s1 => (lk (evT d s1)).bind fun y s2 => match look x s2 with
    | some c => vF (mmF mx c y) s2
    | none => .bad
  | .dctl es, st => (evEs es st).bind fun xs s1 => vF (dpairs xs ([], [])) s1
def evB : C → Sta → Out Bool
  | .and a b, st => (evB a st).bind fun k s1 => if k then evB b s1 else .ok false s1
  | .or a b, st => (evB a st).bind fun k s1 => if k then .ok true s1 else evB b s1
  | .not a, st => (evB a st).bind fun k s1 => .ok (!k) s1
  | .val e, st => (evT e st).bind fun x s1 => match look x s1 with
    | some d => (match truth d with
      | some k => .ok k s1
      | none => .bad)
    | none => .bad
def evP : Option E → Sta → Out (Option Int)
  | none, st => .ok none st
  | some e, st => (intO (lk (evT e st))).bind fun i s1 => .ok (some i) s1
def evEs : List E → Sta → Out (List D)
  | [], st => .ok [] st
  | e :: es, st => (lk (evT e st)).bind fun d s1 => (evEs es s1).bind fun ds s2 => .ok (d :: ds) s2
def evTs : List E → Sta → Out (List T)
  | [], st => .ok [] st
  | e :: es, st => (evT e st).bind fun d s1 => (evTs es s1).bind fun ds s2 => .ok (d :: ds) s2
def evI : Bool → I → Sta → Out (List D × Gd)
  | h, .seq e, st => (evT e st).bind fun t s1 => (hold h t s1).bind fun p s2 => (match p.1 with
    | .lst xs => .ok (xs, p.2) s2
    | .tup xs => .ok (xs, p.2) s2
    | _ => .bad)
  | _, .range1 a, st => (intO (lk (evT a st))).bind fun i s1 => if smallI i then .ok (rangeL 0 i, []) s1 else .bad
  | _, .range a b, st => (intO (lk (evT a st))).bind fun i s1 => (intO (lk (evT b s1))).bind fun j s2 => if smallI i ∧ smallI j then .ok (rangeL i j, []) s2 else .bad
  | h, .enum e, st => (evT e st).bind fun t s1 => (hold h t s1).bind fun p s2 => (match p.1 with
    | .lst xs => .ok ((List.range xs.length).zipWith (fun (k : Nat) d => .tup [.int k, d]) xs, p.2) s2
    | _ => .bad)
  | h, .zip a b, st => (evT a st).bind fun t s1 => (evT b s1).bind fun u s2 => (hold h t s2).bind fun p s3 => (hold h u s3).bind fun q s4 => (match p.1, q.1 with
    | .lst xs, .lst ys => .ok (xs.zipWith (fun x y => .tup [x, y]) ys, p.2 ++ q.2) s4
    | _, _ => .bad)
  | h, .rev e, st => (evT e st).bind fun t s1 => (hold h t s1).bind fun p s2 => (match p.1 with
    | .lst xs => .ok (xs.reverse, p.2) s2
    | _ => .bad)
def evG : G → D → Sta → Out Unit
  | .name i, d, st => if i < st.env.length then .ok () (setName i d st) else .bad
  | .tup gs, d, st => (match d with
    | .tup ds => evGs gs ds st
    | .lst ds => evGs gs ds st
    | _ => .bad)
  | .sub o i, d, st => (evT o st).bind fun x s1 => (lk (evT i s1)).bind fun j s2 => setO x j d s2
def evGs : List G → List D → Sta → Out Unit
  | [], ds, st => if ds.isEmpty then .ok () st else .bad
  | g :: gs, ds, st => (match ds with
    | d :: r => (evG g d st).bind fun _ s1 => evGs gs r s1
    | [] => .bad)
def evAll : List C → Sta → Out Bool
  | [], st => .ok true st
  | c :: cs, st => (evB c st).bind fun k s1 => if k then evAll cs s1 else .ok false s1
end
abbrev evE (e : E) (st : Sta) : Out D := lk (evT cl e st)
end

/-! ### statements -/
inductive Ctl where
  | nx | rt (d : D) (fr : Bool) | bk | ct
/-- the turns of a loop -/
def loop (gd : Gd) (tg : D → Sta → Out Unit) (body : Sta → Out Ctl) : List D → Sta → Out Ctl
  | [], st => if gdB gd st then .ok .nx st else .bad
  | d :: ds, st => if gdB gd st then (tg d st).bind fun _ s1 => (body s1).bind fun c s2 => match c with
    | .nx => loop gd tg body ds s2
    | .ct => loop gd tg body ds s2
    | .bk => .ok .nx s2
    | .rt d fr => .ok (.rt d fr) s2
    else .bad
def whil (c : Sta → Out Bool) (body : Sta → Out Ctl) : Nat → Sta → Out Ctl
  | 0, _ => .bad
  | n + 1, st => (c st).bind fun k s1 => if k then (body s1).bind fun c' s2 => (match c' with
    | .nx => whil c body n s2
    | .ct => whil c body n s2
    | .bk => .ok .nx s2
    | .rt d fr => .ok (.rt d fr) s2) else .ok .nx s1
def fuel : Nat := 10 ^ 30
def mkSlot (d : D) : Slot := if d.obj then .own d else .val d
section
variable (cl : CallF)
mutual
def evS : S → Sta → Out Ctl
  | .set i e own, st => (evE cl e st).bind fun d s1 => if i < s1.env.length then .ok .nx { s1 with env := s1.env.set i (if own then mkSlot d else .val d) } else .bad
  | .asg g e, st => (evE cl e st).bind fun d s1 => (evG cl g d s1).bind fun _ s2 => .ok .nx s2
  | .aug i op e, st => (match st.env[i]? with
    | some (.val x) => (evE cl e st).bind fun y s1 => (match x, y, binF op x y with
      | .int _, .int _, some z => if i < s1.env.length then .ok .nx (setName i z s1) else .bad
      | _, _, _ => .bad)
    | _ => .bad)
  | .ex e, st => (evE cl e st).bind fun _ s1 => .ok .nx s1
  | .ret e fr, st => (evE cl e st).bind fun d s1 => .ok (.rt d fr) s1
  | .retN, st => .ok (.rt .non false) st
  | .ite c a b, st => (evB cl c st).bind fun k s1 => if k then evSs a s1 else evSs b s1
  | .for g it body, st => (evI cl false it st).bind fun ds s1 => loop ds.2 (evG cl g) (evSs body) ds.1 s1
  | .forO i g body, st => (match st.env[i]? with
    | some (.own (.lst xs)) => (loop [] (evG cl g) (evSs body) xs { st with env := st.env.set i .busy }).bind fun c s1 => (match s1.env[i]?, c with
      | some .busy, .nx => .ok .nx { s1 with env := s1.env.set i (.own (.lst xs)) }
      | some .busy, .rt d fr => .ok (.rt d fr) { s1 with env := s1.env.set i .no }
      | _, _ => .bad)
    | _ => .bad)
  | .wh c body, st => whil (evB cl c) (evSs body) fuel st
  | .pass, st => .ok .nx st
  | .brk, st => .ok .bk st
  | .cont, st => .ok .ct st
  | .fset o n cs e, st => (evE cl e st).bind fun d s1 => (lk (evT cl o s1)).bind fun x s2 => match insAt x s2 with
    | some (m, c, ns, ds) => if c ∈ cs ∧ ns.length < 100 then .ok .nx { s2 with S := s2.S.set m (.o (.ins c (fputL ns ds n d).1 (fputL ns ds n d).2)) } else .bad
    | none => .bad
  | .never, _ => .bad
def evSs : List S → Sta → Out Ctl
  | [], st => .ok .nx st
  | s :: ss, st => (evS s st).bind fun c s1 => match c with
    | .nx => evSs ss s1
    | c => .ok c s1
end
end

def runD (cl : CallF) (df : Def) (ds : List D) (S : Store) : Option (D × Store) :=
  if ds.length = df.np then
    match evSs cl df.body ⟨ds.map .val ++ List.replicate (df.ns - df.np) .no, S⟩ with
    | .ok (.rt d fr) st => if fr = df.fr then some (d, st.S) else none
    | .ok .nx st => if df.fr then none else some (.non, st.S)
    | _ => none
  else none
def callN (tab : List Def) : Nat → CallF
  | 0 => fun _ _ _ => none
  | n + 1 => fun f ds S => match tab[f]? with
    | some df => runD (callN tab n) df ds S
    | none => none
end
end Gp

/-! Gp, part C: the readings, and how a state comes from another one. -/
namespace Gp
open PySem L2

section
variable [Cfg] {K : PySem.W.Frag} {A B : Addr → Prop} {ρ ρ' ρ2 : Nat → Addr} {σ σ' σ2 : L2.St} {H H' H2 : Hp} {st st' st2 : Sta} {n n' : Nat} {L L' : Addr → Prop}

/-- data that avoids more avoids less -/
theorem Keep.less (hL : ∀ a, L' a → L a) (ht : ∀ a, L a → ∃ o, H a = some o ∧ ¬ Imm o) : Keep ρ n L H ρ n L' H where
  rho := fun _ _ => rfl
  sz := Nat.le_refl _
  at_ := fun a o e l => ⟨e, fun q => l (hL a q)⟩
  tup := fun a o e l => by
    obtain ⟨o', e', q⟩ := ht a l
    rw [e] at e'; cases e'
    exact q
theorem Ch.mono (h : ∀ a, B a → A a) {a : Addr} (c : Ch B ρ σ st a) : Ch A ρ σ st a := c.elim (fun z => .inl (h a z)) .inr
theorem Rel.kweak (r : Rel K A ρ σ H st) (h : ∀ a, B a → A a) : Keep ρ st.S.length (Ch A ρ σ st) H ρ st.S.length (Ch B ρ σ st) H := Keep.less (fun a z => Ch.mono h z) fun a z => r.chH z
theorem Rel.weak (r : Rel K A ρ σ H st) (h : ∀ a, B a → A a) : Rel K B ρ σ H st where
  len := r.len
  val := fun i d e => by
    obtain ⟨v, e1, q⟩ := r.val i d e
    exact ⟨v, e1, Rep.keep (r.kweak h) q⟩
  own := fun i d e => by
    obtain ⟨a, e1, na, c⟩ := r.own i d e
    exact ⟨a, e1, fun z => na (h a z), c.keep (r.kweak h) fun _ z => z⟩
  cell := fun n xs e => by
    obtain ⟨na, c⟩ := r.cell n xs e
    exact ⟨fun z => na (h _ z), c.keep (r.kweak h) fun _ z => z⟩
  tr := fun a ha => r.tr a (h a ha)
  oo := r.oo
  cc := r.cc
  oc := r.oc
  ob := r.ob

/-- one more that is to be avoided -/
abbrev And1 (A : Addr → Prop) (p : Addr) : Addr → Prop := fun a => A a ∨ a = p
theorem Ch.and1 {p a : Addr} : Ch (And1 A p) ρ σ st a ↔ Ch A ρ σ st a ∨ a = p := by
  constructor
  · rintro ((h | h) | h | h)
    · exact .inl (.inl h)
    · exact .inr h
    · exact .inl (.inr (.inl h))
    · exact .inl (.inr (.inr h))
  · rintro ((h | h | h) | h)
    · exact .inl (.inl h)
    · exact .inr (.inl h)
    · exact .inr (.inr h)
    · exact .inl (.inr h)
/-- a new list: the state avoids it -/
theorem Keep.new {p : Addr} {o : HO} (r : Rel K A ρ σ H st) (hp : H p = none) : Keep ρ st.S.length (Ch A ρ σ st) H ρ st.S.length (Ch (And1 A p) ρ σ st) (upd H p o) where
  rho := fun _ _ => rfl
  sz := Nat.le_refl _
  at_ := fun a u e l => ⟨by rw [upd_ne (ne_of_none e hp)]; exact e, fun q => (Ch.and1.mp q).elim l fun z => by rw [z, hp] at e; cases e⟩
  tup := fun a o e l => by
    obtain ⟨o', e', q⟩ := r.chH l
    rw [e] at e'; cases e'
    exact q
theorem Rel.new {p : Addr} {o : HO} (r : Rel K A ρ σ H st) (hp : H p = none) (ho : ¬ Imm o) : Rel K (And1 A p) ρ σ (upd H p o) st where
  len := r.len
  val := fun i d e => by
    obtain ⟨v, e1, q⟩ := r.val i d e
    exact ⟨v, e1, Rep.keep (Keep.new r hp) q⟩
  own := fun i d e => by
    obtain ⟨a, e1, na, c⟩ := r.own i d e
    obtain ⟨u, z, _⟩ := c.at_
    exact ⟨a, e1, fun y => y.elim na (fun y => by rw [y, hp] at z; cases z), c.keep (Keep.new r hp) fun u z => by rw [upd_ne (ne_of_none z hp)]; exact z⟩
  cell := fun n xs e => by
    obtain ⟨na, c⟩ := r.cell n xs e
    obtain ⟨u, z, _⟩ := c.at_
    exact ⟨fun y => y.elim na (fun y => by rw [y, hp] at z; cases z), c.keep (Keep.new r hp) fun u z => by rw [upd_ne (ne_of_none z hp)]; exact z⟩
  tr := fun a ha => by
    rcases ha with ha | ha
    · obtain ⟨o, e, q⟩ := r.tr a ha
      exact ⟨o, by rw [upd_ne (ne_of_none e hp)]; exact e, q⟩
    · subst ha
      exact ⟨_, upd_same, ho⟩
  oo := r.oo
  cc := r.cc
  oc := r.oc
  ob := r.ob

/-! ### operands -/
def RepT (K : PySem.W.Frag) (A : Addr → Prop) (ρ : Nat → Addr) (σ : L2.St) (H : Hp) (st : Sta) : T → V → Prop
  | .v d, v => Rep K ρ st.S.length (Ch A ρ σ st) H d v
  | .slot i, v => σ[i]? = some (some v)
def RepTs (K : PySem.W.Frag) (A : Addr → Prop) (ρ : Nat → Addr) (σ : L2.St) (H : Hp) (st : Sta) : List T → List V → Prop
  | [], vs => vs = []
  | t :: ts, vs => ∃ v r, vs = v :: r ∧ RepT K A ρ σ H st t v ∧ RepTs K A ρ σ H st ts r
theorem Rel.repT (r : Rel K A ρ σ H st) (f : Fr A ρ σ H st ρ' σ H' st') : ∀ {x : T} {v : V}, RepT K A ρ σ H st x v → RepT K A ρ' σ H' st' x v
  | .v d, v, h => r.rep f h
  | .slot i, v, h => h
theorem Rel.repTs (r : Rel K A ρ σ H st) (f : Fr A ρ σ H st ρ' σ H' st') : ∀ {x : List T} {v : List V}, RepTs K A ρ σ H st x v → RepTs K A ρ' σ H' st' x v
  | [], _, h => h
  | t :: ts, _, h => by
    obtain ⟨v, q, rfl, h1, h2⟩ := h
    exact ⟨v, q, rfl, r.repT f h1, r.repTs f h2⟩
/-- what is seen of an operand -/
def Seen (K : PySem.W.Frag) (ρ : Nat → Addr) (n : Nat) (L : Addr → Prop) (H : Hp) (d : D) (v : V) : Prop :=
  match d with
  | .lst ds => ∃ a vs, v = .ref a ∧ SqL K H a vs ∧ Reps K ρ n L H ds vs
  | .dct k ks ds => ∃ a, v = .ref a ∧ Cont K ρ n L H a (.dct k ks ds)
  | .ins c ns ds => ∃ a, v = .ref a ∧ Cont K ρ n L H a (.ins c ns ds)
  | d => Rep K ρ n L H d v
theorem Rep.seen {d : D} {v : V} (h : Rep K ρ n L H d v) : Seen K ρ n L H d v := by
  cases d with
  | lst ds => obtain ⟨a, vs, e, f, q⟩ := h; exact ⟨a, vs, e, f.sq, q⟩
  | dct k ks ds => obtain ⟨a, vs, e, ⟨o, h1, _, h2⟩, h4⟩ := h; exact ⟨a, e, o, h1, vs, h2, h4⟩
  | ins c ns ds => exact (show False from h).elim
  | _ => exact h
theorem Cont.seen {d : D} {a : Addr} (c : Cont K ρ n L H a d) : Seen K ρ n L H d (.ref a) := by
  cases d with
  | lst ds => obtain ⟨vs, z, q⟩ := Cont.lst.mp c; exact ⟨a, vs, rfl, SqL.of z, q⟩
  | dct k ks ds => exact ⟨a, rfl, c⟩
  | ins k ks ds => exact ⟨a, rfl, c⟩
  | _ => obtain ⟨_, _, z⟩ := c; exact (show False from z).elim
theorem Rel.slot (r : Rel K A ρ σ H st) {i : Nat} {d : D} {v : V} (e : st.env[i]? = some (Slot.val d) ∨ st.env[i]? = some (Slot.own d)) (h : σ[i]? = some (some v)) : Seen K ρ st.S.length (Ch A ρ σ st) H d v := by
  rcases e with e | e
  · obtain ⟨v', e1, q⟩ := r.val i d e
    rw [h] at e1; cases e1
    exact q.seen
  · obtain ⟨a, e1, _, c⟩ := r.own i d e
    rw [h] at e1; cases e1
    exact c.seen
theorem Rel.look (r : Rel K A ρ σ H st) {x : T} {v : V} {d : D} (hx : RepT K A ρ σ H st x v) (e : look x st = some d) : Seen K ρ st.S.length (Ch A ρ σ st) H d v := by
  have key : ∀ d0 : D, Seen K ρ st.S.length (Ch A ρ σ st) H d0 v → (match d0 with
    | .loc n => (match st.S[n]? with
      | some (.o c) => some c
      | _ => none)
    | d => some d) = some d → Seen K ρ st.S.length (Ch A ρ σ st) H d v := fun d0 h0 e0 => by
    cases d0 with
    | loc n =>
      simp only at e0
      split at e0
      · rename_i xs hn
        cases e0
        obtain ⟨_, c⟩ := r.cell n _ hn
        obtain ⟨h1, _⟩ := h0
        rw [h1]
        exact c.seen
      · cases e0
    | _ => cases e0; exact h0
  cases x with
  | v d0 =>
    refine key d0 (Rep.seen hx) ?_
    unfold Gp.look at e
    cases d0 <;> exact e
  | slot i =>
    unfold Gp.look at e
    cases h : st.env[i]? with
    | none => simp [h] at e
    | some s =>
      cases s with
      | no => simp [h] at e
      | busy => simp [h] at e
      | val d0 =>
        refine key d0 (r.slot (.inl h) hx) ?_
        simp only [h] at e
        cases d0 <;> exact e
      | own d0 =>
        refine key d0 (r.slot (.inr h) hx) ?_
        simp only [h] at e
        cases d0 <;> exact e

/-! ### readings -/
def tT (K : PySem.W.Frag) (f : Sta → Out T) : TE := fun σ H Q => ∃ A ρ st x s1, Rel K A ρ σ H st ∧ f st = .ok x s1 ∧
  ∀ ρ' v H', Fr A ρ σ H st ρ' σ H' s1 → Rel K A ρ' σ H' s1 → RepT K A ρ' σ H' s1 x v → Q v H'
def tD (K : PySem.W.Frag) (f : Sta → Out D) : TE := fun σ H Q => ∃ A ρ st x s1, Rel K A ρ σ H st ∧ f st = .ok x s1 ∧
  ∀ ρ' v H', Fr A ρ σ H st ρ' σ H' s1 → Rel K A ρ' σ H' s1 → Rep K ρ' s1.S.length (Ch A ρ' σ s1) H' x v → Q v H'
def tBo (K : PySem.W.Frag) (f : Sta → Out Bool) : TT := fun σ H Q => ∃ A ρ st k s1, Rel K A ρ σ H st ∧ f st = .ok k s1 ∧
  ∀ ρ' H', Fr A ρ σ H st ρ' σ H' s1 → Rel K A ρ' σ H' s1 → Q k H'
def tDs (K : PySem.W.Frag) (f : Sta → Out (List D)) : TA := fun σ H Q => ∃ A ρ st x s1, Rel K A ρ σ H st ∧ f st = .ok x s1 ∧
  ∀ ρ' v H', Fr A ρ σ H st ρ' σ H' s1 → Rel K A ρ' σ H' s1 → Reps K ρ' s1.S.length (Ch A ρ' σ s1) H' x v → Q v H'
def tTs (K : PySem.W.Frag) (f : Sta → Out (List T)) : TA := fun σ H Q => ∃ A ρ st x s1, Rel K A ρ σ H st ∧ f st = .ok x s1 ∧
  ∀ ρ' v H', Fr A ρ σ H st ρ' σ H' s1 → Rel K A ρ' σ H' s1 → RepTs K A ρ' σ H' s1 x v → Q v H'
/-- a value that nobody else has, where it is an object -/
def Fresh (K : PySem.W.Frag) (A : Addr → Prop) (σ : L2.St) (H : Hp) (st : Sta) (x : T) (ρ' : Nat → Addr) (v : V) (H' : Hp) (s1 : Sta) : Prop :=
  (∃ d a, x = .v d ∧ d.obj = true ∧ v = .ref a ∧ (H a = none ∨ Own st.env σ a) ∧ Rel K (And1 A a) ρ' σ H' s1 ∧ Cont K ρ' s1.S.length (Ch (And1 A a) ρ' σ s1) H' a d) ∨
    ((∀ d, x = .v d → d.obj = false) ∧ Rel K A ρ' σ H' s1 ∧ RepT K A ρ' σ H' s1 x v)
def tF (K : PySem.W.Frag) (f : Sta → Out T) : TE := fun σ H Q => ∃ A ρ st x s1, Rel K A ρ σ H st ∧ f st = .ok x s1 ∧
  ∀ ρ' v H', Fr A ρ σ H st ρ' σ H' s1 → Fresh K A σ H st x ρ' v H' s1 → Q v H'
theorem _root_.L2.PE.imp {X : Cx} {e : Expr} {t t' : TE} (h : PE X e t) (i : ∀ σ H Q, t' σ H Q → t σ H Q) : PE X e t' := ⟨fun pins s σ H Q I q => h.run pins s σ H Q I (i σ H Q q)⟩
theorem _root_.L2.PT.imp {X : Cx} {e : Expr} {t t' : TT} (h : PT X e t) (i : ∀ σ H Q, t' σ H Q → t σ H Q) : PT X e t' := ⟨fun pins s σ H Q I q => h.run pins s σ H Q I (i σ H Q q)⟩
theorem _root_.L2.PW.imp {X : Cx} {e : Expr} {t t' : TT} (h : PW X e t) (i : ∀ σ H Q, t' σ H Q → t σ H Q) : PW X e t' := ⟨fun wh pins s σ H Q I q => h.run wh pins s σ H Q I (i σ H Q q)⟩
theorem _root_.L2.PA.imp {X : Cx} {e : List Expr} {t t' : TA} (h : PA X e t) (i : ∀ σ H Q, t' σ H Q → t σ H Q) : PA X e t' := ⟨fun pos pins s σ H Q I q => h.run pos pins s σ H Q I (i σ H Q q)⟩
theorem _root_.L2.PS.imp {X : Cx} {e : Stmt} {t t' : TS} (h : PS X e t) (i : ∀ D σ H, t' D σ H → t D σ H) : PS X e t' := ⟨fun pins s σ H D I q => h.run pins s σ H D I (i D σ H q)⟩
theorem _root_.L2.PSs.imp {X : Cx} {e : List Stmt} {t t' : TS} (h : PSs X e t) (i : ∀ D σ H, t' D σ H → t D σ H) : PSs X e t' := ⟨fun pins s σ H D I q => h.run pins s σ H D I (i D σ H q)⟩
theorem _root_.L2.PG.imp {X : Cx} {e : Expr} {t t' : TG} (h : PG X e t) (i : ∀ v σ H Q, t' v σ H Q → t v σ H Q) : PG X e t' := ⟨fun pins s σ H v u Q I r q => h.run pins s σ H v u Q I r (i v σ H Q q)⟩
theorem _root_.L2.PGs.imp {X : Cx} {e : List Expr} {t t' : TGs} (h : PGs X e t) (i : ∀ v σ H Q, t' v σ H Q → t v σ H Q) : PGs X e t' := ⟨fun pins s σ H v u Q I r q => h.run pins s σ H v u Q I r (i v σ H Q q)⟩
theorem _root_.L2.PI.imp {X : Cx} {tg e : Expr} {t t' : TI} (h : PI X tg e t) (i : ∀ σ H R, t' σ H R → t σ H R) : PI X tg e t' := ⟨fun pins s σ H R I q => h.run pins s σ H R I (i σ H R q)⟩
theorem _root_.L2.PO.imp {X : Cx} {e : Option Expr} {t t' : TO} (h : PO X e t) (i : ∀ σ H R, t' σ H R → t σ H R) : PO X e t' := ⟨fun pins s σ H R I q => h.run pins s σ H R I (i σ H R q)⟩

theorem Cont.rep {d : D} {a : Addr} (c : Cont K ρ n L H a d) (hd : d.obj = true) (hL : ¬ L a) : Rep K ρ n L H d (.ref a) := by
  cases d with
  | lst ds => obtain ⟨vs, z, q⟩ := Cont.lst.mp c; exact ⟨a, vs, rfl, .inl ⟨_, z, hL, .inl rfl⟩, q⟩
  | dct k ks ds => obtain ⟨o, z, vs, q, q2⟩ := c; exact ⟨a, vs, rfl, ⟨o, z, hL, q⟩, q2⟩
  | _ => cases hd
/-- what is fresh may be taken as any value -/
theorem Fresh.rep {x : T} {v : V} {s1 : Sta} (r : Rel K A ρ σ H st) (f : Fresh K A σ H st x ρ' v H' s1) : Rel K A ρ' σ H' s1 ∧ RepT K A ρ' σ H' s1 x v := by
  rcases f with ⟨d, a, rfl, hd, rfl, n, r', c⟩ | ⟨_, r', q⟩
  · refine ⟨r'.weak fun a z => .inl z, (c.keep (r'.kweak fun a z => Or.inl z) fun _ z => z).rep hd fun z => ?_⟩
    rcases z with z | z | z
    · rcases n with n | n
      · obtain ⟨o, e1, _⟩ := r.tr a z
        rw [n] at e1; cases e1
      · obtain ⟨i, d, e1, e2⟩ := n
        obtain ⟨b, e3, nb, _⟩ := r.own i d e1
        rw [e2] at e3; cases e3
        exact nb z
    · obtain ⟨m, xs, e1, e2⟩ := z
      exact (r'.cell m xs e1).1 (.inr e2)
    · obtain ⟨i, d, e1, e2⟩ := z
      obtain ⟨b, e3, nb, _⟩ := r'.own i d e1
      rw [e2] at e3; cases e3
      exact nb (.inr rfl)
  · exact ⟨r', q⟩
theorem tF.toT {X : Cx} {e : Expr} {f : Sta → Out T} (h : PE X e (tF X.K f)) : PE X e (tT X.K f) :=
  h.imp fun σ H Q ⟨A, ρ, st, x, s1, r, ef, q⟩ => ⟨A, ρ, st, x, s1, r, ef, fun ρ' v H' fr fx => q ρ' v H' fr (fx.rep r).1 (fx.rep r).2⟩
/-- a new object of what stands -/
theorem Fresh.newO {d : D} {o : HO} {p : Addr} (r : Rel K A ρ σ H st) (hp : H p = none) (hd : d.obj = true) (q : ContO K ρ st.S.length (Ch A ρ σ st) H p o d) : Fresh K A σ H st (.v d) ρ (.ref p) (upd H p o) st :=
  .inl ⟨d, p, rfl, hd, rfl, .inl hp, r.new hp q.imm, o, upd_same, q.keep (Keep.new r hp)⟩
theorem Fresh.new {ds : List D} {vs : List V} {p : Addr} (r : Rel K A ρ σ H st) (hp : H p = none) (q : Reps K ρ st.S.length (Ch A ρ σ st) H ds vs) : Fresh K A σ H st (.v (.lst ds)) ρ (.ref p) (upd H p (.lst vs)) st :=
  Fresh.newO r hp rfl ⟨vs, rfl, q⟩
/-- relative to an earlier state -/
theorem Fresh.back {x : T} {v : V} (f : Fr A ρ σ H st ρ' σ H' st') (h : Fresh K A σ H' st' x ρ2 v H2 st2) : Fresh K A σ H st x ρ2 v H2 st2 := by
  rcases h with ⟨d, a, e1, e2, e3, n, h⟩ | h
  · refine .inl ⟨d, a, e1, e2, e3, ?_, h⟩
    rcases n with n | n
    · exact .inl (f.free a n)
    · exact (f.own a n).elim .inr .inl
  · exact .inr h

/-! ### leaking -/
theorem getElem?_set' {α : Type} {l : List α} {i j : Nat} {a b : α} (h : (l.set i a)[j]? = some b) : (j = i ∧ b = a) ∨ (j ≠ i ∧ l[j]? = some b) := by
  by_cases e : j = i
  · subst e
    by_cases hl : j < l.length
    · rw [List.getElem?_set_self hl] at h; exact .inl ⟨rfl, (Option.some.inj h).symm⟩
    · rw [List.getElem?_eq_none (by simpa using hl)] at h; cases h
  · rw [List.getElem?_set_ne (fun z => e z.symm)] at h
    exact .inr ⟨e, h⟩
theorem own_set {env : Env} {i : Nat} {d : D} {a : Addr} (h : Own (env.set i (.val d)) σ a) : Own env σ a := by
  obtain ⟨j, e, h1, h2⟩ := h
  rcases getElem?_set' h1 with ⟨_, z⟩ | ⟨_, z⟩
  · cases z
  · exact ⟨j, e, z, h2⟩
/-- a slot's own object is frozen -/
theorem Rel.frozen (r : Rel K A ρ σ H st) {i : Nat} {d : D} (e : st.env[i]? = some (Slot.own d)) : Rel K A ρ σ H { st with env := st.env.set i (.val d) } ∧ ∃ v, σ[i]? = some (some v) ∧ Rep K ρ st.S.length (Ch A ρ σ { st with env := st.env.set i (.val d) }) H d v := by
  have hi : i < st.env.length := (List.getElem?_eq_some_iff.mp e).1
  have kp : Keep ρ st.S.length (Ch A ρ σ st) H ρ st.S.length (Ch A ρ σ { st with env := st.env.set i (.val d) }) H :=
    Keep.less (fun a z => (show Ch A ρ σ st a from z.elim (fun z => Or.inl z) fun z => z.elim (fun z => Or.inr (Or.inl z)) fun z => Or.inr (Or.inr (own_set z)))) fun a z => r.chH z
  obtain ⟨a, e1, na, c⟩ := r.own i d e
  have hrep : Rep K ρ st.S.length (Ch A ρ σ { st with env := st.env.set i (.val d) }) H d (.ref a) := (c.keep kp fun _ z => z).rep (r.ob i d e) fun y => by
    rcases y with y | y | y
    · exact na y
    · obtain ⟨n, xs, h1, h2⟩ := y
      exact r.oc i _ n xs e h1 (by rw [h2]; exact e1)
    · obtain ⟨j, d', h1, h2⟩ := y
      rcases getElem?_set' h1 with ⟨_, z⟩ | ⟨ne, z⟩
      · cases z
      · exact ne (r.oo j i _ _ a z e h2 e1)
  refine ⟨⟨by simpa using r.len, fun j d' h => ?_, fun j d' h => ?_, fun n xs h => ?_, r.tr, fun j k d1 d2 b h1 h2 h3 h4 => ?_, r.cc, fun j d' n xs h1 h2 => ?_, fun j d' h => ?_⟩, .ref a, e1, hrep⟩
  · rcases getElem?_set' h with ⟨z1, z⟩ | ⟨ne, z⟩
    · cases z; subst z1; exact ⟨_, e1, hrep⟩
    · obtain ⟨v, h1, q⟩ := r.val j d' z
      exact ⟨v, h1, Rep.keep kp q⟩
  · rcases getElem?_set' h with ⟨z1, z⟩ | ⟨ne, z⟩
    · cases z
    · obtain ⟨b, h1, nb, c'⟩ := r.own j d' z
      exact ⟨b, h1, nb, c'.keep kp fun _ z => z⟩
  · obtain ⟨na', c'⟩ := r.cell n xs h
    exact ⟨na', c'.keep kp fun _ z => z⟩
  · rcases getElem?_set' h1 with ⟨_, z⟩ | ⟨_, z⟩
    · cases z
    · rcases getElem?_set' h2 with ⟨_, z'⟩ | ⟨_, z'⟩
      · cases z'
      · exact r.oo j k d1 d2 b z z' h3 h4
  · rcases getElem?_set' h1 with ⟨_, z⟩ | ⟨_, z⟩
    · cases z
    · exact r.oc j d' n xs z h2
  · rcases getElem?_set' h with ⟨_, z⟩ | ⟨_, z⟩
    · cases z
    · exact r.ob j d' z
theorem busy_set {env : Env} {i j : Nat} {s : Slot} (hs : s ≠ .busy) (h : (env.set i s)[j]? = some Slot.busy) : j ≠ i ∧ env[j]? = some Slot.busy := by
  rcases getElem?_set' h with ⟨_, z⟩ | z
  · exact absurd z.symm hs
  · exact z
theorem Fr.frozen {i : Nat} {d : D} : Fr A ρ σ H st ρ σ H { st with env := st.env.set i (.val d) } :=
  ⟨fun _ _ => rfl, Nat.le_refl _, fun _ _ e _ _ => e, fun _ e => e, fun _ e => .inl e, fun _ e => .inl (own_set e), fun _ e => ⟨(busy_set (fun z => by cases z) e).2, rfl⟩⟩
theorem leak_ok (r : Rel K A ρ σ H st) {x : T} {v : V} {d : D} {s1 : Sta} (hx : RepT K A ρ σ H st x v) (e : leak x st = .ok d s1) :
    Fr A ρ σ H st ρ σ H s1 ∧ Rel K A ρ σ H s1 ∧ Rep K ρ s1.S.length (Ch A ρ σ s1) H d v := by
  cases x with
  | v d0 => cases e; exact ⟨Fr.refl, r, hx⟩
  | slot i =>
    unfold leak at e
    cases h : st.env[i]? with
    | none => simp [h] at e
    | some s =>
      cases s with
      | no => simp [h] at e
      | busy => simp [h] at e
      | val d0 =>
        simp only [h] at e
        cases e
        obtain ⟨v', e1, q⟩ := r.val i _ h
        have hx' : σ[i]? = some (some v) := hx
        rw [hx'] at e1; cases e1
        exact ⟨Fr.refl, r, q⟩
      | own d0 =>
        simp only [h] at e
        cases e
        obtain ⟨r', v', e1, q⟩ := r.frozen h
        have hx' : σ[i]? = some (some v) := hx
        rw [hx'] at e1; cases e1
        exact ⟨Fr.frozen, r', q⟩
theorem pe_lk {X : Cx} {e : Expr} {f : Sta → Out T} (h : PE X e (tT X.K f)) : PE X e (tD X.K fun st => lk (f st)) :=
  h.imp fun σ H Q ⟨A, ρ, st, d, s2, r, ef, q⟩ => by
    obtain ⟨x, s1, e1, e2⟩ := Out.bind_ok ef
    refine ⟨A, ρ, st, x, s1, r, e1, fun ρ' v H' fr r' hx => ?_⟩
    obtain ⟨f2, r2, h2⟩ := leak_ok r' hx e2
    exact q ρ' v H' (fr.trans f2) r2 h2
end
end Gp

/-! Gp, part D: the operators and built-ins by data. -/
namespace Gp
open PySem L2

theorem line6 : 1000000 ≤ sizeLine := by rw [sizeLine_eq]; decide

section
variable {X : Cx}
theorem _root_.L2.OpR.imp {f : Value → Value → Sem Value} {r r' : R2} (h : OpR X f r) (i : ∀ x y H Q, r' x y H Q → r x y H Q) : OpR X f r' := fun pins s σ H x y v u Q I r1 r2 q => h pins s σ H x y v u Q I r1 r2 (i _ _ _ _ q)
theorem _root_.L2.CallR.imp {f : Value} {r r' : List V → Hp → VK → Prop} (h : CallR X f r) (i : ∀ x H Q, r' x H Q → r x H Q) : CallR X f r' := fun pins s σ H xs us Q I r1 q => h pins s σ H xs us Q I r1 (i _ _ _ q)
theorem _root_.L2.IxR.imp {r r' : R2} (h : IxR X r) (i : ∀ x y H Q, r' x y H Q → r x y H Q) : IxR X r' := fun a b pins s σ H x y v u Q I r1 r2 q e => h a b pins s σ H x y v u Q I r1 r2 (i _ _ _ _ q) e
theorem op_catS : OpR X (binaryOp .Add) (fun x y H Q => ∃ l b xs zs, x = .ref l ∧ y = .ref b ∧ SqL X.K H l xs ∧ SqL X.K H b zs ∧ xs.length + zs.length ≤ sizeLine ∧ ∀ p, H p = none → Q (.ref p) (upd H p (.lst (xs ++ zs)))) := by
  intro pins s σ H x y v u Q I rx ry h
  obtain ⟨l, b, xs, zs, rfl, rfl, hH, hB, hz, q⟩ := h
  cases rx
  cases ry
  obtain ⟨its, r, hl, _⟩ := I.list hH
  obtain ⟨its2, r2, hl2, _⟩ := I.list hB
  obtain ⟨⟨cls, dd, data, sl⟩, ho, hc, n, hd⟩ := id hl.isList
  obtain ⟨⟨cls2, dd2, data2, sl2⟩, ho2, hc2, n2, hd2⟩ := id hl2.isList
  simp only at hc hd hc2 hd2
  subst hc hd hc2 hd2
  have e : its.toArray ++ its2.toArray = (its ++ its2).toArray := by simp
  have l1 := r.length
  have l2 := r2.length
  refine concat_meets ⟨_, ho, rfl⟩ ⟨_, ho2, rfl⟩ noFill_list_add seq_list_add PySem.F.slot_list_add PySem.F.entry_list_add (PySem.F.args_list_add_2 _ _)
    (PyProof.Rows.list_addW l b its.toArray its2.toArray n n2 dd dd2 sl sl2 (by rw [List.size_toArray, List.size_toArray]; omega)) ⟨ho, ho2, ?_⟩
  rw [e]
  exact ⟨.ref _, _, I.lnew (t' := s.toks) (r.append r2) (by rw [List.length_append]; omega), rfl, q _ I.fresh⟩
end
section
variable [Cfg] {K : PySem.W.Frag} {A : Addr → Prop} {ρ ρ' : Nat → Addr} {σ : L2.St} {H H' : Hp} {st st' : Sta} {n : Nat} {L : Addr → Prop}

/-! ### data without addresses -/
theorem Fresh.val {d : D} {v : V} (r : Rel K A ρ σ H st) (h : Rep K ρ st.S.length (Ch A ρ σ st) H d v) (hd : d.obj = false) : Fresh K A σ H st (.v d) ρ v H st :=
  .inr ⟨fun e z => by cases z; exact hd, r, h⟩
theorem Seen.int {i : Int} {v : V} (h : Seen K ρ n L H (.int i) v) : v = .int i := h
theorem Seen.lst {ds : List D} {v : V} (h : Seen K ρ n L H (.lst ds) v) : ∃ a vs, v = .ref a ∧ SqL K H a vs ∧ Reps K ρ n L H ds vs := h
theorem Seen.tup {ds : List D} {v : V} (h : Seen K ρ n L H (.tup ds) v) : ∃ a vs, v = .ref a ∧ SqT K H a vs ∧ Reps K ρ n L H ds vs := let ⟨a, vs, e, h1, h2⟩ := h; ⟨a, vs, e, SqT.of h1, h2⟩
theorem Reps.append : ∀ {ds es : List D} {vs ws : List V}, Reps K ρ n L H ds vs → Reps K ρ n L H es ws → Reps K ρ n L H (ds ++ es) (vs ++ ws)
  | [], _, _, _, h, h' => by rw [show _ = [] from h]; exact h'
  | d :: ds, _, _, _, h, h' => by
    obtain ⟨v, r, rfl, h1, h2⟩ := h
    exact ⟨v, _, rfl, h1, Reps.append h2 h'⟩
theorem Reps.nil : Reps K ρ n L H [] [] := rfl
theorem Reps.get : ∀ {ds : List D} {vs : List V} {i : Nat} {d : D}, Reps K ρ n L H ds vs → ds[i]? = some d → ∃ v, vs[i]? = some v ∧ Rep K ρ n L H d v
  | [], _, _, _, _, e => by simp at e
  | d :: ds, _, 0, _, h, e => by
    obtain ⟨v, r, rfl, h1, h2⟩ := h
    simp at e; subst e
    exact ⟨v, rfl, h1⟩
  | d :: ds, _, i + 1, _, h, e => by
    obtain ⟨v, r, rfl, h1, h2⟩ := h
    obtain ⟨w, e1, e2⟩ := Reps.get (i := i) h2 (by simpa using e)
    exact ⟨w, by simpa using e1, e2⟩
theorem Reps.take : ∀ {ds : List D} {vs : List V} (k : Nat), Reps K ρ n L H ds vs → Reps K ρ n L H (ds.take k) (vs.take k)
  | _, _, 0, _ => rfl
  | [], _, k + 1, h => by rw [show _ = [] from h]; rfl
  | d :: ds, _, k + 1, h => by
    obtain ⟨v, r, rfl, h1, h2⟩ := h
    exact ⟨v, _, rfl, h1, Reps.take k h2⟩
theorem Reps.drop : ∀ {ds : List D} {vs : List V} (k : Nat), Reps K ρ n L H ds vs → Reps K ρ n L H (ds.drop k) (vs.drop k)
  | _, _, 0, h => h
  | [], _, k + 1, h => by rw [show _ = [] from h]; rfl
  | d :: ds, _, k + 1, h => by
    obtain ⟨v, r, rfl, h1, h2⟩ := h
    exact Reps.drop k h2
theorem Reps.reverse {ds : List D} {vs : List V} (h : Reps K ρ n L H ds vs) : Reps K ρ n L H ds.reverse vs.reverse := by
  induction ds generalizing vs with
  | nil => rw [show vs = [] from h]; rfl
  | cons d ds ih =>
    obtain ⟨v, r, rfl, h1, h2⟩ := h
    rw [List.reverse_cons, List.reverse_cons]
    exact (ih h2).append ⟨v, [], rfl, h1, rfl⟩
theorem Reps.flat (k : Nat) {ds : List D} {vs : List V} (h : Reps K ρ n L H ds vs) : Reps K ρ n L H (List.replicate k ds).flatten (List.replicate k vs).flatten := by
  induction k with
  | zero => rfl
  | succ k ih => rw [List.replicate_succ, List.replicate_succ, List.flatten_cons, List.flatten_cons]; exact h.append ih
theorem Reps.set {d : D} {v : V} (h1 : Rep K ρ n L H d v) : ∀ {ds : List D} {vs : List V} (k : Nat), Reps K ρ n L H ds vs → Reps K ρ n L H (ds.set k d) (vs.set k v)
  | [], _, _, h => by rw [show _ = [] from h]; rfl
  | _ :: ds, _, 0, h => by
    obtain ⟨w, r, rfl, _, h2⟩ := h
    exact ⟨v, r, rfl, h1, h2⟩
  | d' :: ds, _, k + 1, h => by
    obtain ⟨w, r, rfl, h3, h2⟩ := h
    exact ⟨w, _, rfl, h3, Reps.set h1 k h2⟩
theorem Reps.erase : ∀ {ds : List D} {vs : List V} (k : Nat), Reps K ρ n L H ds vs → Reps K ρ n L H (ds.eraseIdx k) (vs.eraseIdx k)
  | [], _, _, h => by rw [show _ = [] from h]; rfl
  | _ :: ds, _, 0, h => by
    obtain ⟨w, r, rfl, _, h2⟩ := h
    exact h2
  | d' :: ds, _, k + 1, h => by
    obtain ⟨w, r, rfl, h3, h2⟩ := h
    exact ⟨w, _, rfl, h3, Reps.erase k h2⟩
theorem Reps.ints : ∀ {ds : List D} {vs : List V} {is : List Int}, Reps K ρ n L H ds vs → D.ints ds = some is → vs = is.map V.int
  | [], _, _, h, e => by cases e; exact h
  | d :: ds, _, is, h, e => by
    obtain ⟨v, r, rfl, h1, h2⟩ := h
    cases d with
    | int i =>
      unfold D.ints at e
      cases q : D.ints ds with
      | none => rw [q] at e; cases e
      | some js =>
        rw [q] at e; cases e
        rw [Reps.ints h2 q, show v = .int i from h1]; rfl
    | _ => cases e
theorem Reps.bls : ∀ {ds : List D} {vs : List V} {is : List Bool}, Reps K ρ n L H ds vs → D.bls ds = some is → vs = is.map V.bl
  | [], _, _, h, e => by cases e; exact h
  | d :: ds, _, is, h, e => by
    obtain ⟨v, r, rfl, h1, h2⟩ := h
    cases d with
    | bl i =>
      unfold D.bls at e
      cases q : D.bls ds with
      | none => rw [q] at e; cases e
      | some js =>
        rw [q] at e; cases e
        rw [Reps.bls h2 q, show v = .bl i from h1]; rfl
    | _ => cases e
theorem Reps.range (a b : Int) : Reps K ρ n L H (rangeL a b) (rgV a b) := by
  unfold rangeL rgV
  generalize List.range (b - a).toNat = l
  induction l with
  | nil => rfl
  | cons k l ih => exact ⟨_, _, rfl, rfl, ih⟩
theorem Reps.map_int (ns : List Int) : Reps K ρ n L H (ns.map D.int) (ns.map V.int) := by
  induction ns with
  | nil => rfl
  | cons k l ih => exact ⟨_, _, rfl, rfl, ih⟩

/-! ### two operands -/
/-- what an operator by data asks, F the data's own -/
def rOf (K : PySem.W.Frag) (F : D → D → Option D) : R2 := fun x y H Q => ∃ A ρ σ st d e z, Rel K A ρ σ H st ∧ Seen K ρ st.S.length (Ch A ρ σ st) H d x ∧ Seen K ρ st.S.length (Ch A ρ σ st) H e y ∧ F d e = some z ∧
  ∀ w H', Fr A ρ σ H st ρ σ H' st → Fresh K A σ H st (.v z) ρ w H' st → Q w H'
section
variable {X : Cx}
/-- a new value's end -/
theorem fin_val {z : D} {w : V} {Q : VK} (r : Rel K A ρ σ H st) (h : Rep K ρ st.S.length (Ch A ρ σ st) H z w) (hd : z.obj = false)
    (q : ∀ w H', Fr A ρ σ H st ρ σ H' st → Fresh K A σ H st (.v z) ρ w H' st → Q w H') : Q w H := q w H Fr.refl (Fresh.val r h hd)
theorem fin_lst {ds : List D} {vs : List V} {Q : VK} (r : Rel K A ρ σ H st) (h : Reps K ρ st.S.length (Ch A ρ σ st) H ds vs)
    (q : ∀ w H', Fr A ρ σ H st ρ σ H' st → Fresh K A σ H st (.v (.lst ds)) ρ w H' st → Q w H') : ∀ p, H p = none → Q (.ref p) (upd H p (.lst vs)) := fun p hp => q _ _ (Fr.laid hp) (Fresh.new r hp h)

theorem fin_tup {ds : List D} {vs : List V} {Q : VK} (r : Rel K A ρ σ H st) (h : Reps K ρ st.S.length (Ch A ρ σ st) H ds vs)
    (q : ∀ w H', Fr A ρ σ H st ρ σ H' st → Fresh K A σ H st (.v (.tup ds)) ρ w H' st → Q w H') : ∀ p, H p = none → Q (.ref p) (upd H p (.tup vs)) := fun p hp =>
  q _ _ (Fr.laid hp) (.inr ⟨(fun _ z => by cases z; rfl), r.laid hp, p, vs, rfl, upd_same, r.reps (Fr.laid hp) h⟩)

end
end
/-- the operator that a BOp is -/
def BOp.py : BOp → Operator
  | .add => .Add | .sub => .Sub | .mul => .Mult | .fdiv => .FloorDiv | .mod => .Mod | .shl => .LShift | .shr => .RShift | .band => .BitAnd | .bor => .BitOr | .bxor => .BitXor | .pow => .Pow
def COp.py : COp → CmpOp
  | .eq => .Eq | .ne => .NotEq | .lt => .Lt | .le => .LtE | .gt => .Gt | .ge => .GtE | .isn => .Is | .notn => .IsNot | .inn => .In | .notin => .NotIn
section
variable {X : Cx}
def rIntF (f : Int → Int → Option Int) : R2 := fun x y H Q => ∃ i j z, x = .int i ∧ y = .int j ∧ f i j = some z ∧ Q (.int z) H
theorem int_of {f : Value → Value → Sem Value} {C : Int → Int → Prop} {g : Int → Int → Int} {F : Int → Int → Option Int} (h : OpR X f (rI C fun i j => .int (g i j)))
    (hF : ∀ i j z, F i j = some z → C i j ∧ z = g i j) : OpR X f (rIntF F) :=
  h.imp fun x y H Q ⟨i, j, z, e1, e2, e3, q⟩ => by
    obtain ⟨c, rfl⟩ := hF i j z e3
    exact ⟨i, j, e1, e2, c, q⟩
theorem int_of0 {f : Value → Value → Sem Value} {g : Int → Int → Int} {F : Int → Int → Option Int} (h : OpR X f (rI0 fun i j => .int (g i j)))
    (hF : ∀ i j, F i j = some (g i j)) : OpR X f (rIntF F) :=
  h.imp fun x y H Q ⟨i, j, z, e1, e2, e3, q⟩ => by
    rw [hF i j] at e3; cases e3
    exact ⟨i, j, e1, e2, q⟩
theorem ite_some {c : Prop} [Decidable c] {α : Type} {a b : α} (h : (if c then some a else none) = some b) : c ∧ b = a := by
  split at h
  · rename_i hc; exact ⟨hc, (Option.some.inj h).symm⟩
  · cases h
theorem intF_ok : ∀ op : BOp, OpR X (binaryOp op.py) (rIntF (intF op))
  | .add => int_of0 op_add fun _ _ => rfl
  | .sub => int_of0 op_sub fun _ _ => rfl
  | .mul => (OpR.or op_mul op_mulW).imp fun x y H Q ⟨i, j, z, e1, e2, e3, q⟩ => by
    obtain ⟨c, rfl⟩ := ite_some (c := bigI i ∨ bigI j ∨ (wideI i ∧ wideI j)) e3
    rcases c with c | c | ⟨c1, c2⟩
    · exact .inl ⟨i, j, e1, e2, .inl c, q⟩
    · exact .inl ⟨i, j, e1, e2, .inr c, q⟩
    · exact .inr ⟨i, j, e1, e2, wide_mul c1 c2 (by decide) (by decide) (by decide), q⟩
  | .fdiv => int_of op_fdiv fun i j _ h => ite_some (c := fdOk j) h
  | .mod => int_of op_mod fun _ _ _ h => ite_some h
  | .shl => int_of op_shl fun i j _ h => ite_some (c := shOk i j) h
  | .shr => int_of op_shr fun _ _ _ h => ite_some h
  | .band => int_of0 op_and fun _ _ => rfl
  | .bor => int_of0 op_or fun _ _ => rfl
  | .bxor => int_of0 op_xor fun _ _ => rfl
  | .pow => int_of op_pow fun i j _ h => ite_some (c := shOk i j) h
theorem intFi_ok : ∀ op : BOp, (op = .add ∨ op = .sub ∨ op = .bor) → OpR X (inplaceOp op.py) (rIntF (intF op))
  | .add, _ => int_of0 iop_add fun _ _ => rfl
  | .sub, _ => int_of0 iop_sub fun _ _ => rfl
  | .bor, _ => int_of0 iop_or fun _ _ => rfl
  | .mul, h => by simp at h
  | .fdiv, h => by simp at h
  | .mod, h => by simp at h
  | .shl, h => by simp at h
  | .shr, h => by simp at h
  | .band, h => by simp at h
  | .bxor, h => by simp at h
  | .pow, h => by simp at h
theorem binF_int {op : BOp} {d e z : D} (h : binF op d e = some z) : (∃ i j k, d = .int i ∧ e = .int j ∧ intF op i j = some k ∧ z = .int k) ∨ ∃ xs ys, op = .add ∧ d = .lst xs ∧ e = .lst ys ∧ xs.length + ys.length ≤ 1000000 ∧ z = .lst (xs ++ ys) := by
  unfold binF at h
  split at h
  · rename_i i j
    cases q : intF op i j with
    | none => rw [q] at h; cases h
    | some k => rw [q] at h; cases h; exact .inl ⟨i, j, k, rfl, rfl, q, rfl⟩
  · obtain ⟨⟨h1, h2⟩, h3⟩ := ite_some h
    exact .inr ⟨_, _, h1, rfl, rfl, h2, h3⟩
  · cases h
end
section
variable [Cfg] {K : PySem.W.Frag} {A : Addr → Prop} {ρ ρ' : Nat → Addr} {σ : L2.St} {H H' : Hp} {st st' : Sta} {n : Nat} {L : Addr → Prop} {X : Cx}
theorem bin_ok (op : BOp) : OpR X (binaryOp op.py) (rOf X.K (binF op)) := by
  have key : ∀ (x y : V) (H : Hp) (Q : VK), rOf X.K (binF op) x y H Q → rIntF (intF op) x y H Q ∨ (op = .add ∧ ∃ l b xs zs, x = .ref l ∧ y = .ref b ∧ SqL X.K H l xs ∧ SqL X.K H b zs ∧ xs.length + zs.length ≤ sizeLine ∧ ∀ p, H p = none → Q (.ref p) (upd H p (.lst (xs ++ zs)))) := by
    rintro x y H Q ⟨A, ρ, σ, st, d, e, z, r, s1, s2, hz, q⟩
    rcases binF_int hz with ⟨i, j, k, rfl, rfl, hk, rfl⟩ | ⟨xs, ys, ho, rfl, rfl, hl, rfl⟩
    · exact .inl ⟨i, j, k, s1, s2, hk, fin_val (z := .int k) r (show V.int k = V.int k from rfl) rfl q⟩
    · obtain ⟨a, vs, rfl, h1, h2⟩ := s1
      obtain ⟨b, ws, rfl, h3, h4⟩ := s2
      refine .inr ⟨ho, a, b, vs, ws, rfl, rfl, h1, h3, ?_, fin_lst r (h2.append h4) q⟩
      rw [h2.length, h4.length]
      exact Nat.le_trans hl line6
  by_cases ho : op = .add
  · subst ho
    exact (OpR.or (intF_ok .add) op_catS).imp fun x y H Q h => (key x y H Q h).elim .inl fun z => .inr z.2
  · exact (intF_ok op).imp fun x y H Q h => (key x y H Q h).elim id fun z => absurd z.1 ho

end
/-! ### comparisons -/
mutual
theorem D.pd_of : ∀ (n : Nat) (d : D), D.deep n d = true → ∃ e, D.pd d = some e ∧ PyData.canLay0 e = true ∧ e.depth ≤ n
  | n, .non, _ => ⟨_, rfl, rfl, Nat.zero_le _⟩
  | n, .bl b, _ => ⟨_, rfl, rfl, Nat.zero_le _⟩
  | n, .int b, _ => ⟨_, rfl, rfl, Nat.zero_le _⟩
  | n, .str b, h => ⟨_, rfl, by cases n <;> exact h, Nat.zero_le _⟩
  | 0, .lst ds, h => by cases h
  | n + 1, .lst ds, h => by
    obtain ⟨es, e1, e2, e3⟩ := D.pds_of n ds h
    exact ⟨.list es, by rw [D.pd, e1]; rfl, e2, by show PyData.depthAll es + 1 ≤ n + 1; omega⟩
  | 0, .tup ds, h => by cases h
  | n + 1, .tup ds, h => by
    obtain ⟨es, e1, e2, e3⟩ := D.pds_of n ds h
    exact ⟨.tuple es, by rw [D.pd, e1]; rfl, e2, by show PyData.depthAll es + 1 ≤ n + 1; omega⟩
  | 0, .loc _, h => by cases h
  | n + 1, .loc _, h => by cases h
  | 0, .dct _ _ _, h => by cases h
  | n + 1, .dct _ _ _, h => by cases h
  | 0, .ins _ _ _, h => by cases h
  | n + 1, .ins _ _ _, h => by cases h
theorem D.pds_of : ∀ (n : Nat) (ds : List D), D.deeps n ds = true → ∃ es, D.pds ds = some es ∧ PyData.canLayAll0 es = true ∧ PyData.depthAll es ≤ n
  | n, [], _ => ⟨[], rfl, rfl, Nat.zero_le _⟩
  | n, d :: ds, h => by
    have h' : (D.deep n d && D.deeps n ds) = true := h
    obtain ⟨h1, h2⟩ := Bool.and_eq_true_iff.mp h'
    obtain ⟨e, a1, a2, a3⟩ := D.pd_of n d h1
    obtain ⟨es, b1, b2, b3⟩ := D.pds_of n ds h2
    refine ⟨e :: es, by rw [D.pds, a1, b1], ?_, ?_⟩
    · show (PyData.canLay0 e && PyData.canLayAll0 es) = true
      rw [a2, b2]; rfl
    · show max e.depth (PyData.depthAll es) ≤ n
      omega
end
mutual
theorem D.eqv_pd : ∀ (d e : D) (a b : PyData), D.pd d = some a → D.pd e = some b → D.eqv d e = PyData.eqv a b
  | .loc _, _, _, _, h, _ => by cases h
  | .dct _ _ _, _, _, _, h, _ => by cases h
  | .ins _ _ _, _, _, _, h, _ => by cases h
  | .non, e, a, b, h, h' => by
    cases h
    cases e with
    | lst ds => rw [D.pd] at h'; cases q : D.pds ds with
      | none => rw [q] at h'; cases h'
      | some es => rw [q] at h'; cases h'; rfl
    | tup ds => rw [D.pd] at h'; cases q : D.pds ds with
      | none => rw [q] at h'; cases h'
      | some es => rw [q] at h'; cases h'; rfl
    | loc => cases h'
    | dct => cases h'
    | ins => cases h'
    | _ => cases h'; rfl
  | .bl _, e, a, b, h, h' => by
    cases h
    cases e with
    | lst ds => rw [D.pd] at h'; cases q : D.pds ds with
      | none => rw [q] at h'; cases h'
      | some es => rw [q] at h'; cases h'; rfl
    | tup ds => rw [D.pd] at h'; cases q : D.pds ds with
      | none => rw [q] at h'; cases h'
      | some es => rw [q] at h'; cases h'; rfl
    | loc => cases h'
    | dct => cases h'
    | ins => cases h'
    | _ => cases h'; rfl
  | .int _, e, a, b, h, h' => by
    cases h
    cases e with
    | lst ds => rw [D.pd] at h'; cases q : D.pds ds with
      | none => rw [q] at h'; cases h'
      | some es => rw [q] at h'; cases h'; rfl
    | tup ds => rw [D.pd] at h'; cases q : D.pds ds with
      | none => rw [q] at h'; cases h'
      | some es => rw [q] at h'; cases h'; rfl
    | loc => cases h'
    | dct => cases h'
    | ins => cases h'
    | _ => cases h'; rfl
  | .str _, e, a, b, h, h' => by
    cases h
    cases e with
    | lst ds => rw [D.pd] at h'; cases q : D.pds ds with
      | none => rw [q] at h'; cases h'
      | some es => rw [q] at h'; cases h'; rfl
    | tup ds => rw [D.pd] at h'; cases q : D.pds ds with
      | none => rw [q] at h'; cases h'
      | some es => rw [q] at h'; cases h'; rfl
    | loc => cases h'
    | dct => cases h'
    | ins => cases h'
    | _ => cases h'; rfl
  | .lst xs, e, a, b, h, h' => by
    rw [D.pd] at h
    cases p : D.pds xs with
    | none => rw [p] at h; cases h
    | some as =>
      rw [p] at h; cases h
      cases e with
      | lst ds => rw [D.pd] at h'; cases q : D.pds ds with
        | none => rw [q] at h'; cases h'
        | some es => rw [q] at h'; cases h'; exact D.eqvs_pd xs ds as es p q
      | tup ds => rw [D.pd] at h'; cases q : D.pds ds with
        | none => rw [q] at h'; cases h'
        | some es => rw [q] at h'; cases h'; rfl
      | loc => cases h'
      | dct => cases h'
      | ins => cases h'
      | _ => cases h'; rfl
  | .tup xs, e, a, b, h, h' => by
    rw [D.pd] at h
    cases p : D.pds xs with
    | none => rw [p] at h; cases h
    | some as =>
      rw [p] at h; cases h
      cases e with
      | tup ds => rw [D.pd] at h'; cases q : D.pds ds with
        | none => rw [q] at h'; cases h'
        | some es => rw [q] at h'; cases h'; exact D.eqvs_pd xs ds as es p q
      | lst ds => rw [D.pd] at h'; cases q : D.pds ds with
        | none => rw [q] at h'; cases h'
        | some es => rw [q] at h'; cases h'; rfl
      | loc => cases h'
      | dct => cases h'
      | ins => cases h'
      | _ => cases h'; rfl
theorem D.eqvs_pd : ∀ (d e : List D) (a b : List PyData), D.pds d = some a → D.pds e = some b → D.eqvs d e = PyData.eqvAll a b
  | [], [], _, _, h, h' => by cases h; cases h'; rfl
  | [], d :: ds, _, b, h, h' => by
    cases h
    rw [D.pds] at h'
    split at h' <;> cases h'
    rfl
  | d :: ds, [], _, b, h, h' => by
    cases h'
    rw [D.pds] at h
    split at h <;> cases h
    rfl
  | d :: ds, e :: es, a, b, h, h' => by
    rw [D.pds] at h h'
    split at h <;> cases h
    split at h' <;> cases h'
    rename_i a1 as1 h1 h2 _ _ b1 bs1 h3 h4
    show (D.eqv d e && D.eqvs ds es) = (PyData.eqv a1 b1 && PyData.eqvAll as1 bs1)
    rw [D.eqv_pd d e a1 b1 h1 h3, D.eqvs_pd ds es as1 bs1 h2 h4]
end
section
variable [Cfg] {K : PySem.W.Frag} {A : Addr → Prop} {ρ ρ' : Nat → Addr} {σ : L2.St} {H H' : Hp} {st st' : Sta} {n : Nat} {L : Addr → Prop} {X : Cx}
mutual
theorem Rep.dp : ∀ {d : D} {v : V} {e : PyData}, Rep K ρ n L H d v → D.pd d = some e → Dp K H v e
  | .non, _, _, h, h' => by cases h'; rw [show _ = V.non from h]; exact .non
  | .bl b, _, _, h, h' => by cases h'; rw [show _ = V.bl b from h]; exact .bl b
  | .int b, _, _, h, h' => by cases h'; rw [show _ = V.int b from h]; exact .int b
  | .str b, _, _, h, h' => by cases h'; rw [show _ = V.str b from h]; exact .str b
  | .lst ds, _, _, h, h' => by
    obtain ⟨a, vs, rfl, h1, h2⟩ := h
    rw [D.pd] at h'
    cases q : D.pds ds with
    | none => rw [q] at h'; cases h'
    | some es => rw [q] at h'; cases h'; exact .lst h1.sq (Reps.dp h2 q)
  | .tup ds, _, _, h, h' => by
    obtain ⟨a, vs, rfl, h1, h2⟩ := h
    rw [D.pd] at h'
    cases q : D.pds ds with
    | none => rw [q] at h'; cases h'
    | some es => rw [q] at h'; cases h'; exact .tup (SqT.of h1) (Reps.dp h2 q)
  | .loc _, _, _, _, h' => by cases h'
  | .dct _ _ _, _, _, _, h' => by cases h'
  | .ins _ _ _, _, _, _, h' => by cases h'
theorem Reps.dp : ∀ {d : List D} {v : List V} {e : List PyData}, Reps K ρ n L H d v → D.pds d = some e → DpAll K H v e
  | [], _, _, h, h' => by cases h'; rw [show _ = [] from h]; exact .nil
  | d :: ds, _, _, h, h' => by
    obtain ⟨v, r, rfl, h1, h2⟩ := h
    rw [D.pds] at h'
    split at h' <;> cases h'
    rename_i e es q1 q2
    exact .cons (Rep.dp h1 q1) (Reps.dp h2 q2)
end
theorem Seen.dp {d : D} {v : V} {e : PyData} (h : Seen K ρ n L H d v) (h' : D.pd d = some e) : Dp K H v e := by
  cases d with
  | lst ds =>
    obtain ⟨a, vs, rfl, h1, h2⟩ := h
    rw [D.pd] at h'
    cases q : D.pds ds with
    | none => rw [q] at h'; cases h'
    | some es => rw [q] at h'; cases h'; exact .lst h1 (Reps.dp h2 q)
  | dct k ks ds => cases h'
  | ins k ks ds => cases h'
  | _ => exact Rep.dp h h'
end
theorem shaped_of {n : Nat} {e : PyData} (h : PyData.canLay0 e = true) (h' : e.depth ≤ n) (hn : n ≤ 64) : SeqAt.shaped e = true := by
  unfold SeqAt.shaped
  rw [h, Bool.true_and]
  exact decide_eq_true (Nat.le_trans h' hn)
section
variable [Cfg] {K : PySem.W.Frag} {A : Addr → Prop} {ρ ρ' : Nat → Addr} {σ : L2.St} {H H' : Hp} {st st' : Sta} {n : Nat} {L : Addr → Prop} {X : Cx}
theorem isNon_of {d : D} {v : V} (h : Seen K ρ n L H d v) : d.isNon = decide (v = V.non) := by
  cases d with
  | lst ds => obtain ⟨a, vs, rfl, _⟩ := h; simp [D.isNon]
  | tup ds => obtain ⟨a, vs, rfl, _⟩ := h; simp [D.isNon]
  | dct k ks ds => obtain ⟨a, rfl, _⟩ := h; simp [D.isNon]
  | ins k ks ds => obtain ⟨a, rfl, _⟩ := h; simp [D.isNon]
  | loc m => obtain ⟨rfl, _⟩ := h; simp [D.isNon]
  | non => rw [show v = V.non from h]; simp [D.isNon]
  | bl b => rw [show v = V.bl b from h]; simp [D.isNon]
  | int b => rw [show v = V.int b from h]; simp [D.isNon]
  | str b => rw [show v = V.str b from h]; simp [D.isNon]
theorem ord_ok {op : CmpOp} {g : Int → Int → Bool} {F : D → D → Option D} (h : OpR X (compareOp op) (rI0 fun i j => .bl (g i j))) (hF : ∀ d e z, F d e = some z → ∃ i j, d = .int i ∧ e = .int j ∧ z = .bl (g i j)) : OpR X (compareOp op) (rOf X.K F) :=
  h.imp fun x y H Q ⟨A, ρ, σ, st, d, e, z, r, s1, s2, hz, q⟩ => by
    obtain ⟨i, j, rfl, rfl, rfl⟩ := hF d e z hz
    exact ⟨i, j, s1, s2, fin_val (z := .bl (g i j)) r (show V.bl _ = V.bl _ from rfl) rfl q⟩
theorem cmp_ord {op : COp} {g : Int → Int → Bool} (h1 : ∀ a b, cmpF op a b = match a, b with | .int i, .int j => (ordF op i j).map .bl | _, _ => none) (h2 : ∀ i j, ordF op i j = some (g i j)) : ∀ d e z, cmpF op d e = some z → ∃ i j, d = .int i ∧ e = .int j ∧ z = .bl (g i j) := by
  intro d e z h
  rw [h1] at h
  split at h
  · rename_i i j
    rw [h2] at h
    cases h
    exact ⟨i, j, rfl, rfl, rfl⟩
  · cases h
theorem omap_some {α β : Type} {o : Option α} {f : α → β} {b : β} (h : o.map f = some b) : ∃ a, o = some a ∧ b = f a := by
  cases o with
  | none => cases h
  | some a => exact ⟨a, rfl, (Option.some.inj h).symm⟩
theorem isF_cases {d e : D} {k : Bool} (h : isF d e = some k) : (e = .non ∧ k = d.isNon) ∨ ∃ a b, d = .bl a ∧ e = .bl b ∧ k = (a == b) := by
  cases e with
  | non => cases h; exact .inl ⟨rfl, rfl⟩
  | bl b =>
    cases d with
    | bl a => cases h; exact .inr ⟨a, b, rfl, rfl, rfl⟩
    | _ => cases h
  | _ => cases h
theorem inF_cases {d e : D} {k : Bool} (h : inF d e = some k) : (∃ t ks vs, e = .dct t ks vs ∧ keyOk t d = true ∧ k = (dgetL ks vs d).isSome) ∨ (∃ xs, e = .lst xs ∧ d.deep 60 = true ∧ D.deeps 60 xs = true ∧ k = xs.any fun z => D.eqv z d) ∨
    ∃ xs, e = .tup xs ∧ d.plain1 = true ∧ xs.all D.plain1 = true ∧ k = xs.any fun z => D.eqv z d := by
  cases e with
  | dct t ks vs => obtain ⟨h1, h2⟩ := ite_some h; exact .inl ⟨t, ks, vs, rfl, h1, h2⟩
  | lst xs => obtain ⟨h1, h2⟩ := ite_some h; obtain ⟨h1, h3⟩ := Bool.and_eq_true_iff.mp h1; exact .inr (.inl ⟨xs, rfl, h1, h3, h2⟩)
  | tup xs => obtain ⟨h1, h2⟩ := ite_some h; obtain ⟨h1, h3⟩ := Bool.and_eq_true_iff.mp h1; exact .inr (.inr ⟨xs, rfl, h1, h3, h2⟩)
  | _ => cases h
theorem any_pd {a : PyData} {d : D} : ∀ (xs : List D) (es : List PyData), D.pds xs = some es → D.pd d = some a → (xs.any fun z => D.eqv z d) = es.any fun z => PyData.eqv z a
  | [], es, h, _ => by cases h; rfl
  | x :: xs, es, h, h' => by
    rw [D.pds] at h
    split at h <;> cases h
    rename_i e es q1 q2
    rw [List.any_cons, List.any_cons, D.eqv_pd x d e a q1 h', any_pd xs es q2 h']
theorem plain1_V {d : D} {v : V} (h : d.plain1 = true) (s : Seen K ρ n L H d v) : flatV v = true ∧ ∀ {e : D} {w : V}, e.plain1 = true → Seen K ρ n L H e w → D.eqv d e = eqV v w := by
  cases d <;> first | (cases h; done) | skip
  all_goals (
    have s' := s
    replace s' : v = _ := s'
    subst s'
    refine ⟨rfl, fun {e w} he hw => ?_⟩
    cases e <;> first | (cases he; done) | (replace hw : w = _ := hw; subst hw; rfl))
theorem plain1_all : ∀ {xs : List D} {vs : List V}, xs.all D.plain1 = true → Reps K ρ n L H xs vs → vs.all flatV = true
  | [], _, _, h => by rw [show _ = [] from h]; rfl
  | x :: xs, _, h, h' => by
    obtain ⟨v, r, rfl, h1, h2⟩ := h'
    obtain ⟨a1, a2⟩ := Bool.and_eq_true_iff.mp (show (x.plain1 && xs.all D.plain1) = true from h)
    show (flatV v && r.all flatV) = true
    rw [(plain1_V a1 (Rep.seen h1)).1, plain1_all a2 h2]; rfl
theorem plain1_in {d : D} {v : V} (hd : d.plain1 = true) : ∀ {xs : List D} {vs : List V}, xs.all D.plain1 = true → Seen K ρ n L H d v → Reps K ρ n L H xs vs → (xs.any fun z => D.eqv z d) = inV v vs
  | [], _, _, _, h => by rw [show _ = [] from h]; rfl
  | x :: xs, _, h, hs, h' => by
    obtain ⟨w, r, rfl, h1, h2⟩ := h'
    obtain ⟨a1, a2⟩ := Bool.and_eq_true_iff.mp (show (x.plain1 && xs.all D.plain1) = true from h)
    show (D.eqv x d || xs.any fun z => D.eqv z d) = (eqV w v || r.any fun y => eqV y v)
    rw [(plain1_V a1 (Rep.seen h1)).2 hd hs, plain1_in hd a2 hs h2]; rfl
/-! ### dicts -/
theorem op_din (hu : X.A.units + 1 < cLine) : OpR X (compareOp .In) (fun x y H Q => ∃ a o, y = .ref a ∧ DGet H a x o ∧ Q (.bl o.isSome) H) := by
  intro pins s σ H x y v u Q I rx ry h
  obtain ⟨a, o, rfl, g, q⟩ := h
  cases ry
  exact d_in hu I g rx fun s' I' => ⟨.bl _, H, I', rfl, q⟩
theorem op_dnotin (hu : X.A.units + 1 < cLine) : OpR X (compareOp .NotIn) (fun x y H Q => ∃ a o, y = .ref a ∧ DGet H a x o ∧ Q (.bl (!o.isSome)) H) := by
  intro pins s σ H x y v u Q I rx ry h
  obtain ⟨a, o, rfl, g, q⟩ := h
  cases ry
  exact d_notIn hu I g rx fun s' I' => ⟨.bl _, H, I', rfl, q⟩
theorem dgetL_val {κ : Type} [DecidableEq κ] (ek : κ → D) (inj : ∀ a b, ek a = ek b → a = b) (k : κ) : ∀ {kvs : List (κ × V)} {ds : List D}, Reps K ρ n L H ds (kvs.map (·.2)) →
    (∀ d, dgetL (kvs.map fun p => ek p.1) ds (ek k) = some d → ∃ v, valV kvs k = some v ∧ Rep K ρ n L H d v) ∧ (dgetL (kvs.map fun p => ek p.1) ds (ek k) = none → valV kvs k = none)
  | [], ds, h => ⟨fun d z => (by cases z), fun _ => rfl⟩
  | p :: kvs, [], h => by cases (show _ = [] from h)
  | p :: kvs, d :: ds, h => by
    obtain ⟨v, r, e, h1, h2⟩ := h
    rw [List.map_cons] at e
    injection e with e1 e2
    subst e1 e2
    have ih := dgetL_val ek inj k h2
    show (∀ d', (if D.beq (ek p.1) (ek k) then some d else dgetL (kvs.map fun p => ek p.1) ds (ek k)) = some d' → _) ∧ ((if D.beq (ek p.1) (ek k) then some d else dgetL (kvs.map fun p => ek p.1) ds (ek k)) = none → _)
    by_cases hk : p.1 = k
    · rw [if_pos ((D.beq_iff _ _).mpr (by rw [hk])), valV_pos hk]
      exact ⟨fun d' z => by cases z; exact ⟨_, rfl, h1⟩, fun z => by cases z⟩
    · rw [if_neg (fun z => hk (inj _ _ ((D.beq_iff _ _).mp z))), valV_neg hk]
      exact ih
theorem dsetL_val {κ : Type} [DecidableEq κ] (ek : κ → D) (inj : ∀ a b, ek a = ek b → a = b) (k : κ) {d : D} {v : V} (hd : Rep K ρ n L H d v) : ∀ {kvs : List (κ × V)} {ds : List D}, Reps K ρ n L H ds (kvs.map (·.2)) →
    Reps K ρ n L H (dsetL (kvs.map fun p => ek p.1) ds (ek k) d) ((kvs.map fun kv => if kv.1 = k then (kv.1, v) else kv).map (·.2))
  | [], ds, h => h
  | p :: kvs, [], h => by cases (show _ = [] from h)
  | p :: kvs, e :: ds, h => by
    obtain ⟨w, r, e', h1, h2⟩ := h
    rw [List.map_cons] at e'
    injection e' with e1 e2
    subst e1 e2
    have ih := dsetL_val ek inj k hd h2
    refine ⟨(if p.1 = k then (p.1, v) else p).2, _, rfl, ?_, ih⟩
    by_cases hk : p.1 = k
    · rw [if_pos ((D.beq_iff _ _).mpr (show ek p.1 = ek k by rw [hk])), if_pos hk]; exact hd
    · rw [if_neg (fun z => hk (inj _ _ ((D.beq_iff _ _).mp z))), if_neg hk]; exact h1
theorem dputL_val {κ : Type} [DecidableEq κ] (ek : κ → D) (inj : ∀ a b, ek a = ek b → a = b) (k : κ) {d : D} {v : V} (hd : Rep K ρ n L H d v) {kvs : List (κ × V)} {ds : List D} (h : Reps K ρ n L H ds (kvs.map (·.2))) :
    (dputL (kvs.map fun p => ek p.1) ds (ek k) d).1 = (putK kvs k v).map (fun p => ek p.1) ∧ Reps K ρ n L H (dputL (kvs.map fun p => ek p.1) ds (ek k) d).2 ((putK kvs k v).map (·.2)) := by
  have hany : ((kvs.map fun p => ek p.1).any fun x => D.beq x (ek k)) = kvs.any fun kv => decide (kv.1 = k) := by
    rw [List.any_map]
    refine congrArg (fun f => kvs.any f) (funext fun p => ?_)
    show D.beq (ek p.1) (ek k) = decide (p.1 = k)
    by_cases hk : p.1 = k
    · rw [(D.beq_iff _ _).mpr (by rw [hk]), decide_eq_true hk]
    · rw [decide_eq_false hk]
      exact Bool.eq_false_iff.mpr fun z => hk (inj _ _ ((D.beq_iff _ _).mp z))
  unfold dputL putK
  rw [hany]
  split
  · refine ⟨?_, dsetL_val ek inj k hd h⟩
    rw [List.map_map]
    refine List.map_congr_left fun p _ => ?_
    show ek p.1 = ek (if p.1 = k then (p.1, v) else p).1
    split <;> rfl
  · refine ⟨by rw [List.map_append]; rfl, ?_⟩
    rw [List.map_append]
    exact h.append ⟨v, [], rfl, hd, rfl⟩
theorem kD_of {d : D} (h : keyOk 0 d = true) : ∃ k : Key, d = kD k := by
  cases d <;> first | (cases h; done) | skip
  · exact ⟨.inl _, rfl⟩
  · exact ⟨.inr _, rfl⟩
theorem kDs_of : ∀ {ds : List D}, (ds.all fun d => match d with
    | .int _ => true
    | .str _ => true
    | _ => false) = true → ∃ p : List Key, ds = p.map kD
  | [], _ => ⟨[], rfl⟩
  | d :: ds, h => by
    obtain ⟨h1, h2⟩ := Bool.and_eq_true_iff.mp (show (_ && ds.all _) = true from h)
    obtain ⟨p, rfl⟩ := kDs_of h2
    cases d <;> first | (cases h1; done) | skip
    · exact ⟨.inl _ :: p, rfl⟩
    · exact ⟨.inr _ :: p, rfl⟩
theorem kT_of {d : D} (h : keyOk 1 d = true) : ∃ p : List Key, d = .tup (p.map kD) := by
  cases d <;> first | (cases h; done) | skip
  obtain ⟨p, e⟩ := kDs_of h
  exact ⟨p, by rw [e]⟩
theorem Rep.kD {k : Key} {v : V} (h : Rep K ρ n L H (kD k) v) : v = kV k := by cases k <;> exact h
theorem Reps.kD : ∀ {p : List Key} {vs : List V}, Reps K ρ n L H (p.map Gp.kD) vs → vs = p.map kV
  | [], _, h => h
  | k :: p, _, h => by
    obtain ⟨v, r, rfl, h1, h2⟩ := h
    rw [List.map_cons, Rep.kD h1, Reps.kD h2]
theorem kT_inj {a b : List Key} (h : D.tup (a.map kD) = D.tup (b.map kD)) : a = b := kDs_inj (D.tup.inj h)
theorem keyOk_lt {t : Nat} {d : D} (h : keyOk t d = true) : t = 0 ∨ t = 1 := by
  match t with
  | 0 => exact .inl rfl
  | 1 => exact .inr rfl
  | t + 2 => cases d <;> cases h
/-- what a dict holds at a key -/
theorem dct_get {t : Nat} {ks ds : List D} {a : Addr} {key : D} {x : V} (c : Cont K ρ n L H a (.dct t ks ds)) (hk : keyOk t key = true) (hx : Seen K ρ n L H key x) :
    ∃ o : Option V, DGet H a x o ∧ (∀ d, dgetL ks ds key = some d → ∃ v, o = some v ∧ Rep K ρ n L H d v) ∧ (dgetL ks ds key = none → o = none) := by
  obtain ⟨o, ha, vs, hq, hr⟩ := c
  rcases keyOk_lt hk with rfl | rfl
  · obtain ⟨k, rfl⟩ := kD_of hk
    obtain ⟨kvs, rfl, rfl, rfl⟩ := hq
    have hx' : x = kV k := by cases k <;> exact hx
    subst hx'
    exact ⟨_, DGet.k ha, dgetL_val kD (fun _ _ => kD_inj) k hr⟩
  · obtain ⟨p, rfl⟩ := kT_of hk
    obtain ⟨kvs, rfl, rfl, rfl⟩ := hq
    obtain ⟨b, ws, rfl, hb, hw⟩ := hx
    rw [Reps.kD hw] at hb
    exact ⟨_, DGet.t ha hb, dgetL_val (fun p : List Key => D.tup (p.map kD)) (fun _ _ => kT_inj) p hr⟩
/-- a dict behind a store -/
theorem dct_put {t : Nat} {ks ds : List D} {a : Addr} {key d : D} {x v : V} (c : Cont K ρ n L H a (.dct t ks ds)) (hk : keyOk t key = true) (hl : ks.length < 1000000) (hx : Rep K ρ n L H key x) (hd : Rep K ρ n L H d v) :
    ∃ o, DPut H a x v (upd H a o) ∧ ContO K ρ n L H a o (.dct t (dputL ks ds key d).1 (dputL ks ds key d).2) := by
  obtain ⟨o, ha, vs, hq, hr⟩ := c
  rcases keyOk_lt hk with rfl | rfl
  · obtain ⟨k, rfl⟩ := kD_of hk
    obtain ⟨kvs, rfl, rfl, rfl⟩ := hq
    rw [Rep.kD hx]
    obtain ⟨e1, e2⟩ := dputL_val kD (fun _ _ => kD_inj) k hd hr
    exact ⟨_, DPut.k ha (Nat.lt_of_lt_of_le (by simpa using hl) line6), _, ⟨putK kvs k v, rfl, e1, rfl⟩, e2⟩
  · obtain ⟨p, rfl⟩ := kT_of hk
    obtain ⟨kvs, rfl, rfl, rfl⟩ := hq
    obtain ⟨b, ws, rfl, hb, hw⟩ := hx
    rw [Reps.kD hw] at hb
    obtain ⟨e1, e2⟩ := dputL_val (fun p : List Key => D.tup (p.map kD)) (fun _ _ => kT_inj) p hd hr
    exact ⟨_, DPut.t ha hb (Nat.lt_of_lt_of_le (by simpa using hl) line6), _, ⟨putK kvs p v, rfl, e1, rfl⟩, e2⟩
theorem dct_some {ks ds : List D} {key : D} {o : Option V} (g1 : ∀ d, dgetL ks ds key = some d → ∃ v, o = some v ∧ Rep K ρ n L H d v) (g2 : dgetL ks ds key = none → o = none) : (dgetL ks ds key).isSome = o.isSome := by
  cases h : dgetL ks ds key with
  | none => rw [g2 h]; rfl
  | some d => obtain ⟨v, e, _⟩ := g1 d h; rw [e]; rfl
theorem ix_dict (hu : X.A.units + 1 < cLine) : IxR X (fun x y H Q => ∃ a v, x = .ref a ∧ DGet H a y (some v) ∧ Q v H) := by
  intro value slice pins s σ H x y v u Q I rx ry h hs
  obtain ⟨a, z, rfl, g, q⟩ := h
  cases rx
  exact PyProof.Rows.tail_any (dict_typeIs I g) PySem.F.slot_dict_getitem.lookup (d_getItem hu I g ry fun w' s' I' rw' => ⟨z, H, I', rw', q⟩) hs
theorem cmp_ok (hu : X.A.units + 66 < cLine) : ∀ op : COp, OpR X (compareOp op.py) (rOf X.K (cmpF op))
  | .eq => (op_eqD (by omega)).imp fun x y H Q ⟨A, ρ, σ, st, d, e, z, r, s1, s2, hz, q⟩ => by
    obtain ⟨hd, rfl⟩ := ite_some hz
    obtain ⟨h1, h2⟩ := Bool.and_eq_true_iff.mp hd
    obtain ⟨a, a1, a2, a3⟩ := D.pd_of _ _ h1
    obtain ⟨b, b1, b2, b3⟩ := D.pd_of _ _ h2
    refine ⟨a, b, s1.dp a1, s2.dp b1, shaped_of a2 a3 (by decide), shaped_of b2 b3 (by decide), ?_⟩
    rw [← D.eqv_pd d e a b a1 b1]
    exact fin_val (z := .bl (D.eqv d e)) r (show V.bl _ = V.bl _ from rfl) rfl q
  | .ne => (op_neD (by omega)).imp fun x y H Q ⟨A, ρ, σ, st, d, e, z, r, s1, s2, hz, q⟩ => by
    obtain ⟨hd, rfl⟩ := ite_some hz
    obtain ⟨h1, h2⟩ := Bool.and_eq_true_iff.mp hd
    obtain ⟨a, a1, a2, a3⟩ := D.pd_of _ _ h1
    obtain ⟨b, b1, b2, b3⟩ := D.pd_of _ _ h2
    refine ⟨a, b, s1.dp a1, s2.dp b1, shaped_of a2 a3 (by decide), shaped_of b2 b3 (by decide), ?_⟩
    rw [← D.eqv_pd d e a b a1 b1]
    exact fin_val (z := .bl (!D.eqv d e)) r (show V.bl _ = V.bl _ from rfl) rfl q
  | .lt => ord_ok op_lt (cmp_ord (fun _ _ => rfl) fun _ _ => rfl)
  | .le => ord_ok op_le (cmp_ord (fun _ _ => rfl) fun _ _ => rfl)
  | .gt => ord_ok op_gt (cmp_ord (fun _ _ => rfl) fun _ _ => rfl)
  | .ge => ord_ok op_ge (cmp_ord (fun _ _ => rfl) fun _ _ => rfl)
  | .isn => (OpR.or op_isN op_is_bl).imp fun x y H Q ⟨A, ρ, σ, st, d, e, z, r, s1, s2, hz, q⟩ => by
    obtain ⟨k, hk, rfl⟩ := omap_some (show (isF d e).map _ = some z from hz)
    rcases isF_cases hk with ⟨rfl, rfl⟩ | ⟨a, b, rfl, rfl, rfl⟩
    · refine .inl ⟨s2, ?_⟩
      rw [← isNon_of s1]
      exact fin_val (z := .bl d.isNon) r (show V.bl _ = V.bl _ from rfl) rfl q
    · refine .inr ⟨a, b, s1, s2, ?_⟩
      rw [show (decide (a = b) : Bool) = (a == b) by cases a <;> cases b <;> rfl]
      exact fin_val (z := .bl (a == b)) r (show V.bl _ = V.bl _ from rfl) rfl q
  | .notn => (OpR.or op_notN op_isnot_bl).imp fun x y H Q ⟨A, ρ, σ, st, d, e, z, r, s1, s2, hz, q⟩ => by
    obtain ⟨k, hk, rfl⟩ := omap_some (show (isF d e).map _ = some z from hz)
    rcases isF_cases hk with ⟨rfl, rfl⟩ | ⟨a, b, rfl, rfl, rfl⟩
    · refine .inl ⟨s2, ?_⟩
      rw [← isNon_of s1]
      exact fin_val (z := .bl (!d.isNon)) r (show V.bl _ = V.bl _ from rfl) rfl q
    · refine .inr ⟨a, b, s1, s2, ?_⟩
      rw [show (decide (a = b) : Bool) = (a == b) by cases a <;> cases b <;> rfl]
      exact fin_val (z := .bl (!(a == b))) r (show V.bl _ = V.bl _ from rfl) rfl q
  | .inn => (OpR.or (op_din (by omega)) (OpR.or (op_inD (by omega)) op_in_seq)).imp fun x y H Q ⟨A, ρ, σ, st, d, e, z, r, s1, s2, hz, q⟩ => by
    obtain ⟨k, hk, rfl⟩ := omap_some (show (inF d e).map _ = some z from hz)
    have fin := fin_val (z := .bl k) r (show V.bl k = V.bl k from rfl) rfl q
    rcases inF_cases hk with ⟨t, ks, vs, rfl, hko, rfl⟩ | ⟨xs, rfl, h1, h2, rfl⟩ | ⟨xs, rfl, h1, h2, rfl⟩
    · obtain ⟨a, rfl, c⟩ := s2
      obtain ⟨o, g, g1, g2⟩ := dct_get c hko s1
      refine .inl ⟨a, o, rfl, g, ?_⟩
      rw [← dct_some g1 g2]
      exact fin
    · obtain ⟨a, a1, a2, a3⟩ := D.pd_of _ _ h1
      obtain ⟨bs, b1, b2, b3⟩ := D.pd_of 61 (.lst xs) h2
      rw [D.pd] at b1
      cases hp : D.pds xs with
      | none => rw [hp] at b1; cases b1
      | some es =>
        rw [hp] at b1; cases b1
        refine .inr (.inl ⟨a, es, s1.dp a1, s2.dp (by rw [D.pd, hp]; rfl), shaped_of a2 a3 (by decide), shaped_of b2 b3 (by decide), ?_⟩)
        rw [← any_pd xs es hp a1]
        exact fin
    · obtain ⟨a, vs, rfl, h3, h4⟩ := s2
      refine .inr (.inr ⟨a, vs, rfl, .inr (SqT.of h3), (plain1_V h1 s1).1, plain1_all h2 h4, ?_⟩)
      rw [if_neg Bool.false_ne_true, ← plain1_in h1 h2 s1 h4]
      exact fin
  | .notin => (OpR.or (op_dnotin (by omega)) (OpR.or (op_notInD (by omega)) op_notIn_seq)).imp fun x y H Q ⟨A, ρ, σ, st, d, e, z, r, s1, s2, hz, q⟩ => by
    obtain ⟨k, hk, rfl⟩ := omap_some (show (inF d e).map _ = some z from hz)
    have fin := fin_val (z := .bl (!k)) r (show V.bl (!k) = V.bl (!k) from rfl) rfl q
    rcases inF_cases hk with ⟨t, ks, vs, rfl, hko, rfl⟩ | ⟨xs, rfl, h1, h2, rfl⟩ | ⟨xs, rfl, h1, h2, rfl⟩
    · obtain ⟨a, rfl, c⟩ := s2
      obtain ⟨o, g, g1, g2⟩ := dct_get c hko s1
      refine .inl ⟨a, o, rfl, g, ?_⟩
      rw [← dct_some g1 g2]
      exact fin
    · obtain ⟨a, a1, a2, a3⟩ := D.pd_of _ _ h1
      obtain ⟨bs, b1, b2, b3⟩ := D.pd_of 61 (.lst xs) h2
      rw [D.pd] at b1
      cases hp : D.pds xs with
      | none => rw [hp] at b1; cases b1
      | some es =>
        rw [hp] at b1; cases b1
        refine .inr (.inl ⟨a, es, s1.dp a1, s2.dp (by rw [D.pd, hp]; rfl), shaped_of a2 a3 (by decide), shaped_of b2 b3 (by decide), ?_⟩)
        rw [← any_pd xs es hp a1]
        exact fin
    · obtain ⟨a, vs, rfl, h3, h4⟩ := s2
      refine .inr (.inr ⟨a, vs, rfl, .inr (SqT.of h3), (plain1_V h1 s1).1, plain1_all h2 h4, ?_⟩)
      rw [if_pos rfl, ← plain1_in h1 h2 s1 h4]
      exact fin
theorem place_ixN (n : Nat) (i : Int) : place n i = ixN n i := rfl
theorem sIx_eq (n d : Nat) (o : Option Int) : sIx n d o = HT.sIx n d o := by cases o <;> rfl
/-- what an operator by data asks that makes nothing new -/
def rOfV (K : PySem.W.Frag) (F : D → D → Option D) : R2 := fun x y H Q => ∃ A ρ σ st d e z, Rel K A ρ σ H st ∧ Seen K ρ st.S.length (Ch A ρ σ st) H d x ∧ Seen K ρ st.S.length (Ch A ρ σ st) H e y ∧ F d e = some z ∧
  ∀ w, Rep K ρ st.S.length (Ch A ρ σ st) H z w → Q w H
/-- a subscript -/
theorem item_ok (hu : X.A.units + 1 < cLine) : IxR X (rOfV X.K itemF) := ((ix_list.or ix_tup).or (ix_dict hu)).imp fun x y H Q ⟨A, ρ, σ, st, d, e, z, r, s1, s2, hz, q⟩ => by
  have key : ∀ (ds : List D) (vs : List V) (i : Int), Reps X.K ρ st.S.length (Ch A ρ σ st) H ds vs → (place ds.length i).bind (fun k => ds[k]?) = some z → ∃ w, atI vs i = some w ∧ Rep X.K ρ st.S.length (Ch A ρ σ st) H z w := fun ds vs i hr hz => by
    cases p : place ds.length i with
    | none => rw [p] at hz; cases hz
    | some k =>
      rw [p] at hz
      obtain ⟨w, w1, w2⟩ := hr.get (show ds[k]? = some z from hz)
      refine ⟨w, ?_, w2⟩
      unfold atI
      rw [hr.length, ← place_ixN, p]
      exact w1
  unfold itemF at hz
  split at hz
  · obtain ⟨a, vs, rfl, h1, h2⟩ := s1
    obtain ⟨w, w1, w2⟩ := key _ _ _ h2 hz
    exact .inl (.inl ⟨a, vs, _, w, rfl, s2, h1, w1, q w w2⟩)
  · obtain ⟨a, vs, rfl, h1, h2⟩ := s1
    obtain ⟨w, w1, w2⟩ := key _ _ _ h2 hz
    exact .inl (.inr ⟨a, vs, _, w, rfl, s2, SqT.of h1, w1, q w w2⟩)
  · obtain ⟨hk, hz⟩ := (show keyOk _ e = true ∧ dgetL _ _ e = some z by
      split at hz
      · exact ⟨by assumption, hz⟩
      · cases hz)
    obtain ⟨a, rfl, c⟩ := s1
    obtain ⟨o, g, g1, _⟩ := dct_get c hk s2
    obtain ⟨v, rfl, hv⟩ := g1 z hz
    exact .inr ⟨a, v, rfl, g, q v hv⟩
  · cases hz
theorem cut_eq {K : PySem.W.Frag} {ρ : Nat → Addr} {n : Nat} {L : Addr → Prop} {H : Hp} {ds : List D} {vs : List V} (h : Reps K ρ n L H ds vs) (lo hi : Option Int) : Reps K ρ n L H (cutD ds lo hi) (cutV vs lo hi) := by
  unfold cutD cutV
  rw [h.length, sIx_eq, sIx_eq]
  exact (h.drop _).take _
/-- a slice -/
theorem cut_ok : SlR X (fun x lo hi H Q => ∃ A ρ σ st d z, Rel X.K A ρ σ H st ∧ Seen X.K ρ st.S.length (Ch A ρ σ st) H d x ∧ cutF d lo hi = some z ∧
    ∀ w H', Fr A ρ σ H st ρ σ H' st → Fresh X.K A σ H st (.v z) ρ w H' st → Q w H') := by
  have h := SlR.or (X := X) sl_list sl_tup
  intro pins s σ0 H x v vl vu lo hi sl Q I rx hs pl pu ⟨A, ρ, σ, st, d, z, r, s1, hz, q⟩
  refine h pins s σ0 H x v vl vu lo hi sl Q I rx hs pl pu ?_
  unfold cutF at hz
  split at hz
  · cases hz
    obtain ⟨a, vs, rfl, h1, h2⟩ := s1
    exact .inl ⟨a, vs, rfl, h1, fin_lst r (cut_eq h2 lo hi) q⟩
  · split at hz
    · cases hz
    · rename_i hn
      cases hz
      obtain ⟨a, vs, rfl, h1, h2⟩ := s1
      refine .inr ⟨a, vs, rfl, SqT.of h1, ?_, fin_tup r (cut_eq h2 lo hi) q⟩
      rw [h2.length, ← sIx_eq, ← sIx_eq]; exact hn
  · cases hz

/-! ### built-ins of one argument -/
def rOf1 (K : PySem.W.Frag) (F : D → Option D) : List V → Hp → VK → Prop := fun xs H Q => ∃ A ρ σ st d z x, xs = [x] ∧ Rel K A ρ σ H st ∧ Seen K ρ st.S.length (Ch A ρ σ st) H d x ∧ F d = some z ∧
  ∀ w H', Fr A ρ σ H st ρ σ H' st → Fresh K A σ H st (.v z) ρ w H' st → Q w H'
def B1.py : B1 → Str × Value
  | .len => ("len", .builtin "len") | .all => ("all", .builtin "all") | .any => ("any", .builtin "any") | .list => ("list", .type "list") | .sum => ("sum", .builtin "sum") | .int => ("int", .type "int") | .abs => ("abs", .builtin "abs") | .tuple => ("tuple", .type "tuple") | .maxl => ("max", .builtin "max") | .minl => ("min", .builtin "min") | .sorted => ("sorted", .builtin "sorted") | .dict => ("dict", .type "dict") | .str => ("str", .type "str")
end
theorem foldmax : ∀ (is : List Int) (i : Int), (is.foldl (fun m j => if m < j then j else m) i) ∈ i :: is ∧ ∀ y ∈ i :: is, y ≤ is.foldl (fun m j => if m < j then j else m) i
  | [], i => ⟨List.mem_cons_self, fun y h => by rw [List.mem_singleton.mp h]; exact Int.le_refl _⟩
  | j :: is, i => by
    obtain ⟨h1, h2⟩ := foldmax is (if i < j then j else i)
    rw [List.foldl_cons]
    refine ⟨?_, fun y hy => ?_⟩
    · rcases List.mem_cons.mp h1 with h | h
      · rw [h]
        split
        · exact List.mem_cons_of_mem _ List.mem_cons_self
        · exact List.mem_cons_self
      · exact List.mem_cons_of_mem _ (List.mem_cons_of_mem _ h)
    · have h3 := h2 _ List.mem_cons_self
      have l1 : i ≤ (if i < j then j else i) := by split <;> omega
      have l2 : j ≤ (if i < j then j else i) := by split <;> omega
      rcases List.mem_cons.mp hy with h | h
      · rw [h]; exact Int.le_trans l1 h3
      · rcases List.mem_cons.mp h with h | h
        · rw [h]; exact Int.le_trans l2 h3
        · exact h2 y (List.mem_cons_of_mem _ h)
theorem foldmin : ∀ (is : List Int) (i : Int), (is.foldl (fun m j => if j < m then j else m) i) ∈ i :: is ∧ ∀ y ∈ i :: is, is.foldl (fun m j => if j < m then j else m) i ≤ y
  | [], i => ⟨List.mem_cons_self, fun y h => by rw [List.mem_singleton.mp h]; exact Int.le_refl _⟩
  | j :: is, i => by
    obtain ⟨h1, h2⟩ := foldmin is (if j < i then j else i)
    rw [List.foldl_cons]
    refine ⟨?_, fun y hy => ?_⟩
    · rcases List.mem_cons.mp h1 with h | h
      · rw [h]
        split
        · exact List.mem_cons_of_mem _ List.mem_cons_self
        · exact List.mem_cons_self
      · exact List.mem_cons_of_mem _ (List.mem_cons_of_mem _ h)
    · have h3 := h2 _ List.mem_cons_self
      have l1 : (if j < i then j else i) ≤ i := by split <;> omega
      have l2 : (if j < i then j else i) ≤ j := by split <;> omega
      rcases List.mem_cons.mp hy with h | h
      · rw [h]; exact Int.le_trans h3 l1
      · rcases List.mem_cons.mp h with h | h
        · rw [h]; exact Int.le_trans h3 l2
        · exact h2 y (List.mem_cons_of_mem _ h)
theorem maxI_of {is : List Int} {m n : Int} (h : maxI is = some m) (h1 : n ∈ is) (h2 : ∀ y, y ∈ is → y ≤ n) : n = m ∧ 0 < is.length := by
  cases is with
  | nil => cases h
  | cons i is =>
    cases h
    obtain ⟨h3, h4⟩ := foldmax is i
    exact ⟨Int.le_antisymm (h4 n h1) (h2 _ h3), Nat.succ_pos _⟩
theorem minI_of {is : List Int} {m n : Int} (h : minI is = some m) (h1 : n ∈ is) (h2 : ∀ y, y ∈ is → n ≤ y) : n = m ∧ 0 < is.length := by
  cases is with
  | nil => cases h
  | cons i is =>
    cases h
    obtain ⟨h3, h4⟩ := foldmin is i
    exact ⟨Int.le_antisymm (h2 _ h3) (h4 n h1), Nat.succ_pos _⟩
theorem insI_perm (i : Int) : ∀ js : List Int, (insI i js).Perm (i :: js)
  | [] => List.Perm.refl _
  | j :: js => by
    unfold insI
    split
    · exact List.Perm.refl _
    · exact ((insI_perm i js).cons j).trans (List.Perm.swap i j js)
theorem insI_sorted (i : Int) : ∀ js : List Int, js.Pairwise (· ≤ ·) → (insI i js).Pairwise (· ≤ ·)
  | [], _ => List.pairwise_singleton _ _
  | j :: js, h => by
    unfold insI
    obtain ⟨h1, h2⟩ := List.pairwise_cons.mp h
    split
    · rename_i hij
      exact List.pairwise_cons.mpr ⟨fun y hy => by
        rcases List.mem_cons.mp hy with z | z
        · rw [z]; exact hij
        · exact Int.le_trans hij (h1 y z), h⟩
    · rename_i hij
      refine List.pairwise_cons.mpr ⟨fun y hy => ?_, insI_sorted i js h2⟩
      rcases List.mem_cons.mp ((insI_perm i js).mem_iff.mp hy) with z | z
      · rw [z]; omega
      · exact h1 y z
theorem sortI_perm : ∀ is : List Int, (sortI is).Perm is
  | [] => List.Perm.refl _
  | i :: is => (insI_perm i (sortI is)).trans ((sortI_perm is).cons i)
theorem sortI_sorted : ∀ is : List Int, (sortI is).Pairwise (· ≤ ·)
  | [] => List.Pairwise.nil
  | i :: is => insI_sorted i (sortI is) (sortI_sorted is)
theorem sorted_eq : ∀ {xs ys : List Int}, xs.Perm ys → xs.Pairwise (· ≤ ·) → ys.Pairwise (· ≤ ·) → xs = ys
  | [], ys, p, _, _ => (List.Perm.nil_eq p)
  | x :: xs, [], p, _, _ => by have := p.length_eq; cases this
  | x :: xs, y :: ys, p, h1, h2 => by
    obtain ⟨a1, a2⟩ := List.pairwise_cons.mp h1
    obtain ⟨b1, b2⟩ := List.pairwise_cons.mp h2
    have e : x = y := by
      have m1 : x ∈ y :: ys := p.mem_iff.mp List.mem_cons_self
      have m2 : y ∈ x :: xs := p.mem_iff.mpr List.mem_cons_self
      rcases List.mem_cons.mp m1 with z | z
      · exact z
      · rcases List.mem_cons.mp m2 with w | w
        · exact w.symm
        · exact Int.le_antisymm (a1 y w) (b1 x z)
    subst e
    rw [sorted_eq (List.Perm.cons_inv p) a2 b2]
section
variable [Cfg] {K : PySem.W.Frag} {A : Addr → Prop} {ρ ρ' : Nat → Addr} {σ : L2.St} {H H' : Hp} {st st' : Sta} {n : Nat} {L : Addr → Prop} {X : Cx}
theorem len_cases {d z : D} (h : b1F .len d = some z) : (∃ ks vs, d = .dct 0 ks vs ∧ z = .int ks.length) ∨ (∃ ds, d = .lst ds ∧ z = .int ds.length) ∨ ∃ ds, d = .tup ds ∧ z = .int ds.length := by
  cases d with
  | lst ds => cases h; exact .inr (.inl ⟨ds, rfl, rfl⟩)
  | tup ds => cases h; exact .inr (.inr ⟨ds, rfl, rfl⟩)
  | dct k ks vs =>
    cases k with
    | zero => cases h; exact .inl ⟨ks, vs, rfl, rfl⟩
    | succ k => cases h
  | _ => cases h
theorem dmerge_val : ∀ {ds : List D} {vs : List V} {acc p : List D × List D} {kv0 : List (Key × V)}, Reps K ρ n L H ds vs → (acc.1 = kv0.map (fun q => kD q.1) ∧ Reps K ρ n L H acc.2 (kv0.map (·.2))) → dmerge ds acc = some p →
    ∃ (ps : List Addr) (kvs : List (Key × V)), vs = ps.map V.ref ∧ Paired (fun p kv => SqT K H p [kV kv.1, kv.2]) ps kvs ∧ (p.1 = (mergeK kv0 kvs).map (fun q => kD q.1) ∧ Reps K ρ n L H p.2 ((mergeK kv0 kvs).map (·.2)))
  | [], vs, acc, p, kv0, h, ha, e => by
    cases e
    exact ⟨[], [], h, .nil, ha⟩
  | d :: ds, vs, acc, p, kv0, h, ha, e => by
    obtain ⟨v, r, rfl, h1, h2⟩ := h
    cases d <;> first | (cases e; done) | skip
    rename_i xs
    match xs, e with
    | [k, w], e =>
      obtain ⟨hk, e⟩ := (show keyOk 0 k = true ∧ dmerge ds (dputL acc.1 acc.2 k w) = some p by
        have e : (if keyOk 0 k then dmerge ds (dputL acc.1 acc.2 k w) else none) = some p := e
        split at e
        · exact ⟨by assumption, e⟩
        · cases e)
      obtain ⟨key, rfl⟩ := kD_of hk
      obtain ⟨b, ws, rfl, hb, x, rx, rfl, hx, y, ry, rfl, hy, hz⟩ := h1
      rw [show ry = [] from hz] at hb
      rw [Rep.kD hx] at hb
      obtain ⟨a1, a2⟩ := ha
      have hput := dputL_val kD (fun _ _ => kD_inj) key hy (kvs := kv0) (ds := acc.2) a2
      rw [← a1] at hput
      obtain ⟨ps, kvs, e1, e2, e3⟩ := dmerge_val (kv0 := putK kv0 key y) h2 hput e
      exact ⟨b :: ps, (key, y) :: kvs, by rw [e1]; rfl, .cons (SqT.of hb) e2, e3⟩
    | [], e => cases e
    | [_], e => cases e
    | _ :: _ :: _ :: _, e => cases e
theorem b1_ok (hc : X.calm = true) : ∀ b : B1, CallR X b.py.2 (rOf1 X.K (b1F b))
  | .dict => (call_dictP hc).imp fun xs H Q ⟨A, ρ, σ, st, d, z, x, e, r, s1, hz, q⟩ => by
    subst e
    cases d with
    | lst ds =>
      obtain ⟨p, hp, rfl⟩ := omap_some (show (dmerge ds ([], [])).map _ = some z from hz)
      obtain ⟨a, vs, rfl, h1, h2⟩ := s1
      obtain ⟨ps, kvs, e1, e2, e3⟩ := dmerge_val h2 (acc := ([], [])) (kv0 := []) ⟨rfl, rfl⟩ hp
      subst e1
      refine ⟨a, ps, kvs, rfl, h1, e2, fun p' hp' => q _ _ (Fr.laid hp') (Fresh.newO r hp' rfl ⟨_, ⟨_, rfl, e3.1, rfl⟩, e3.2⟩)⟩
    | _ => cases hz
  | .str => call_str_int.imp fun xs H Q ⟨A, ρ, σ, st, d, z, x, e, r, s1, hz, q⟩ => by
    subst e
    cases d with
    | int i =>
      obtain ⟨hi, rfl⟩ := ite_some (show (if strI i then some (D.str (Str.ofString (toString i))) else none) = some z from hz)
      exact ⟨i, by rw [show x = V.int i from s1], hi, fin_val (z := .str _) r (show V.str _ = V.str _ from rfl) rfl q⟩
    | _ => cases hz
  | .len => (CallR.or call_len_seq call_lenD).imp fun xs H Q ⟨A, ρ, σ, st, d, z, x, e, r, s1, hz, q⟩ => by
    subst e
    rcases len_cases hz with ⟨ks, vs, rfl, rfl⟩ | hz
    · obtain ⟨a, rfl, o, ha, ws, ⟨kvs, rfl, rfl, rfl⟩, hr⟩ := s1
      refine .inr ⟨a, kvs, rfl, ha, ?_⟩
      rw [show kvs.length = (kvs.map fun p => kD p.1).length by simp]
      exact fin_val (z := .int _) r (show V.int _ = V.int _ from rfl) rfl q
    refine .inl ?_
    rcases hz with ⟨ds, rfl, rfl⟩ | ⟨ds, rfl, rfl⟩
    · obtain ⟨a, vs, rfl, h1, h2⟩ := s1
      refine ⟨a, vs, rfl, .inl h1, ?_⟩
      rw [h2.length]
      exact fin_val (z := .int _) r (show V.int _ = V.int _ from rfl) rfl q
    · obtain ⟨a, vs, rfl, h1, h2⟩ := s1
      refine ⟨a, vs, rfl, .inr (SqT.of h1), ?_⟩
      rw [h2.length]
      exact fin_val (z := .int _) r (show V.int _ = V.int _ from rfl) rfl q
  | .all => (cr_all hc).imp fun xs H Q ⟨A, ρ, σ, st, d, z, x, e, r, s1, hz, q⟩ => by
    subst e
    cases d with
    | lst ds =>
      obtain ⟨bs, hb, rfl⟩ := omap_some (show (D.bls ds).map _ = some z from hz)
      obtain ⟨a, vs, rfl, h1, h2⟩ := s1
      exact ⟨a, bs, rfl, by rw [← h2.bls hb]; exact h1, fin_val (z := .bl _) r (show V.bl _ = V.bl _ from rfl) rfl q⟩
    | _ => cases hz
  | .any => (cr_any hc).imp fun xs H Q ⟨A, ρ, σ, st, d, z, x, e, r, s1, hz, q⟩ => by
    subst e
    cases d with
    | lst ds =>
      obtain ⟨bs, hb, rfl⟩ := omap_some (show (D.bls ds).map _ = some z from hz)
      obtain ⟨a, vs, rfl, h1, h2⟩ := s1
      exact ⟨a, bs, rfl, by rw [← h2.bls hb]; exact h1, fin_val (z := .bl _) r (show V.bl _ = V.bl _ from rfl) rfl q⟩
    | _ => cases hz
  | .list => call_list_of.imp fun xs H Q ⟨A, ρ, σ, st, d, z, x, e, r, s1, hz, q⟩ => by
    subst e
    cases d <;> cases hz
    · obtain ⟨a, vs, rfl, h1, h2⟩ := s1
      exact ⟨a, vs, rfl, .inl h1, fin_lst r h2 q⟩
    · obtain ⟨a, vs, rfl, h1, h2⟩ := s1
      exact ⟨a, vs, rfl, .inr (SqT.of h1), fin_lst r h2 q⟩
  | .sum => (cr_sum hc).imp fun xs H Q ⟨A, ρ, σ, st, d, z, x, e, r, s1, hz, q⟩ => by
    subst e
    cases d with
    | lst ds =>
      obtain ⟨bs, hb, rfl⟩ := omap_some (show (D.ints ds).map _ = some z from hz)
      obtain ⟨a, vs, rfl, h1, h2⟩ := s1
      exact ⟨a, bs, rfl, by rw [← h2.ints hb]; exact h1, fin_val (z := .int _) r (show V.int _ = V.int _ from rfl) rfl q⟩
    | _ => cases hz
  | .int => call_int1.imp fun xs H Q ⟨A, ρ, σ, st, d, z, x, e, r, s1, hz, q⟩ => by
    subst e
    cases d <;> cases hz
    · rename_i k
      exact .inr ⟨k, by rw [show x = V.bl k from s1], fin_val (z := .int _) r (show V.int _ = V.int _ from rfl) rfl q⟩
    · rename_i k
      exact .inl ⟨k, by rw [show x = V.int k from s1], fin_val (z := .int _) r (show V.int _ = V.int _ from rfl) rfl q⟩
  | .tuple => call_tuple_of.imp fun xs H Q ⟨A, ρ, σ, st, d, z, x, e, r, s1, hz, q⟩ => by
    subst e
    cases d <;> cases hz
    · obtain ⟨a, vs, rfl, h1, h2⟩ := s1
      exact ⟨a, vs, rfl, .inl ⟨h1, fin_tup r h2 q⟩⟩
    · obtain ⟨a, vs, rfl, h1, h2⟩ := s1
      exact ⟨a, vs, rfl, .inr ⟨SqT.of h1, fin_val (z := .tup _) r (show ∃ a vs, _ = V.ref a ∧ _ from ⟨a, vs, rfl, h1, h2⟩) rfl q⟩⟩
  | .maxl => (cr_max hc).imp fun xs H Q ⟨A, ρ, σ, st, d, z, x, e, r, s1, hz, q⟩ => by
    subst e
    cases d with
    | lst ds =>
      obtain ⟨is, hb, hz⟩ := Option.bind_eq_some_iff.mp (show (D.ints ds).bind _ = some z from hz)
      obtain ⟨m, hm, rfl⟩ := omap_some hz
      obtain ⟨a, vs, rfl, h1, h2⟩ := s1
      have hne : 0 < is.length := by
        cases is with
        | nil => cases hm
        | cons _ _ => exact Nat.succ_pos _
      exact ⟨a, is, rfl, by rw [← h2.ints hb]; exact h1, hne, fun n n1 n2 => by
        rw [(maxI_of hm n1 n2).1]
        exact fin_val (z := .int _) r (show V.int _ = V.int _ from rfl) rfl q⟩
    | _ => cases hz
  | .minl => (cr_min hc).imp fun xs H Q ⟨A, ρ, σ, st, d, z, x, e, r, s1, hz, q⟩ => by
    subst e
    cases d with
    | lst ds =>
      obtain ⟨is, hb, hz⟩ := Option.bind_eq_some_iff.mp (show (D.ints ds).bind _ = some z from hz)
      obtain ⟨m, hm, rfl⟩ := omap_some hz
      obtain ⟨a, vs, rfl, h1, h2⟩ := s1
      have hne : 0 < is.length := by
        cases is with
        | nil => cases hm
        | cons _ _ => exact Nat.succ_pos _
      exact ⟨a, is, rfl, by rw [← h2.ints hb]; exact h1, hne, fun n n1 n2 => by
        rw [(minI_of hm n1 n2).1]
        exact fin_val (z := .int _) r (show V.int _ = V.int _ from rfl) rfl q⟩
    | _ => cases hz
  | .sorted => cr_sorted.imp fun xs H Q ⟨A, ρ, σ, st, d, z, x, e, r, s1, hz, q⟩ => by
    subst e
    cases d with
    | lst ds =>
      obtain ⟨is, hb, hz⟩ := Option.bind_eq_some_iff.mp (show (D.ints ds).bind _ = some z from hz)
      obtain ⟨hl, hz⟩ := ite_some hz
      cases hz
      obtain ⟨a, vs, rfl, h1, h2⟩ := s1
      refine ⟨a, is, rfl, by rw [← h2.ints hb]; exact h1, hl, fun ns' p p1 p2 hp => ?_⟩
      have e : ns' = sortI is := sorted_eq (p1.trans (sortI_perm is).symm) p2 (sortI_sorted is)
      subst e
      exact fin_lst r (Reps.map_int _) q p hp
    | _ => cases hz
  | .abs => call_abs.imp fun xs H Q ⟨A, ρ, σ, st, d, z, x, e, r, s1, hz, q⟩ => by
    subst e
    cases d <;> cases hz
    rename_i k
    exact ⟨k, by rw [show x = V.int k from s1], fin_val (z := .int _) r (show V.int _ = V.int _ from rfl) rfl q⟩
def rOf2 (K : PySem.W.Frag) (F : D → D → Option D) : List V → Hp → VK → Prop := fun xs H Q => ∃ A ρ σ st d e z x y, xs = [x, y] ∧ Rel K A ρ σ H st ∧ Rep K ρ st.S.length (Ch A ρ σ st) H d x ∧ Rep K ρ st.S.length (Ch A ρ σ st) H e y ∧ F d e = some z ∧
  ∀ w H', Fr A ρ σ H st ρ σ H' st → Fresh K A σ H st (.v z) ρ w H' st → Q w H'
def B2.py : B2 → Str × Value
  | .min => ("min", .builtin "min") | .max => ("max", .builtin "max")
theorem b2_ok (hc : X.calm = true) : ∀ b : B2, CallR X b.py.2 (rOf2 X.K (b2F b))
  | .min => (call_min2 hc).imp fun xs H Q ⟨A, ρ, σ, st, d, e, z, x, y, ee, r, s1, s2, hz, q⟩ => by
    subst ee
    cases d <;> (first | (cases hz; done) | skip) <;> cases e <;> cases hz
    exact ⟨_, _, by rw [show x = V.int _ from s1, show y = V.int _ from s2], fin_val (z := .int _) r (show V.int _ = V.int _ from rfl) rfl q⟩
  | .max => (call_max2 hc).imp fun xs H Q ⟨A, ρ, σ, st, d, e, z, x, y, ee, r, s1, s2, hz, q⟩ => by
    subst ee
    cases d <;> (first | (cases hz; done) | skip) <;> cases e <;> cases hz
    exact ⟨_, _, by rw [show x = V.int _ from s1, show y = V.int _ from s2], fin_val (z := .int _) r (show V.int _ = V.int _ from rfl) rfl q⟩
/-! ### max, min with a default -/
def rMm (K : PySem.W.Frag) (mx : Bool) : List V → List V → Hp → VK → Prop := fun vs zs H Q => ∃ A ρ σ st d e z x y, vs = [x] ∧ zs = [y] ∧ Rel K A ρ σ H st ∧ Seen K ρ st.S.length (Ch A ρ σ st) H d x ∧ Rep K ρ st.S.length (Ch A ρ σ st) H e y ∧ mmF mx d e = some z ∧
  ∀ w, Rep K ρ st.S.length (Ch A ρ σ st) H z w → Q w H
def mmName (mx : Bool) : String := if mx then "max" else "min"
theorem depth_ints : ∀ is : List Int, PyData.depthAll (is.map PyData.int) = 0
  | [] => rfl
  | i :: is => by
    rw [List.map_cons, PyData.depthAll, depth_ints is]
    rfl
theorem alike_ints (is : List Int) : PySem.W.AlikeAll (is.map PyData.int) := ⟨fun x hx y hy => by
  obtain ⟨_, _, rfl⟩ := List.mem_map.mp hx
  obtain ⟨_, _, rfl⟩ := List.mem_map.mp hy
  rfl, fun x hx => by obtain ⟨_, _, rfl⟩ := List.mem_map.mp hx; intro z; cases z⟩
theorem max_fold : ∀ (is : List Int) (i : Int), is.foldl max i = is.foldl (fun m j => if m < j then j else m) i
  | [], _ => rfl
  | j :: is, i => by
    rw [List.foldl_cons, List.foldl_cons, max_fold is]
    congr 1
    rw [Int.max_def]; split <;> split <;> omega
theorem min_fold : ∀ (is : List Int) (i : Int), is.foldl min i = is.foldl (fun m j => if j < m then j else m) i
  | [], _ => rfl
  | j :: is, i => by
    rw [List.foldl_cons, List.foldl_cons, min_fold is]
    congr 1
    rw [Int.min_def]; split <;> split <;> omega
theorem cr_mm (hc : X.calm = true) (hu : X.A.units + 66 < cLine) : ∀ mx : Bool, CallRK X (.builtin (mmName mx)) [Str.ofString "default"] (rMm X.K mx) := by
  intro mx pins s σ H vs zs us ws Q I r rz h
  obtain ⟨A, ρ, σ', st, d, e, z, x, y, rfl, rfl, rr, s1, s2, hz, q⟩ := h
  cases d with
  | lst ds =>
    obtain ⟨is, hb, hz⟩ := omap_some (show (D.ints ds).map _ = some z from hz)
    obtain ⟨a, vs, rfl, h1, h2⟩ := s1
    have e1 := h2.ints hb
    subst e1
    obtain ⟨its, rv, hl, _⟩ := I.list h1
    rw [Vals.ref1 r]
    obtain ⟨w1, rfl, ry⟩ := vals1 rz
    have hi := rv.ints
    have hrd := hi.reads s.heap
    have hus : X.A.units + 1 + PyData.depthAll (is.map PyData.int) < cLine := by rw [depth_ints]; omega
    show wpAny (model X.prog X.w) X.A (call (.builtin (mmName mx)) [.ref a] [(Str.ofString "default", w1)]) _ _ _
    cases mx with
    | true =>
      refine PySem.W.max_list_default (I.ok.hd hc) hl.isList hrd (alike_ints is) hus (fun h0 h' tk hk => ?_) fun yy ys i v h' tk bs hxs hv hr hk => ?_
      · have h0 : is = [] := by cases is with
          | nil => rfl
          | cons _ _ => cases h0
        subst h0
        exact ⟨y, H, I.kept hk, ry, q y (by rw [hz]; exact s2)⟩
      · cases is with
        | nil => cases hxs
        | cons j js =>
          rw [List.map_cons] at hxs
          injection hxs with e1 e2
          subst e1 e2
          rw [PySem.W.maxD_ints] at hr
          cases hr
          refine ⟨.int _, H, I.kept hk, ⟨_, rfl⟩, q _ ?_⟩
          rw [hz]
          exact congrArg V.int (max_fold js j)
    | false =>
      refine PySem.W.min_list_default (I.ok.hd hc) hl.isList hrd (alike_ints is) hus (fun h0 h' tk hk => ?_) fun yy ys i v h' tk bs hxs hv hr hk => ?_
      · have h0 : is = [] := by cases is with
          | nil => rfl
          | cons _ _ => cases h0
        subst h0
        exact ⟨y, H, I.kept hk, ry, q y (by rw [hz]; exact s2)⟩
      · cases is with
        | nil => cases hxs
        | cons j js =>
          rw [List.map_cons] at hxs
          injection hxs with e1 e2
          subst e1 e2
          rw [PySem.W.minD_ints] at hr
          cases hr
          refine ⟨.int _, H, I.kept hk, ⟨_, rfl⟩, q _ ?_⟩
          rw [hz]
          exact congrArg V.int (min_fold js j)
  | _ => cases hz
/-! ### isinstance -/
def Ty.py : Ty → String
  | .int => "int" | .bool => "bool" | .str => "str" | .list => "list" | .tuple => "tuple" | .dict => "dict"
def D.ty : D → Option String
  | .non => some "NoneType"
  | .bl _ => some "bool"
  | .int _ => some "int"
  | .str _ => some "str"
  | .lst _ => some "list"
  | .tup _ => some "tuple"
  | .loc _ => none
  | .dct _ _ _ => some "dict"
  | .ins _ _ _ => none
theorem isi_kit : ∀ (t : Ty) (d : D) (k : Bool), isiF t d = some k → ∃ y, d.ty = some y ∧ kitB y t.py = some k := by
  intro t d k h
  cases d <;> cases t <;> cases h <;> exact ⟨_, rfl, by decide +kernel⟩
theorem Seen.ty {K : PySem.W.Frag} {ρ : Nat → Addr} {n : Nat} {L : Addr → Prop} {H : Hp} {d : D} {v : V} {y : String} (h : Seen K ρ n L H d v) (e : d.ty = some y) : TyX K H v (.type y) := by
  cases d <;> cases e
  · rw [show v = V.non from h]; exact .base .non
  · rw [show v = V.bl _ from h]; exact .base (.bl _)
  · rw [show v = V.int _ from h]; exact .base (.int _)
  · rw [show v = V.str _ from h]; exact .base (.str _)
  · obtain ⟨a, vs, rfl, (h1 | ⟨o, h1⟩) | ⟨o, its, m, h1, h2, _⟩, _⟩ := h
    · exact .base (.lst h1)
    · exact .base (.frz h1)
    · exact .kList h1 h2
  · obtain ⟨a, vs, rfl, h1, _⟩ := h
    exact .base (.tup h1)
  · rename_i k ks ds
    obtain ⟨a, rfl, o, ha, vs, hq, _⟩ := h
    match k, hq with
    | 0, ⟨kvs, e, _⟩ => exact .base (.dK (by rw [← e]; exact ha))
    | 1, ⟨kvs, e, _⟩ => exact .base (.dT (by rw [← e]; exact ha))
    | _ + 2, h => exact h.elim
theorem isi_ok (t : Ty) : CallR X (.builtin "isinstance") (fun xs H Q => ∃ A ρ σ st d k x, xs = [x, .ty t.py] ∧ Rel X.K A ρ σ H st ∧ Seen X.K ρ st.S.length (Ch A ρ σ st) H d x ∧ isiF t d = some k ∧ Q (.bl k) H) :=
  call_isi.imp fun xs H Q ⟨A, ρ, σ, st, d, k, x, e, r, s1, hk, q⟩ => by
    obtain ⟨y, h1, h2⟩ := isi_kit t d k hk
    exact ⟨x, .ty t.py, _, _, k, e, .ty _, s1.ty h1, kit_ty h2, q⟩
end
end Gp

/-! Gp, part E: objects changed; calls; comprehensions. -/
namespace Gp
open PySem L2

section
variable [Cfg] {K : PySem.W.Frag} {A : Addr → Prop} {ρ ρ' : Nat → Addr} {σ : L2.St} {H H' : Hp} {st st' : Sta} {n : Nat} {L : Addr → Prop}

/-- an object that may change is changed -/
theorem Keep.upd {a : Addr} {o : HO} (r : Rel K A ρ σ H st) (ha : Ch A ρ σ st a) (hs : st'.S.length = st.S.length) (hc : ∀ b, Ch A ρ σ st' b → Ch A ρ σ st b) : Keep ρ st.S.length (Ch A ρ σ st) H ρ st'.S.length (Ch A ρ σ st') (upd H a o) where
  rho := fun _ _ => rfl
  sz := Nat.le_of_eq hs.symm
  at_ := fun b u e l => ⟨by rw [upd_ne (fun z => l (by rw [z]; exact ha))]; exact e, fun q => l (hc b q)⟩
  tup := fun b u e l => by
    obtain ⟨o', e', q⟩ := r.chH l
    rw [e] at e'; cases e'
    exact q
theorem own_set_own {env : Env} {i : Nat} {d d' : D} {a : Addr} (e : env[i]? = some (Slot.own d)) : Own (env.set i (.own d')) σ a ↔ Own env σ a := by
  have hi : i < env.length := (List.getElem?_eq_some_iff.mp e).1
  constructor
  · rintro ⟨j, e', h1, h2⟩
    rcases getElem?_set' h1 with ⟨z1, z⟩ | ⟨_, z⟩
    · subst z1; exact ⟨j, d, e, h2⟩
    · exact ⟨j, e', z, h2⟩
  · rintro ⟨j, e', h1, h2⟩
    by_cases q : j = i
    · subst q; exact ⟨j, d', by rw [List.getElem?_set_self hi], h2⟩
    · exact ⟨j, e', by rw [List.getElem?_set_ne (fun z => q z.symm)]; exact h1, h2⟩
theorem live_set {S : Store} {k : Nat} {xs ys : D} {a : Addr} (e : S[k]? = some (Cell.o xs)) : Live ρ (S.set k (.o ys)) a ↔ Live ρ S a := by
  have hi : k < S.length := (List.getElem?_eq_some_iff.mp e).1
  constructor
  · rintro ⟨j, e', h1, h2⟩
    rcases getElem?_set' h1 with ⟨z1, z⟩ | ⟨_, z⟩
    · subst z1; exact ⟨j, xs, e, h2⟩
    · exact ⟨j, e', z, h2⟩
  · rintro ⟨j, e', h1, h2⟩
    by_cases q : j = k
    · subst q; exact ⟨j, ys, by rw [List.getElem?_set_self hi], h2⟩
    · exact ⟨j, e', by rw [List.getElem?_set_ne (fun z => q z.symm)]; exact h1, h2⟩
theorem like_obj {c d : D} (h : D.like c d = true) (hc : c.obj = true) : d.obj = true := by
  cases c <;> cases d <;> first | (cases h; done) | (cases hc; done) | rfl
theorem Rel.put_own (r : Rel K A ρ σ H st) {i : Nat} {xs ys : D} {a : Addr} {o : HO} (e : st.env[i]? = some (Slot.own xs)) (ea : σ[i]? = some (some (V.ref a))) (hob : ys.obj = true)
    (hw : ContO K ρ st.S.length (Ch A ρ σ st) H a o ys) : Fr A ρ σ H st ρ σ (upd H a o) { st with env := st.env.set i (.own ys) } ∧ Rel K A ρ σ (upd H a o) { st with env := st.env.set i (.own ys) } := by
  have hi : i < st.env.length := (List.getElem?_eq_some_iff.mp e).1
  have hown : Own st.env σ a := ⟨i, _, e, ea⟩
  have hch : ∀ b, Ch A ρ σ { st with env := st.env.set i (.own ys) } b → Ch A ρ σ st b := fun b z => z.elim (fun z => Or.inl z) fun z => z.elim (fun z => Or.inr (Or.inl z)) fun z => Or.inr (Or.inr ((own_set_own e).mp z))
  have kp : Keep ρ st.S.length (Ch A ρ σ st) H ρ st.S.length (Ch A ρ σ { st with env := st.env.set i (.own ys) }) (upd H a o) := Keep.upd (st' := { st with env := st.env.set i (.own ys) }) r (.inr (.inr hown)) rfl hch
  have hA : ¬ A a := by
    obtain ⟨b, q', nb, _⟩ := r.own i _ e
    rw [ea] at q'; cases q'
    exact nb
  refine ⟨⟨fun _ _ => rfl, Nat.le_refl _, fun b o q h1 h2 => by rw [upd_ne (fun z => h2 (by rw [z]; exact hown))]; exact q, fun b q => ?_, fun b q => .inl q, fun b q => .inl ((own_set_own e).mp q), fun _ z => ⟨(busy_set (fun z => by cases z) z).2, rfl⟩⟩,
    ⟨by simpa using r.len, fun j d h => ?_, fun j d h => ?_, fun m zs h => ?_, fun b hb => ?_, fun j k d1 d2 b h1 h2 h3 h4 => ?_, r.cc, fun j d m zs h1 h2 => ?_, fun j d h => ?_⟩⟩
  · by_cases z : b = a
    · subst z; rw [upd_same] at q; cases q
    · rw [upd_ne z] at q; exact q
  · rcases getElem?_set' h with ⟨_, z⟩ | ⟨_, z⟩
    · cases z
    · obtain ⟨v, h1, q⟩ := r.val j d z
      exact ⟨v, h1, Rep.keep kp q⟩
  · rcases getElem?_set' h with ⟨z1, z⟩ | ⟨ne, z⟩
    · cases z; subst z1
      exact ⟨a, ea, hA, o, upd_same, hw.keep kp⟩
    · obtain ⟨b, h1, nb, c⟩ := r.own j d z
      have hne : b ≠ a := fun q => ne (r.oo j i _ _ a z e (by rw [← q]; exact h1) ea)
      exact ⟨b, h1, nb, c.keep kp fun u z => by rw [upd_ne hne]; exact z⟩
  · obtain ⟨na, c⟩ := r.cell m zs h
    have hne : ρ m ≠ a := fun q => r.oc i _ m zs e h (by rw [q]; exact ea)
    exact ⟨na, c.keep kp fun u z => by rw [upd_ne hne]; exact z⟩
  · obtain ⟨o, e1, q⟩ := r.tr b hb
    exact ⟨o, by rw [upd_ne (fun z => hA (by rw [← z]; exact hb))]; exact e1, q⟩
  · have h1' : ∃ d, st.env[j]? = some (Slot.own d) := by
      rcases getElem?_set' h1 with ⟨z1, _⟩ | ⟨_, z⟩
      · subst z1; exact ⟨_, e⟩
      · exact ⟨_, z⟩
    have h2' : ∃ d, st.env[k]? = some (Slot.own d) := by
      rcases getElem?_set' h2 with ⟨z1, _⟩ | ⟨_, z⟩
      · subst z1; exact ⟨_, e⟩
      · exact ⟨_, z⟩
    obtain ⟨d1, h1'⟩ := h1'
    obtain ⟨d2, h2'⟩ := h2'
    exact r.oo j k _ _ b h1' h2' h3 h4
  · have h1' : ∃ d, st.env[j]? = some (Slot.own d) := by
      rcases getElem?_set' h1 with ⟨z1, _⟩ | ⟨_, z⟩
      · subst z1; exact ⟨_, e⟩
      · exact ⟨_, z⟩
    obtain ⟨d1, h1'⟩ := h1'
    exact r.oc j _ m zs h1' h2
  · rcases getElem?_set' h with ⟨_, z⟩ | ⟨_, z⟩
    · cases z; exact hob
    · exact r.ob j d z
theorem Rel.put_cell (r : Rel K A ρ σ H st) {k : Nat} {xs ys : D} {o : HO} (e : st.S[k]? = some (Cell.o xs))
    (hw : ContO K ρ st.S.length (Ch A ρ σ st) H (ρ k) o ys) : Fr A ρ σ H st ρ σ (upd H (ρ k) o) { st with S := st.S.set k (.o ys) } ∧ Rel K A ρ σ (upd H (ρ k) o) { st with S := st.S.set k (.o ys) } := by
  have hlive : Live ρ st.S (ρ k) := ⟨k, xs, e, rfl⟩
  have hch : ∀ b, Ch A ρ σ { st with S := st.S.set k (.o ys) } b → Ch A ρ σ st b := fun b z => z.elim (fun z => Or.inl z) fun z => z.elim (fun z => Or.inr (Or.inl ((live_set e).mp z))) fun z => Or.inr (Or.inr z)
  have hl : (st.S.set k (.o ys)).length = st.S.length := List.length_set
  have kp : Keep ρ st.S.length (Ch A ρ σ st) H ρ (st.S.set k (.o ys)).length (Ch A ρ σ { st with S := st.S.set k (.o ys) }) (upd H (ρ k) o) := Keep.upd (st' := { st with S := st.S.set k (.o ys) }) r (.inr (.inl hlive)) hl hch
  have hA : ¬ A (ρ k) := (r.cell k xs e).1
  refine ⟨⟨fun _ _ => rfl, Nat.le_of_eq hl.symm, fun b o q h1 h2 => by rw [upd_ne (fun z => h1 (by rw [z]; exact hlive))]; exact q, fun b q => ?_, fun b q => .inl ((live_set e).mp q), fun b q => .inl q, fun _ z => ⟨z, rfl⟩⟩,
    ⟨r.len, fun j d h => ?_, fun j d h => ?_, fun m zs h => ?_, fun b hb => ?_, r.oo, fun m m' zs zs' h1 h2 h3 => ?_, fun j d m zs h1 h2 => ?_, r.ob⟩⟩
  · by_cases z : b = ρ k
    · subst z; rw [upd_same] at q; cases q
    · rw [upd_ne z] at q; exact q
  · obtain ⟨v, h1, q⟩ := r.val j d h
    exact ⟨v, h1, Rep.keep kp q⟩
  · obtain ⟨b, h1, nb, c⟩ := r.own j d h
    have hne : b ≠ ρ k := fun q => r.oc j d k xs h e (by rw [← q]; exact h1)
    exact ⟨b, h1, nb, c.keep kp fun u z => by rw [upd_ne hne]; exact z⟩
  · rcases getElem?_set' h with ⟨z1, z⟩ | ⟨ne, z⟩
    · cases z; subst z1
      exact ⟨hA, o, upd_same, hw.keep kp⟩
    · obtain ⟨na, c⟩ := r.cell m zs z
      have hne : ρ m ≠ ρ k := fun q => ne (r.cc m k zs xs z e q)
      exact ⟨na, c.keep kp fun u z => by rw [upd_ne hne]; exact z⟩
  · obtain ⟨o, e1, q⟩ := r.tr b hb
    exact ⟨o, by rw [upd_ne (fun z => hA (by rw [← z]; exact hb))]; exact e1, q⟩
  · have h1' : ∃ d, st.S[m]? = some (Cell.o d) := by
      rcases getElem?_set' h1 with ⟨z1, _⟩ | ⟨_, z⟩
      · subst z1; exact ⟨_, e⟩
      · exact ⟨_, z⟩
    have h2' : ∃ d, st.S[m']? = some (Cell.o d) := by
      rcases getElem?_set' h2 with ⟨z1, _⟩ | ⟨_, z⟩
      · subst z1; exact ⟨_, e⟩
      · exact ⟨_, z⟩
    obtain ⟨d1, h1'⟩ := h1'
    obtain ⟨d2, h2'⟩ := h2'
    exact r.cc m m' d1 d2 h1' h2' h3
  · have h2' : ∃ d, st.S[m]? = some (Cell.o d) := by
      rcases getElem?_set' h2 with ⟨z1, _⟩ | ⟨_, z⟩
      · subst z1; exact ⟨_, e⟩
      · exact ⟨_, z⟩
    obtain ⟨d2, h2'⟩ := h2'
    exact r.oc j d m d2 h1 h2'
/-- an object that may be changed: where it stands -/
theorem put_ok (r : Rel K A ρ σ H st) {x : T} {v : V} {c d : D} (hx : RepT K A ρ σ H st x v) (hl : look x st = some c) (hp : put x d st = some st') :
    ∃ a, v = .ref a ∧ Cont K ρ st.S.length (Ch A ρ σ st) H a c ∧ ∀ o, ContO K ρ st.S.length (Ch A ρ σ st) H a o d →
      Fr A ρ σ H st ρ σ (upd H a o) st' ∧ Rel K A ρ σ (upd H a o) st' := by
  have cell : ∀ k, v = .ref (ρ k) → look (.v (.loc k)) st = some c → put (.v (.loc k)) d st = some st' → ∃ a, v = .ref a ∧ Cont K ρ st.S.length (Ch A ρ σ st) H a c ∧ ∀ o, ContO K ρ st.S.length (Ch A ρ σ st) H a o d →
      Fr A ρ σ H st ρ σ (upd H a o) st' ∧ Rel K A ρ σ (upd H a o) st' := fun k hv hl hp => by
    unfold look at hl
    unfold put at hp
    simp only at hl hp
    cases e : st.S[k]? with
    | none => rw [e] at hl; cases hl
    | some u =>
      cases u with
      | dead => rw [e] at hl; cases hl
      | o u =>
        rw [e] at hl hp
        cases hl
        obtain ⟨_, rfl⟩ := ite_some hp
        exact ⟨ρ k, hv, (r.cell k _ e).2, fun o hw => r.put_cell e hw⟩
  cases x with
  | v d0 =>
    cases d0 with
    | loc k => exact cell k hx.1 hl hp
    | _ => cases hp
  | slot i =>
    cases e : st.env[i]? with
    | none => unfold put at hp; simp only [e] at hp; cases hp
    | some s =>
      cases s with
      | no => unfold put at hp; simp only [e] at hp; cases hp
      | busy => unfold put at hp; simp only [e] at hp; cases hp
      | val d0 =>
        cases d0 with
        | loc k =>
          refine cell k ?_ ?_ ?_
          · obtain ⟨v', e1, q, _⟩ := r.val i _ e
            have hx' : σ[i]? = some (some v) := hx
            rw [hx'] at e1; cases e1
            exact q
          · unfold look at hl; simp only [e] at hl; exact hl
          · unfold put at hp; simp only [e] at hp; exact hp
        | _ => unfold put at hp; simp only [e] at hp; cases hp
      | own u =>
        have hu : u.obj = true := r.ob i _ e
        have hl' : c = u := by
          unfold look at hl
          simp only [e] at hl
          cases u <;> first | (cases hu; done) | (cases hl; rfl)
        subst hl'
        unfold put at hp
        simp only [e] at hp
        obtain ⟨hk, rfl⟩ := ite_some hp
        obtain ⟨a, e1, _, q⟩ := r.own i _ e
        have hx' : σ[i]? = some (some v) := hx
        rw [hx'] at e1; cases e1
        exact ⟨a, rfl, q, fun o hw => r.put_own e hx' (like_obj hk hu) hw⟩
theorem put_lst (r : Rel K A ρ σ H st) {x : T} {v : V} {xs ys : List D} (hx : RepT K A ρ σ H st x v) (hl : look x st = some (.lst xs)) (hp : put x (.lst ys) st = some st') :
    ∃ a vs, v = .ref a ∧ H a = some (.lst vs) ∧ Reps K ρ st.S.length (Ch A ρ σ st) H xs vs ∧ ∀ ws, Reps K ρ st.S.length (Ch A ρ σ st) H ys ws →
      Fr A ρ σ H st ρ σ (upd H a (.lst ws)) st' ∧ Rel K A ρ σ (upd H a (.lst ws)) st' := by
  obtain ⟨a, e, c, f⟩ := put_ok r hx hl hp
  obtain ⟨vs, h1, h2⟩ := Cont.lst.mp c
  exact ⟨a, vs, e, h1, h2, fun ws hw => f _ ⟨ws, rfl, hw⟩⟩

/-! ### methods of lists -/
/-- the receiver and the arguments as they lie, and what is wanted behind -/
def rMe (K : PySem.W.Frag) (m : Me) : V → List V → Hp → VK → Prop := fun v vs H Q => ∃ A ρ σ st x ds z s1, Rel K A ρ σ H st ∧ RepT K A ρ σ H st x v ∧ Reps K ρ st.S.length (Ch A ρ σ st) H ds vs ∧ methO m x ds st = .ok z s1 ∧
  ∀ w H', Fr A ρ σ H st ρ σ H' s1 → Rel K A ρ σ H' s1 → RepT K A ρ σ H' s1 z w → Q w H'
def Me.py : Me → Str × String
  | .append => ("append", "list.append") | .pop0 => ("pop", "list.pop") | .pop => ("pop", "list.pop") | .index => ("index", "list.index") | .clear => ("clear", "list.clear") | .insert => ("insert", "list.insert") | .reverse => ("reverse", "list.reverse")
theorem methO_cases {m : Me} {x : T} {ds : List D} {z : T} {s1 : Sta} (h : methO m x ds st = .ok z s1) : ∃ xs d o, look x st = some (.lst xs) ∧ methF m xs ds = some (d, o) ∧ z = .v d ∧ ((o = none ∧ s1 = st) ∨ ∃ ys, o = some ys ∧ put x (.lst ys) st = some s1) := by
  unfold methO at h
  split at h
  · rename_i xs hl
    split at h
    · rename_i d hm
      cases h
      exact ⟨xs, d, none, hl, hm, rfl, .inl ⟨rfl, rfl⟩⟩
    · rename_i d ys hm
      split at h
      · rename_i s3 hp
        cases h
        exact ⟨xs, d, some ys, hl, hm, rfl, .inr ⟨ys, rfl, hp⟩⟩
      · cases h
    · cases h
  · cases h
theorem reps1 {d : D} {vs : List V} (h : Reps K ρ n L H [d] vs) : ∃ v, vs = [v] ∧ Rep K ρ n L H d v := by
  obtain ⟨v, r, rfl, h1, h2⟩ := h
  rw [show r = [] from h2]
  exact ⟨v, rfl, h1⟩
theorem idxOf_before (i : Int) : ∀ (is : List Int) (m : Nat) (j : Int), m < is.idxOf i → is[m]? = some j → (j == i) = false
  | [], m, j, h, e => by simp at e
  | x :: xs, m, j, h, e => by
    rw [List.idxOf_cons] at h
    cases q : (x == i) with
    | true => rw [q] at h; exact absurd h (Nat.not_lt_zero _)
    | false =>
      rw [q] at h
      cases m with
      | zero => cases e; exact q
      | succ m => exact idxOf_before i xs m j (Nat.lt_of_succ_lt_succ h) (by simpa using e)
section
variable {X : Cx}
theorem _root_.L2.MtM.imp {id : String} {r r' : V → List V → Hp → VK → Prop} (h : MtM X id r) (i : ∀ x vs H Q, r' x vs H Q → r x vs H Q) : MtM X id r' := fun pins s σ H x xs v us Q I r1 r2 q => h pins s σ H x xs v us Q I r1 r2 (i _ _ _ _ q)
theorem meth_ok : ∀ m : Me, MtR X m.py.2 (rMe X.K m)
  | .append => L2.MtM.imp mt_append fun v vs H Q ⟨A, ρ, σ, st, x, ds, z, s1, r, hx, hd, hm, q⟩ => by
    obtain ⟨xs, d, o, h1, h2, rfl, h3⟩ := methO_cases hm
    replace h2 : mAppend xs ds = some (d, o) := h2
    unfold mAppend at h2
    split at h2
    · rename_i e
      obtain ⟨hl, h2⟩ := ite_some h2
      cases h2
      obtain ⟨h3, _⟩ | ⟨ys, h3, hp⟩ := h3
      · cases h3
      · cases h3
        obtain ⟨w, rfl, hw⟩ := reps1 hd
        obtain ⟨a, vs, rfl, ha, hv, hput⟩ := put_lst r hx h1 hp
        obtain ⟨f, r'⟩ := hput (vs ++ [w]) (hv.append hd)
        refine ⟨a, vs, w, rfl, rfl, ha, ?_, q _ _ f r' (show V.non = V.non from rfl)⟩
        rw [hv.length]
        exact Nat.lt_of_lt_of_le hl line6
    · cases h2
  | .pop0 => L2.MtM.imp mt_pop fun v vs H Q ⟨A, ρ, σ, st, x, ds, z, s1, r, hx, hd, hm, q⟩ => by
    obtain ⟨xs, d, o, h1, h2, rfl, h3⟩ := methO_cases hm
    replace h2 : mPop0 xs ds = some (d, o) := h2
    unfold mPop0 at h2
    split at h2
    · split at h2
      · rename_i y hy
        cases h2
        obtain ⟨h3, _⟩ | ⟨ys, h3, hp⟩ := h3
        · cases h3
        · cases h3
          rw [show vs = [] from hd]
          obtain ⟨a, vs, rfl, ha, hv, hput⟩ := put_lst r hx h1 hp
          obtain ⟨w, w1, w2⟩ := hv.get hy
          obtain ⟨f, r'⟩ := hput vs.dropLast (by rw [List.dropLast_eq_take, List.dropLast_eq_take, hv.length]; exact hv.take _)
          exact ⟨a, vs, w, rfl, rfl, ha, by rw [hv.length]; exact w1, q _ _ f r' (r.rep f w2)⟩
      · cases h2
    · cases h2
  | .pop => L2.MtM.imp mt_popAt fun v vs H Q ⟨A, ρ, σ, st, x, ds, z, s1, r, hx, hd, hm, q⟩ => by
    obtain ⟨xs, d, o, h1, h2, rfl, h3⟩ := methO_cases hm
    replace h2 : mPop xs ds = some (d, o) := h2
    unfold mPop at h2
    split at h2
    · rename_i i
      split at h2
      · rename_i hi
        split at h2
        · rename_i y hy
          cases h2
          obtain ⟨h3, _⟩ | ⟨ys, h3, hp⟩ := h3
          · cases h3
          · cases h3
            obtain ⟨u, rfl, hu⟩ := reps1 hd
            obtain ⟨a, vs, rfl, ha, hv, hput⟩ := put_lst r hx h1 hp
            obtain ⟨w, w1, w2⟩ := hv.get hy
            obtain ⟨f, r'⟩ := hput (vs.eraseIdx i.toNat) (hv.erase _)
            have hlt : i.toNat < vs.length := (List.getElem?_eq_some_iff.mp w1).1
            exact ⟨a, vs, i, i.toNat, w, rfl, by rw [show u = V.int i from hu], ha, by omega, hi.2, PySem.StrLaws.seqIndex_nonneg hi.1 (by omega), w1, q _ _ f r' (r.rep f w2)⟩
        · cases h2
      · cases h2
    · cases h2
  | .clear => L2.MtM.imp mt_clear fun v vs H Q ⟨A, ρ, σ, st, x, ds, z, s1, r, hx, hd, hm, q⟩ => by
    obtain ⟨xs, d, o, h1, h2, rfl, h3⟩ := methO_cases hm
    replace h2 : mClear xs ds = some (d, o) := h2
    unfold mClear at h2
    split at h2
    · cases h2
      obtain ⟨h3, _⟩ | ⟨ys, h3, hp⟩ := h3
      · cases h3
      · cases h3
        rw [show vs = [] from hd]
        obtain ⟨a, vs, rfl, ha, hv, hput⟩ := put_lst r hx h1 hp
        obtain ⟨f, r'⟩ := hput [] rfl
        exact ⟨a, vs, rfl, rfl, ha, q _ _ f r' (show V.non = V.non from rfl)⟩
    · cases h2
  | .reverse => L2.MtM.imp mt_reverse fun v vs H Q ⟨A, ρ, σ, st, x, ds, z, s1, r, hx, hd, hm, q⟩ => by
    obtain ⟨xs, d, o, h1, h2, rfl, h3⟩ := methO_cases hm
    replace h2 : mReverse xs ds = some (d, o) := h2
    unfold mReverse at h2
    split at h2
    · cases h2
      obtain ⟨h3, _⟩ | ⟨ys, h3, hp⟩ := h3
      · cases h3
      · cases h3
        rw [show vs = [] from hd]
        obtain ⟨a, vs, rfl, ha, hv, hput⟩ := put_lst r hx h1 hp
        obtain ⟨f, r'⟩ := hput vs.reverse hv.reverse
        exact ⟨a, vs, rfl, rfl, ha, q _ _ f r' (show V.non = V.non from rfl)⟩
    · cases h2
  | .insert => fun pins s σ0 H v vs x us Q I r1 r2 ⟨A, ρ, σ, st, t, ds, z, s1, r, hx, hd, hm, q⟩ => by
    obtain ⟨xs, d, o, h1, h2, rfl, h3⟩ := methO_cases hm
    replace h2 : mInsert xs ds = some (d, o) := h2
    unfold mInsert at h2
    split at h2
    · rename_i i e
      obtain ⟨⟨i0, i1, hl⟩, h2⟩ := ite_some h2
      cases h2
      obtain ⟨h3, _⟩ | ⟨ys, h3, hp⟩ := h3
      · cases h3
      · cases h3
        obtain ⟨w, r', rfl, hw, y, r2', e2, hy, hz⟩ := hd
        obtain ⟨a, vs, rfl, ha, hv, hput⟩ := put_lst r hx h1 hp
        obtain ⟨f, rr⟩ := hput (vs.take i.toNat ++ [y] ++ vs.drop i.toNat) ((Reps.append (es := [e]) (ws := [y]) (hv.take _) ⟨y, [], rfl, hy, rfl⟩).append (hv.drop _))
        refine mt_insert pins s σ0 H _ _ x us Q I r1 r2 ⟨a, vs, i, y, rfl, ?_, ha, ?_, i0, i1, q _ _ f rr (show V.non = V.non from rfl)⟩
        · rw [show w = V.int i from hw, e2, show r2' = [] from hz]
        · rw [hv.length]; exact Nat.lt_of_lt_of_le hl line6
    · cases h2
  | .index => L2.MtM.imp (X := X) (id := "list.index") (r := rIndex X.K) mt_index fun v vs H Q ⟨A, ρ, σ, st, x, ds, z, s1, r, hx, hd, hm, q⟩ => by
    obtain ⟨xs, d, o, h1, h2, rfl, h3⟩ := methO_cases hm
    replace h2 : mIndex xs ds = some (d, o) := h2
    unfold mIndex at h2
    split at h2
    · rename_i i
      split at h2
      · rename_i is his
        obtain ⟨hi, h2⟩ := ite_some h2
        cases h2
        obtain ⟨_, h3⟩ | ⟨ys, h3, hp⟩ := h3
        · subst h3
          obtain ⟨u, rfl, hu⟩ := reps1 hd
          obtain ⟨a, vs, rfl, ha, hv⟩ := (r.look hx h1).lst
          have ev := hv.ints his
          subst ev
          have hlt : is.idxOf i < is.length := List.idxOf_lt_length_iff.mpr hi
          have hget : is[is.idxOf i]? = some i := by
            rw [List.getElem?_eq_getElem hlt]
            exact congrArg some (List.getElem_idxOf hlt)
          refine ⟨a, is.map V.int, .int i, is.idxOf i, .int i, rfl, by rw [show u = V.int i from hu], ha, rfl, ?_, by rw [List.getElem?_map, hget]; rfl, ?_, fun m z' hm hz => ?_, q _ _ Fr.refl r (show V.int _ = V.int _ from rfl)⟩
          · rw [List.all_map]; exact List.all_eq_true.mpr fun _ _ => rfl
          · show (i == i) = true; exact beq_self_eq_true i
          · rw [List.getElem?_map] at hz
            cases e : is[m]? with
            | none => rw [e] at hz; cases hz
            | some j =>
              rw [e] at hz; cases hz
              show (j == i) = false
              exact idxOf_before i is m j hm e
        · cases h3
      · cases h2
    · cases h2
end
end
end Gp

/-! Gp, part F: defs called, things walked. -/
namespace Gp
open PySem L2

section
variable [Cfg] {K : PySem.W.Frag} {A B : Addr → Prop} {ρ ρ' : Nat → Addr} {σ σ' : L2.St} {H H' : Hp} {st st' : Sta} {n : Nat} {L : Addr → Prop}

/-! ### calls -/
def spF (K : PySem.W.Frag) (F : List D → Store → Option (D × Store)) (np : Nat) (fr : Bool) : Sp := fun vs H Q _ => ∃ A ρ S ds d S', ds.length = np ∧ Rel K A ρ [] H ⟨[], S⟩ ∧ Reps K ρ S.length (Ch A ρ [] ⟨[], S⟩) H ds vs ∧ F ds S = some (d, S') ∧
  ∀ ρ' v H', Fr A ρ [] H ⟨[], S⟩ ρ' [] H' ⟨[], S'⟩ → (if fr = true then Fresh K A [] H ⟨[], S⟩ (.v d) ρ' v H' ⟨[], S'⟩ else Rel K A ρ' [] H' ⟨[], S'⟩ ∧ Rep K ρ' S'.length (Ch A ρ' [] ⟨[], S'⟩) H' d v) → Q v H'
theorem own_nil {σ : L2.St} {a : Addr} : ¬ Own [] σ a := fun ⟨i, d, h, _⟩ => by simp at h
/-- the slots' objects handed over to those around -/
abbrev Hand (A : Addr → Prop) (env : Env) (σ : L2.St) : Addr → Prop := fun a => A a ∨ Own env σ a
theorem ch_hand {ρ : Nat → Addr} {S : Store} {a : Addr} : Ch (Hand A st.env σ) ρ [] ⟨[], S⟩ a ↔ Ch A ρ σ ⟨st.env, S⟩ a := by
  constructor
  · rintro ((h | h) | h | h)
    · exact .inl h
    · exact .inr (.inr h)
    · exact .inr (.inl h)
    · exact (own_nil h).elim
  · rintro (h | h | h)
    · exact .inl (.inl h)
    · exact .inr (.inl h)
    · exact .inl (.inr h)
theorem Rel.drop (r : Rel K A ρ σ H st) : Rel K (Hand A st.env σ) ρ [] H ⟨[], st.S⟩ where
  len := rfl
  val := fun i d e => by simp at e
  own := fun i d e => by simp at e
  cell := fun m xs e => by
    obtain ⟨na, c⟩ := r.cell m xs e
    exact ⟨fun z => z.elim na fun ⟨i, d, h1, h2⟩ => r.oc i d m xs h1 e h2, c.keep (Keep.less (fun a z => ch_hand.mp z) fun a z => r.chH z) fun _ z => z⟩
  tr := fun a ha => r.chH (ha.elim (fun z => Or.inl z) fun z => Or.inr (Or.inr z))
  oo := fun i j d e a h => by simp at h
  cc := r.cc
  oc := fun i d m xs h => by simp at h
  ob := fun i d h => by simp at h
/-- from one state of knowledge to a later one that avoids more -/
theorem Rel.keepB (r : Rel K A ρ σ H st) (f : Fr A ρ σ H st ρ' σ' H' st') (hB : ∀ a, B a → A a ∨ H a = none) : Keep ρ st.S.length (Ch A ρ σ st) H ρ' st'.S.length (Ch B ρ' σ' st') H' where
  rho := f.rho
  sz := f.sz
  at_ := fun a o e h => ⟨f.at_ a o e (fun z => h (.inr (.inl z))) fun z => h (.inr (.inr z)), fun q => by
    rcases q with q | q | q
    · exact (hB a q).elim (fun z => h (.inl z)) fun z => by rw [z] at e; cases e
    · exact (f.live a q).elim (fun z => h (.inr (.inl z))) fun z => z.elim (fun z => h (.inr (.inr z))) fun z => by rw [z] at e; cases e
    · exact (f.own a q).elim (fun z => h (.inr (.inr z))) fun z => by rw [z] at e; cases e⟩
  tup := fun a o e h => by
    obtain ⟨o', e', q⟩ := r.chH h
    rw [e] at e'; cases e'
    exact q
/-- behind a call: the slots' objects are taken back -/
theorem Rel.undrop {S' : Store} (r : Rel K A ρ σ H st) (r' : Rel K (Hand B st.env σ) ρ' [] H' ⟨[], S'⟩) (f : Fr (Hand A st.env σ) ρ [] H ⟨[], st.S⟩ ρ' [] H' ⟨[], S'⟩) (hB : ∀ a, B a → A a ∨ H a = none) :
    Fr A ρ σ H st ρ' σ H' ⟨st.env, S'⟩ ∧ Rel K B ρ' σ H' ⟨st.env, S'⟩ := by
  have fr : Fr A ρ σ H st ρ' σ H' ⟨st.env, S'⟩ := ⟨f.rho, f.sz, fun a o e h1 h2 => f.at_ a o e h1 own_nil, f.free, fun a h => (f.live a h).elim .inl fun z => z.elim (fun z => (own_nil z).elim) fun z => .inr (.inr z), fun a h => .inl h, fun _ z => ⟨z, rfl⟩⟩
  have kp : Keep ρ st.S.length (Ch A ρ σ st) H ρ' S'.length (Ch B ρ' σ ⟨st.env, S'⟩) H' := r.keepB fr hB
  refine ⟨fr, ⟨r.len, fun i d e => ?_, fun i d e => ?_, fun m xs e => ?_, fun a ha => r'.tr a (.inl ha), r.oo, r'.cc, fun i d m xs h1 h2 h3 => ?_, r.ob⟩⟩
  · obtain ⟨v, h1, q⟩ := r.val i d e
    exact ⟨v, h1, Rep.keep kp q⟩
  · obtain ⟨a, h1, na, c⟩ := r.own i d e
    obtain ⟨u, z, _⟩ := c.at_
    exact ⟨a, h1, (fun q => (hB a q).elim na fun y => by rw [y] at z; cases z), c.keep kp fun o z => f.at_ a _ z (fun ⟨m, xs, e1, e2⟩ => r.oc i _ m xs e e1 (by rw [e2]; exact h1)) own_nil⟩
  · obtain ⟨na, c⟩ := r'.cell m xs e
    exact ⟨fun z => na (.inl z), c.keep (Keep.less (fun a z => ch_hand.mpr z) fun a z => r'.chH z) fun _ z => z⟩
  · exact (r'.cell m xs h2).1 (.inr ⟨i, d, h1, h3⟩)
theorem call_ok {F : List D → Store → Option (D × Store)} {np : Nat} {fr : Bool} {ds : List D} {vs : List V} {d : D} {S' : Store} {Q : VK} {E : XK} (r : Rel K A ρ σ H st) (hn : ds.length = np) (hr : Reps K ρ st.S.length (Ch A ρ σ st) H ds vs) (hF : F ds st.S = some (d, S'))
    (q : ∀ ρ' v H', Fr A ρ σ H st ρ' σ H' ⟨st.env, S'⟩ → (if fr = true then Fresh K A σ H st (.v d) ρ' v H' ⟨st.env, S'⟩ else Rel K A ρ' σ H' ⟨st.env, S'⟩ ∧ Rep K ρ' S'.length (Ch A ρ' σ ⟨st.env, S'⟩) H' d v) → Q v H') : spF K F np fr vs H Q E := by
  refine ⟨Hand A st.env σ, ρ, st.S, ds, d, S', hn, r.drop, Reps.keep (Keep.less (fun a z => ch_hand.mp z) fun a z => r.chH z) hr, hF, fun ρ' v H' f h => ?_⟩
  cases fr with
  | false =>
    simp only [Bool.false_eq_true, if_false] at h
    obtain ⟨f', r'⟩ := r.undrop h.1 f fun a z => .inl z
    refine q ρ' v H' f' ?_
    simp only [Bool.false_eq_true, if_false]
    exact ⟨r', Rep.keep (Keep.less (fun a z => ch_hand.mpr z) fun a z => h.1.chH z) h.2⟩
  | true =>
    simp only [if_true] at h
    rcases h with ⟨d', a, e1, e0, e2, hn, h1, h2⟩ | ⟨h0, h1, h2⟩
    · have hn : H a = none := hn.elim id fun z => (own_nil z).elim
      have h1' : Rel K (Hand (And1 A a) st.env σ) ρ' [] H' ⟨[], S'⟩ := h1.weak fun b z => z.elim (fun z => z.elim (fun z => Or.inl (Or.inl z)) fun z => Or.inr z) fun z => Or.inl (Or.inr z)
      have hB : ∀ b, And1 A a b → A b ∨ H b = none := fun b z => z.elim .inl fun z => by rw [z]; exact .inr hn
      obtain ⟨f', r'⟩ := r.undrop h1' f hB
      refine q ρ' v H' f' ?_
      simp only [if_true]
      exact .inl ⟨d', a, e1, e0, e2, .inl hn, r', h2.keep (Keep.less (fun b z => (by
        rcases ch_hand.mpr z with (z | z) | z
        · exact z.elim (fun z => Or.inl (Or.inl (Or.inl z))) fun z => Or.inl (Or.inr z)
        · exact Or.inl (Or.inl (Or.inr z))
        · exact Or.inr z)) fun b z => h1.chH z) fun _ z => z⟩
    · obtain ⟨f', r'⟩ := r.undrop h1 f fun a z => .inl z
      refine q ρ' v H' f' ?_
      simp only [if_true]
      exact .inr ⟨h0, r', Rep.keep (Keep.less (fun a z => ch_hand.mpr z) fun a z => h1.chH z) h2⟩

/-! ### calls that ask the store nothing -/
/-- the slots' objects that are lent -/
def Bor (ts : List T) (env : Env) (σ : L2.St) (a : Addr) : Prop := ∃ i d, T.slot i ∈ ts ∧ env[i]? = some (Slot.own d) ∧ σ[i]? = some (some (V.ref a))
def Lend (A : Addr → Prop) (ρ : Nat → Addr) (σ : L2.St) (st : Sta) (ts : List T) : Addr → Prop := fun a => Ch A ρ σ st a ∧ ¬ Bor ts st.env σ a
theorem mask_no {S : Store} {m : Nat} {xs : D} : ¬ (mask S)[m]? = some (Cell.o xs) := fun h => by
  unfold mask at h
  rw [List.getElem?_map] at h
  cases e : S[m]? with
  | none => rw [e] at h; cases h
  | some c => rw [e] at h; cases h
theorem mask_len (S : Store) : (mask S).length = S.length := List.length_map _
theorem live_mask {S : Store} {a : Addr} : ¬ Live ρ (mask S) a := fun ⟨m, xs, h, _⟩ => mask_no h
theorem Rel.lend (r : Rel K A ρ σ H st) (ts : List T) : Rel K (Lend A ρ σ st ts) ρ [] H ⟨[], mask st.S⟩ where
  len := rfl
  val := fun i d e => by simp at e
  own := fun i d e => by simp at e
  cell := fun m xs e => (mask_no e).elim
  tr := fun a ha => r.chH ha.1
  oo := fun i j d e a h => by simp at h
  cc := fun m m' xs ys h => (mask_no h).elim
  oc := fun i d m xs h => by simp at h
  ob := fun i d h => by simp at h
theorem ch_lend {ts : List T} {S : Store} {a : Addr} (h : Ch (Lend A ρ σ st ts) ρ' [] ⟨[], mask S⟩ a) : Lend A ρ σ st ts a := by
  rcases h with h | h | h
  · exact h
  · exact (live_mask h).elim
  · exact (own_nil h).elim
theorem lent_ok (r : Rel K A ρ σ H st) {ts : List T} {t : T} {d : D} {v : V} (ht : t ∈ ts) (hx : RepT K A ρ σ H st t v) (h : lent t st = some d) : Rep K ρ (mask st.S).length (Ch (Lend A ρ σ st ts) ρ [] ⟨[], mask st.S⟩) H d v := by
  have kp : Keep ρ st.S.length (Ch A ρ σ st) H ρ (mask st.S).length (Ch (Lend A ρ σ st ts) ρ [] ⟨[], mask st.S⟩) H := by
    rw [mask_len]
    exact Keep.less (fun a z => (ch_lend z).1) fun a z => r.chH z
  cases t with
  | v d0 => cases h; exact Rep.keep kp hx
  | slot i =>
    unfold lent at h
    cases e : st.env[i]? with
    | none => simp only [e] at h; cases h
    | some s =>
      cases s with
      | no => simp only [e] at h; cases h
      | busy => simp only [e] at h; cases h
      | val d0 =>
        simp only [e] at h; cases h
        obtain ⟨v', e1, q⟩ := r.val i _ e
        have hx' : σ[i]? = some (some v) := hx
        rw [hx'] at e1; cases e1
        exact Rep.keep kp q
      | own d0 =>
        simp only [e] at h; cases h
        obtain ⟨a, e1, na, c⟩ := r.own i _ e
        have hx' : σ[i]? = some (some v) := hx
        rw [hx'] at e1; cases e1
        exact (c.keep kp fun _ z => z).rep (r.ob i _ e) fun y => (ch_lend y).2 ⟨i, _, ht, e, hx'⟩
theorem lents_ok (r : Rel K A ρ σ H st) {ts : List T} : ∀ {us : List T} {ds : List D} {vs : List V}, (∀ t ∈ us, t ∈ ts) → RepTs K A ρ σ H st us vs → lents us st = some ds → Reps K ρ (mask st.S).length (Ch (Lend A ρ σ st ts) ρ [] ⟨[], mask st.S⟩) H ds vs
  | [], _, _, _, hx, h => by cases h; exact hx
  | u :: us, _, _, hs, hx, h => by
    obtain ⟨v, r', rfl, h1, h2⟩ := hx
    unfold lents at h
    split at h
    · rename_i d ds e1 e2
      cases h
      exact ⟨v, r', rfl, lent_ok r (hs u List.mem_cons_self) h1 e1, lents_ok r (fun t ht => hs t (List.mem_cons_of_mem _ ht)) h2 e2⟩
    · cases h
/-- all that is tracked is kept -/
theorem Rel.moved (r : Rel K A ρ σ H st) (kept : ∀ a o, H a = some o → H' a = some o) (rho : ∀ m, m < st.S.length → ρ' m = ρ m) (free : ∀ a, H' a = none → H a = none) (hB : ∀ a, B a → A a ∨ H a = none)
    (trB : ∀ a, B a → ∃ o, H' a = some o ∧ ¬ Imm o) : Fr A ρ σ H st ρ' σ H' st ∧ Rel K B ρ' σ H' st := by
  have lv : ∀ a, Live ρ' st.S a → Live ρ st.S a := fun a ⟨m, xs, e, h⟩ => ⟨m, xs, e, by rw [← rho m (List.getElem?_eq_some_iff.mp e).1]; exact h⟩
  have fr : Fr A ρ σ H st ρ' σ H' st := ⟨rho, Nat.le_refl _, fun a o e _ _ => kept a o e, free, fun a h => .inl (lv a h), fun a h => .inl h, fun _ z => ⟨z, rfl⟩⟩
  have kp := r.keepB fr hB
  refine ⟨fr, ⟨r.len, fun i d e => ?_, fun i d e => ?_, fun m xs e => ?_, trB, r.oo, fun m m' xs ys h1 h2 h3 => ?_, fun i d m xs h1 h2 h3 => ?_, r.ob⟩⟩
  · obtain ⟨v, h1, q⟩ := r.val i d e
    exact ⟨v, h1, Rep.keep kp q⟩
  · obtain ⟨a, h1, na, c⟩ := r.own i d e
    obtain ⟨u, z, _⟩ := c.at_
    exact ⟨a, h1, (fun q => (hB a q).elim na fun y => by rw [y] at z; cases z), c.keep kp fun o z => kept a _ z⟩
  · obtain ⟨na, c⟩ := r.cell m xs e
    obtain ⟨u, z, _⟩ := c.at_
    have hm : ρ' m = ρ m := rho m (List.getElem?_eq_some_iff.mp e).1
    rw [hm]
    exact ⟨(fun q => (hB _ q).elim na fun y => by rw [y] at z; cases z), c.keep kp fun o z => kept _ _ z⟩
  · exact r.cc m m' xs ys h1 h2 (by rw [← rho m (List.getElem?_eq_some_iff.mp h1).1, ← rho m' (List.getElem?_eq_some_iff.mp h2).1]; exact h3)
  · exact r.oc i d m xs h1 h2 (by rw [← rho m (List.getElem?_eq_some_iff.mp h2).1]; exact h3)
theorem Rep.flat {d : D} {v : V} {ρ1 ρ2 : Nat → Addr} {n1 n2 : Nat} {L1 L2 : Addr → Prop} {H1 H2 : Hp} (hd : d.flat = true) (h : Rep K ρ1 n1 L1 H1 d v) : Rep K ρ2 n2 L2 H2 d v := by
  cases d with
  | lst => cases hd
  | tup => cases hd
  | loc => cases hd
  | dct => cases hd
  | ins => cases hd
  | _ => exact h
theorem freeze_slot {i : Nat} {env : Env} : freeze (.slot i) env = env ∨ ∃ d, env[i]? = some (Slot.own d) ∧ freeze (.slot i) env = env.set i (.val d) := by
  unfold freeze
  cases e : env[i]? with
  | none => exact .inl (by simp only [e])
  | some s =>
    cases s with
    | no => exact .inl (by simp only [e])
    | busy => exact .inl (by simp only [e])
    | val d => exact .inl (by simp only [e])
    | own d => exact .inr ⟨d, rfl, by simp only [e]⟩
theorem Rel.freezes (ts : List T) : ∀ {env : Env}, Rel K A ρ σ H ⟨env, st.S⟩ → Fr A ρ σ H ⟨env, st.S⟩ ρ σ H ⟨freezes ts env, st.S⟩ ∧ Rel K A ρ σ H ⟨freezes ts env, st.S⟩ := by
  induction ts with
  | nil => intro env r; exact ⟨Fr.refl, r⟩
  | cons t ts ih =>
    intro env r
    have h1 : Fr A ρ σ H ⟨env, st.S⟩ ρ σ H ⟨freeze t env, st.S⟩ ∧ Rel K A ρ σ H ⟨freeze t env, st.S⟩ := by
      cases t with
      | v d => exact ⟨Fr.refl, r⟩
      | slot i =>
        rcases freeze_slot (i := i) (env := env) with e | ⟨d, e, e2⟩
        · rw [e]; exact ⟨Fr.refl, r⟩
        · rw [e2]; exact ⟨Fr.frozen (st := ⟨env, st.S⟩), (r.frozen e).1⟩
    obtain ⟨f2, r2⟩ := ih h1.2
    exact ⟨h1.1.trans f2, r2⟩
theorem freeze_get {t : T} {env : Env} {j : Nat} {d : D} (h : (freeze t env)[j]? = some (Slot.own d)) : env[j]? = some (Slot.own d) ∧ t ≠ .slot j := by
  cases t with
  | v d' => exact ⟨h, fun z => by cases z⟩
  | slot i =>
    unfold freeze at h
    cases e : env[i]? with
    | none => simp only [e] at h; exact ⟨h, fun z => by cases z; rw [e] at h; cases h⟩
    | some s =>
      cases s with
      | no => simp only [e] at h; exact ⟨h, fun z => by cases z; rw [e] at h; cases h⟩
      | busy => simp only [e] at h; exact ⟨h, fun z => by cases z; rw [e] at h; cases h⟩
      | val d' => simp only [e] at h; exact ⟨h, fun z => by cases z; rw [e] at h; cases h⟩
      | own d' =>
        simp only [e] at h
        rcases getElem?_set' h with ⟨_, z⟩ | ⟨ne, z⟩
        · cases z
        · exact ⟨z, fun y => ne (by cases y; rfl)⟩
theorem freezes_get {ts : List T} : ∀ {env : Env} {j : Nat} {d : D}, (freezes ts env)[j]? = some (Slot.own d) → env[j]? = some (Slot.own d) ∧ T.slot j ∉ ts := by
  induction ts with
  | nil => intro env j d h; exact ⟨h, by simp⟩
  | cons t ts ih =>
    intro env j d h
    obtain ⟨h1, h2⟩ := ih (env := freeze t env) h
    obtain ⟨h3, h4⟩ := freeze_get h1
    exact ⟨h3, by simp only [List.mem_cons, not_or]; exact ⟨fun z => h4 z.symm, h2⟩⟩
mutual
/-- data whose cells are among the first m -/
theorem Rep.bel {ρ2 : Nat → Addr} {m n2 : Nat} (hρ : ∀ k, k < m → ρ2 k = ρ k) (hm : m ≤ n2) : ∀ {d : D} {v : V}, Rep K ρ n L H d v → d.bel m = true → Rep K ρ2 n2 L H d v
  | .non, _, h, _ => h
  | .bl _, _, h, _ => h
  | .int _, _, h, _ => h
  | .str _, _, h, _ => h
  | .lst ds, _, h, hb => by
    obtain ⟨a, vs, rfl, h1, h2⟩ := h
    exact ⟨a, vs, rfl, h1, Reps.bel hρ hm h2 hb⟩
  | .tup ds, _, h, hb => by
    obtain ⟨a, vs, rfl, h1, h2⟩ := h
    exact ⟨a, vs, rfl, h1, Reps.bel hρ hm h2 hb⟩
  | .loc k, _, h, hb => by
    obtain ⟨h1, h2⟩ := h
    have hk : k < m := of_decide_eq_true hb
    exact ⟨by rw [hρ k hk]; exact h1, Nat.lt_of_lt_of_le hk hm⟩
  | .dct t ks ds, _, h, hb => by
    obtain ⟨a, vs, rfl, h1, h2⟩ := h
    exact ⟨a, vs, rfl, h1, Reps.bel hρ hm h2 (Bool.and_eq_true_iff.mp (show (D.bels m ks && D.bels m ds) = true from hb)).2⟩
  | .ins _ _ _, _, h, _ => h.elim
theorem Reps.bel {ρ2 : Nat → Addr} {m n2 : Nat} (hρ : ∀ k, k < m → ρ2 k = ρ k) (hm : m ≤ n2) : ∀ {d : List D} {v : List V}, Reps K ρ n L H d v → D.bels m d = true → Reps K ρ2 n2 L H d v
  | [], _, h, _ => h
  | d :: ds, _, h, hb => by
    obtain ⟨v, r, rfl, h1, h2⟩ := h
    obtain ⟨b1, b2⟩ := Bool.and_eq_true_iff.mp (show (D.bel m d && D.bels m ds) = true from hb)
    exact ⟨v, r, rfl, Rep.bel hρ hm h1 b1, Reps.bel hρ hm h2 b2⟩
end
theorem ContO.bel {ρ2 : Nat → Addr} {m n2 : Nat} {a : Addr} {o : HO} (hρ : ∀ k, k < m → ρ2 k = ρ k) (hm : m ≤ n2) : ∀ {d : D}, ContO K ρ n L H a o d → d.bel m = true → ContO K ρ2 n2 L H a o d
  | .lst _, ⟨vs, z, q⟩, hb => ⟨vs, z, Reps.bel hρ hm q hb⟩
  | .dct _ ks ds, ⟨vs, q, q2⟩, hb => ⟨vs, q, Reps.bel hρ hm q2 (Bool.and_eq_true_iff.mp (show (D.bels m ks && D.bels m ds) = true from hb)).2⟩
  | .ins _ _ _, ⟨dx, fs, z, q, q1, q2⟩, hb => ⟨dx, fs, z, q, q1, Reps.bel hρ hm q2 hb⟩
  | .non, z, _ => z.elim
  | .bl _, z, _ => z.elim
  | .int _, z, _ => z.elim
  | .str _, z, _ => z.elim
  | .tup _, z, _ => z.elim
  | .loc _, z, _ => z.elim
theorem Cont.bel {ρ2 : Nat → Addr} {m n2 : Nat} {a : Addr} {d : D} (hρ : ∀ k, k < m → ρ2 k = ρ k) (hm : m ≤ n2) (c : Cont K ρ n L H a d) (hb : d.bel m = true) : Cont K ρ2 n2 L H a d := let ⟨o, e, q⟩ := c; ⟨o, e, q.bel hρ hm hb⟩
mutual
/-- what is represented has its cells among the first n -/
theorem Rep.bel_of : ∀ {d : D} {v : V}, Rep K ρ n L H d v → (∀ (t : Nat) (ks : List D) (o : HO) (vs : List V), IsDct t o ks vs → D.bels n ks = true) → d.bel n = true
  | .non, _, _, _ => rfl
  | .bl _, _, _, _ => rfl
  | .int _, _, _, _ => rfl
  | .str _, _, _, _ => rfl
  | .lst ds, _, h, k => by
    obtain ⟨a, vs, rfl, h1, h2⟩ := h
    exact Reps.bel_of h2 k
  | .tup ds, _, h, k => by
    obtain ⟨a, vs, rfl, h1, h2⟩ := h
    exact Reps.bel_of h2 k
  | .loc k, _, h, _ => decide_eq_true h.2
  | .dct t ks ds, _, h, k => by
    obtain ⟨a, vs, rfl, ⟨o, _, _, h1⟩, h2⟩ := h
    show (D.bels n ks && D.bels n ds) = true
    rw [k t ks o vs h1, Reps.bel_of h2 k]; rfl
  | .ins _ _ _, _, h, _ => h.elim
theorem Reps.bel_of : ∀ {d : List D} {v : List V}, Reps K ρ n L H d v → (∀ (t : Nat) (ks : List D) (o : HO) (vs : List V), IsDct t o ks vs → D.bels n ks = true) → D.bels n d = true
  | [], _, _, _ => rfl
  | d :: ds, _, h, k => by
    obtain ⟨v, r, rfl, h1, h2⟩ := h
    show (D.bel n d && D.bels n ds) = true
    rw [Rep.bel_of h1 k, Reps.bel_of h2 k]; rfl
end
theorem kD_bel (m : Nat) (k : Key) : (kD k).bel m = true := by cases k <;> rfl
theorem kDs_bel (m : Nat) : ∀ p : List Key, D.bels m (p.map kD) = true
  | [] => rfl
  | k :: p => by
    show (D.bel m (kD k) && D.bels m (p.map kD)) = true
    rw [kD_bel, kDs_bel m p]; rfl
theorem IsDct.bel {m t : Nat} {ks : List D} {o : HO} {vs : List V} (h : IsDct t o ks vs) : D.bels m ks = true := by
  match t with
  | 0 =>
    obtain ⟨kvs, _, rfl, _⟩ := h
    have := kDs_bel m (kvs.map (·.1))
    rwa [List.map_map] at this
  | 1 =>
    obtain ⟨kvs, -, rfl, -⟩ := h
    induction kvs with
    | nil => rfl
    | cons p kvs ih =>
      show (D.bels m (p.1.map kD) && D.bels m (kvs.map _)) = true
      rw [kDs_bel, ih]; rfl
  | _ + 2 => exact h.elim
theorem ContO.bel_of {a : Addr} {o : HO} : ∀ {d : D}, ContO K ρ n L H a o d → d.bel n = true
  | .lst _, ⟨vs, z, q⟩ => Reps.bel_of q fun _ _ _ _ h => h.bel
  | .dct _ ks ds, ⟨vs, q, q2⟩ => by
    show (D.bels n ks && D.bels n ds) = true
    rw [q.bel, Reps.bel_of q2 fun _ _ _ _ h => h.bel]; rfl
  | .ins _ _ _, ⟨dx, fs, z, q, q1, q2⟩ => Reps.bel_of q2 fun _ _ _ _ h => h.bel
  | .non, z => z.elim
  | .bl _, z => z.elim
  | .int _, z => z.elim
  | .str _, z => z.elim
  | .tup _, z => z.elim
  | .loc _, z => z.elim
theorem pcall_ok {F : List D → Store → Option (D × Store)} {np : Nat} {fr : Bool} {ts : List T} {ds : List D} {vs : List V} {d : D} {S' : Store} {Q : VK} {E : XK} (r : Rel K A ρ σ H st) (hl : lents ts st = some ds) (hn : ds.length = np) (hr : RepTs K A ρ σ H st ts vs) (hF : F ds (mask st.S) = some (d, S'))
    (hb : d.bel 0 = true)
    (q : ∀ ρ' v H' s1, s1 = (if d.flat then st else { st with env := freezes ts st.env }) → Fr A ρ σ H st ρ' σ H' s1 → (if fr = true then Fresh K A σ H st (.v d) ρ' v H' s1 else Rel K A ρ' σ H' s1 ∧ Rep K ρ' s1.S.length (Ch A ρ' σ s1) H' d v) → Q v H') : spF K F np fr vs H Q E := by
  refine ⟨Lend A ρ σ st ts, ρ, mask st.S, ds, d, S', hn, r.lend ts, lents_ok r (fun _ h => h) hr hl, hF, fun ρ' v H' f h => ?_⟩
  have kept : ∀ a o, H a = some o → H' a = some o := fun a o e => f.at_ a o e live_mask own_nil
  have rho : ∀ m, m < st.S.length → ρ' m = ρ m := fun m hm => f.rho m (by show m < (mask st.S).length; rw [mask_len]; exact hm)
  have trA : ∀ a, A a → ∃ o, H' a = some o ∧ ¬ Imm o := fun a ha => let ⟨o, e, z⟩ := r.tr a ha; ⟨o, kept a o e, z⟩
  -- the state behind, where s1's slots are frozen
  have after : ∀ {B : Addr → Prop}, (∀ a, B a → A a ∨ H a = none) → (∀ a, B a → ∃ o, H' a = some o ∧ ¬ Imm o) →
      Fr A ρ σ H st ρ' σ H' { st with env := freezes ts st.env } ∧ Rel K B ρ' σ H' { st with env := freezes ts st.env } := fun {B} hB trB => by
    obtain ⟨f1, r1⟩ := r.moved kept rho f.free hB trB
    obtain ⟨f2, r2⟩ := Rel.freezes (st := st) ts (env := st.env) r1
    exact ⟨f1.trans ⟨f2.rho, f2.sz, f2.at_, f2.free, f2.live, f2.own, f2.busy⟩, r2⟩
  have notBor : ∀ a, Ch A ρ' σ { st with env := freezes ts st.env } a → Lend A ρ σ st ts a := fun a z => by
    rcases z with z | z | z
    · refine ⟨.inl z, fun ⟨i, d', _, e1, e2⟩ => ?_⟩
      obtain ⟨b, e3, nb, _⟩ := r.own i _ e1
      rw [e2] at e3; cases e3
      exact nb z
    · obtain ⟨m, xs, e, h⟩ := z
      have hm : ρ' m = ρ m := rho m (List.getElem?_eq_some_iff.mp e).1
      rw [hm] at h
      exact ⟨.inr (.inl ⟨m, xs, e, h⟩), fun ⟨i, d', _, e1, e2⟩ => r.oc i _ m xs e1 e (by rw [h]; exact e2)⟩
    · obtain ⟨j, d', e, h⟩ := z
      obtain ⟨h1, h2⟩ := freezes_get e
      refine ⟨.inr (.inr ⟨j, d', h1, h⟩), fun ⟨i, d2, hm, e1, e2⟩ => h2 ?_⟩
      rw [r.oo j i _ _ a h1 e1 h e2]
      exact hm
  have plain : Rel K (Lend A ρ σ st ts) ρ' [] H' ⟨[], S'⟩ → Rep K ρ' S'.length (Ch (Lend A ρ σ st ts) ρ' [] ⟨[], S'⟩) H' d v → ∃ s1, s1 = (if d.flat then st else { st with env := freezes ts st.env }) ∧ Fr A ρ σ H st ρ' σ H' s1 ∧ Rel K A ρ' σ H' s1 ∧ Rep K ρ' s1.S.length (Ch A ρ' σ s1) H' d v := fun r' h' => by
    cases hf : d.flat with
    | true =>
      obtain ⟨f1, r1⟩ := r.moved (B := A) kept rho f.free (fun a z => .inl z) trA
      exact ⟨st, rfl, f1, r1, Rep.flat hf h'⟩
    | false =>
      obtain ⟨f1, r1⟩ := after (B := A) (fun a z => .inl z) trA
      refine ⟨_, rfl, f1, r1, ?_⟩
      exact Rep.bel (fun k hk => absurd hk (Nat.not_lt_zero _)) (Nat.zero_le _) (Rep.keep (Keep.less (fun a z => .inl (notBor a z)) fun a z => r'.chH z) h') hb
  cases fr with
  | false =>
    simp only [Bool.false_eq_true, if_false] at h
    obtain ⟨s1, e, f1, h1, h2⟩ := plain h.1 h.2
    exact q ρ' v H' s1 e f1 (by simp only [Bool.false_eq_true, if_false]; exact ⟨h1, h2⟩)
  | true =>
    simp only [if_true] at h
    rcases h with ⟨d', a, e1, e0, e2, hn, h1, h2⟩ | ⟨h0, h1, h2⟩
    · have hn : H a = none := hn.elim id fun z => (own_nil z).elim
      cases e1
      have hf : d.flat = false := by cases d <;> first | (cases e0; done) | rfl
      obtain ⟨f1, r1⟩ := after (B := And1 A a) (fun b z => z.elim .inl fun z => by rw [z]; exact .inr hn) (fun b z => z.elim (trA b) fun z => by
        rw [z]; exact h2.at_)
      refine q ρ' v H' { st with env := freezes ts st.env } (by rw [hf]; rfl) f1 ?_
      simp only [if_true]
      exact .inl ⟨d, a, rfl, e0, e2, .inl hn, r1, Cont.bel (fun k hk => absurd hk (Nat.not_lt_zero _)) (Nat.zero_le _) (h2.keep (Keep.less (fun b z => (Ch.and1.mp z).elim (fun z => Or.inl (Or.inl (notBor b z))) fun z => Or.inl (Or.inr z)) fun b z => h1.chH z) fun _ z => z) hb⟩
    · obtain ⟨s1, e, f1, h3, h4⟩ := plain h1 h2
      exact q ρ' v H' s1 e f1 (by simp only [if_true]; exact .inr ⟨h0, h3, h4⟩)
/-! ### new cells -/
theorem app_get {S : Store} {d : D} {j : Nat} {x : Cell} (h : (S ++ [Cell.o d])[j]? = some x) : (j < S.length ∧ S[j]? = some x) ∨ (j = S.length ∧ x = .o d) := by
  rcases Nat.lt_trichotomy j S.length with z | z | z
  · rw [List.getElem?_append_left z] at h; exact .inl ⟨z, h⟩
  · subst z
    rw [List.getElem?_append_right (Nat.le_refl _), Nat.sub_self] at h
    cases h; exact .inr ⟨rfl, rfl⟩
  · rw [List.getElem?_eq_none (by rw [List.length_append]; exact z)] at h; cases h
/-- the cells' places, with a new one -/
def rhoN (ρ : Nat → Addr) (n : Nat) (a : Addr) : Nat → Addr := fun m => if m = n then a else ρ m
theorem rhoN_lt {ρ : Nat → Addr} {n m : Nat} {a : Addr} (h : m < n) : rhoN ρ n a m = ρ m := if_neg (Nat.ne_of_lt h)
theorem rhoN_same {ρ : Nat → Addr} {n : Nat} {a : Addr} : rhoN ρ n a n = a := if_pos rfl
theorem live_new {S : Store} {d : D} {a x : Addr} (h : Live (rhoN ρ S.length a) (S ++ [.o d]) x) : Live ρ S x ∨ x = a := by
  obtain ⟨m, e, h1, h2⟩ := h
  rcases app_get h1 with ⟨hl, z⟩ | ⟨rfl, _⟩
  · rw [rhoN_lt hl] at h2; exact .inl ⟨m, e, z, h2⟩
  · rw [rhoN_same] at h2; exact .inr h2.symm
/-- an object that nobody else has becomes a cell -/
theorem Rel.alloc {a : Addr} {d : D} (r : Rel K (And1 A a) ρ σ H st) (na : ¬ A a) (c : Cont K ρ st.S.length (Ch (And1 A a) ρ σ st) H a d) : Rel K A (rhoN ρ st.S.length a) σ H ⟨st.env, st.S ++ [.o d]⟩ := by
  have hl : (st.S ++ [Cell.o d]).length = st.S.length + 1 := by rw [List.length_append]; rfl
  have hch : ∀ x, Ch A (rhoN ρ st.S.length a) σ ⟨st.env, st.S ++ [.o d]⟩ x → Ch (And1 A a) ρ σ st x := fun x z => by
    rcases z with z | z | z
    · exact .inl (.inl z)
    · rcases live_new z with z | z
      · exact .inr (.inl z)
      · exact .inl (.inr z)
    · exact .inr (.inr z)
  have kp : Keep ρ st.S.length (Ch (And1 A a) ρ σ st) H (rhoN ρ st.S.length a) (st.S ++ [Cell.o d]).length (Ch A (rhoN ρ st.S.length a) σ ⟨st.env, st.S ++ [.o d]⟩) H :=
    ⟨fun n hn => rhoN_lt hn, by rw [hl]; exact Nat.le_succ _, fun x o e l => ⟨e, fun q => l (hch x q)⟩, fun x o e l => by
      obtain ⟨o', e', q⟩ := r.chH l
      rw [e] at e'; cases e'
      exact q⟩
  refine ⟨r.len, fun i e h => ?_, fun i e h => ?_, fun m e h => ?_, fun b hb => r.tr b (.inl hb), r.oo, fun m m' xs ys h1 h2 h3 => ?_, fun i e m xs h1 h2 h3 => ?_, r.ob⟩
  · obtain ⟨v, h1, q⟩ := r.val i e h
    exact ⟨v, h1, Rep.keep kp q⟩
  · obtain ⟨b, h1, nb, c'⟩ := r.own i e h
    exact ⟨b, h1, fun z => nb (.inl z), c'.keep kp fun _ z => z⟩
  · rcases app_get h with ⟨hm, z⟩ | ⟨rfl, z⟩
    · rw [rhoN_lt hm]
      obtain ⟨nb, c'⟩ := r.cell m e z
      exact ⟨fun z => nb (.inl z), c'.keep kp fun _ z => z⟩
    · cases z
      rw [rhoN_same]
      exact ⟨na, c.keep kp fun _ z => z⟩
  · rcases app_get h1 with ⟨l1, z1⟩ | ⟨rfl, z1⟩
    · rw [rhoN_lt l1] at h3
      rcases app_get h2 with ⟨l2, z2⟩ | ⟨rfl, z2⟩
      · rw [rhoN_lt l2] at h3
        exact r.cc m m' xs ys z1 z2 h3
      · rw [rhoN_same] at h3
        exact absurd (.inr h3) (r.cell m _ z1).1
    · rw [rhoN_same] at h3
      rcases app_get h2 with ⟨l2, z2⟩ | ⟨rfl, z2⟩
      · rw [rhoN_lt l2] at h3
        exact absurd (.inr h3.symm) (r.cell m' _ z2).1
      · rfl
  · rcases app_get h2 with ⟨l2, z2⟩ | ⟨rfl, z2⟩
    · rw [rhoN_lt l2] at h3
      exact r.oc i e m xs h1 z2 h3
    · rw [rhoN_same] at h3
      obtain ⟨b, e1, nb, _⟩ := r.own i e h1
      rw [h3] at e1; cases e1
      exact nb (.inr rfl)
theorem Fr.alloc {a : Addr} {d : D} (f : Fr A ρ σ H st ρ' σ H' st') (ha : H a = none ∨ Own st.env σ a) : Fr A ρ σ H st (rhoN ρ' st'.S.length a) σ H' ⟨st'.env, st'.S ++ [.o d]⟩ where
  rho := fun n hn => by rw [rhoN_lt (Nat.lt_of_lt_of_le hn f.sz)]; exact f.rho n hn
  sz := by
    have := f.sz
    rw [List.length_append]; exact Nat.le_trans this (Nat.le_add_right _ _)
  at_ := f.at_
  free := f.free
  live := fun x h => (live_new h).elim (f.live x) fun z => by rw [z]; exact ha.elim (fun z => .inr (.inr z)) fun z => .inr (.inl z)
  own := f.own
  busy := f.busy
/-! ### cells of a call that are forgotten -/
theorem storeB_eq : ∀ {S S' : Store}, storeB S S' = true → S = S'
  | [], [], _ => rfl
  | [], _ :: _, h => by cases h
  | _ :: _, [], h => by cases h
  | a :: as, b :: bs, h => by
    obtain ⟨h1, h2⟩ := Bool.and_eq_true_iff.mp (show (Cell.beq a b && storeB as bs) = true from h)
    rw [storeB_eq h2]
    cases a <;> cases b <;> first | (cases h1; done) | skip
    · rw [(D.beq_iff _ _).mp h1]
    · rfl
theorem Rel.trim {S' : Store} (r : Rel K A ρ σ H st) (r' : Rel K A ρ' σ H' ⟨st.env, S'⟩) (f : Fr A ρ σ H st ρ' σ H' ⟨st.env, S'⟩) (hS : S'.take st.S.length = st.S) :
    Fr A ρ σ H st ρ' σ H' st ∧ Rel K A ρ' σ H' st ∧ ∀ {d : D} {v : V}, Rep K ρ' S'.length (Ch A ρ' σ ⟨st.env, S'⟩) H' d v → d.bel st.S.length = true → Rep K ρ' st.S.length (Ch A ρ' σ st) H' d v := by
  have get : ∀ {m : Nat} {x : Cell}, st.S[m]? = some x → S'[m]? = some x := fun {m x} h => by
    have hm := (List.getElem?_eq_some_iff.mp h).1
    rw [← hS, List.getElem?_take_of_lt hm] at h
    exact h
  have lv : ∀ x, Live ρ' st.S x → Live ρ' S' x := fun x ⟨m, e, h1, h2⟩ => ⟨m, e, get h1, h2⟩
  have hch : ∀ x, Ch A ρ' σ st x → Ch A ρ' σ ⟨st.env, S'⟩ x := fun x z => z.elim .inl fun z => z.elim (fun z => .inr (.inl (lv x z))) fun z => .inr (.inr z)
  have kp : Keep ρ' S'.length (Ch A ρ' σ ⟨st.env, S'⟩) H' ρ' S'.length (Ch A ρ' σ st) H' := Keep.less hch fun a z => r'.chH z
  have fr : Fr A ρ σ H st ρ' σ H' st := ⟨f.rho, Nat.le_refl _, f.at_, f.free, fun x h => f.live x (lv x h), f.own, f.busy⟩
  refine ⟨fr, ⟨r.len, fun i e h => ?_, fun i e h => ?_, fun m e h => ?_, r'.tr, r.oo, fun m m' xs ys h1 h2 h3 => r'.cc m m' xs ys (get h1) (get h2) h3, fun i e m xs h1 h2 h3 => r'.oc i e m xs h1 (get h2) h3, r.ob⟩, fun {d v} h hb => Rep.bel (fun _ _ => rfl) (Nat.le_refl _) (Rep.keep kp h) hb⟩
  · obtain ⟨v, h1, q⟩ := r'.val i e h
    obtain ⟨v0, h2, q0⟩ := r.val i e h
    exact ⟨v, h1, Rep.bel (fun _ _ => rfl) (Nat.le_refl _) (Rep.keep kp q) (Rep.bel_of q0 fun _ _ _ _ h => h.bel)⟩
  · obtain ⟨b, h1, nb, c⟩ := r'.own i e h
    obtain ⟨b0, h2, _, o, _, c0⟩ := r.own i e h
    exact ⟨b, h1, nb, Cont.bel (fun _ _ => rfl) (Nat.le_refl _) (c.keep kp fun _ z => z) c0.bel_of⟩
  · obtain ⟨nb, c⟩ := r'.cell m e (get h)
    obtain ⟨_, o, _, c0⟩ := r.cell m e h
    exact ⟨nb, Cont.bel (fun _ _ => rfl) (Nat.le_refl _) (c.keep kp fun _ z => z) c0.bel_of⟩
end
end Gp

/-! Gp, part G: what is walked; comprehensions; loops. -/
namespace Gp
open PySem L2

section
variable [Cfg] {K : PySem.W.Frag} {A B : Addr → Prop} {ρ ρ' ρ2 : Nat → Addr} {σ σ' σ2 : L2.St} {H H' H2 : Hp} {st st' st2 : Sta} {n : Nat} {L : Addr → Prop}

/-- the slots that are held stand where they stood -/
def SlotsAt (g : Gd) (σ σ' : L2.St) : Prop := ∀ p ∈ g, ∀ i, p.1 = .slot i → σ'[i]? = σ[i]?
/-- from here on J yields these, whatever happens that the state lets happen -/
def Yields (K : PySem.W.Frag) (A : Addr → Prop) (ρ : Nat → Addr) (σ : L2.St) (H : Hp) (st : Sta) (J : It) (ds : List D) (gd : Gd) : Prop :=
  ∀ B i ρ' σ' H' st', Fr A ρ σ H st ρ' σ' H' st' → Rel K B ρ' σ' H' st' → (∀ a, B a → A a ∨ H a = none) → gdB gd st' = true → SlotsAt gd σ σ' →
    (∀ d, ds[i]? = some d → J.go i H' ∧ ∀ x H2, J.yld i H' x H2 → Fr B ρ' σ' H' st' ρ' σ' H2 st' ∧ Rel K B ρ' σ' H2 st' ∧ Rep K ρ' st'.S.length (Ch B ρ' σ' st') H2 d x) ∧ (ds.length ≤ i → J.stop i H')
def tI (K : PySem.W.Frag) (f : Sta → Out (List D × Gd)) : TI := fun σ H R => ∃ A ρ st ds s1, Rel K A ρ σ H st ∧ f st = .ok ds s1 ∧
  ∀ ρ' J H', Fr A ρ σ H st ρ' σ H' s1 → Rel K A ρ' σ H' s1 → Yields K A ρ' σ H' s1 J ds.1 ds.2 → R J H'
theorem SqL.keepL {a : Addr} {vs : List V} (r : Rel K A ρ σ H st) (f : Fr A ρ σ H st ρ' σ' H' st') (hB : ∀ b, B b → A b ∨ H b = none) (h : FzL K (Ch A ρ σ st) H a vs) : SqL K H' a vs := ((r.keepB f hB).fz h).sq
/-- what is held is seen as it was, as long as the guard says so -/
def Held (K : PySem.W.Frag) (A : Addr → Prop) (ρ : Nat → Addr) (σ : L2.St) (H : Hp) (st : Sta) (gd : Gd) (v : V) (d : D) : Prop :=
  ∀ B ρ' σ' H' st', Fr A ρ σ H st ρ' σ' H' st' → Rel K B ρ' σ' H' st' → (∀ a, B a → A a ∨ H a = none) → gdB gd st' = true → SlotsAt gd σ σ' → Seen K ρ' st'.S.length (Ch B ρ' σ' st') H' d v
theorem Held.later {gd : Gd} {v : V} {d : D} (h : Held K A ρ σ H st gd v d) (f : Fr A ρ σ H st ρ' σ H' st') : Held K A ρ' σ H' st' gd v d :=
  fun B ρ2 σ2 H2 st2 f2 r2 hB hg hs => h B ρ2 σ2 H2 st2 (f.trans f2) r2 (fun a z => (hB a z).imp id fun z => f.free a z) hg hs
theorem Held.more {g g' : Gd} {v : V} {d : D} (h : Held K A ρ σ H st g v d) (i1 : ∀ st', gdB g' st' = true → gdB g st' = true) (i2 : ∀ p ∈ g, p ∈ g') : Held K A ρ σ H st g' v d :=
  fun B ρ2 σ2 H2 st2 f2 r2 hB hg hs => h B ρ2 σ2 H2 st2 f2 r2 hB (i1 _ hg) fun p hp => hs p (i2 p hp)
theorem gdB_one {t : T} {d : D} {st : Sta} (h : gdB [(t, d)] st = true) : look t st = some d := by
  have h : ((match look t st with
    | some e => D.beq e d
    | none => false) && true) = true := h
  rw [Bool.and_true] at h
  split at h
  · rename_i e he
    rw [he, (D.beq_iff _ _).mp h]
  · cases h
theorem gdB_app {g g' : Gd} {st : Sta} : gdB (g ++ g') st = true ↔ gdB g st = true ∧ gdB g' st = true := by
  unfold gdB
  rw [List.all_append, Bool.and_eq_true]
theorem Held.free {v : V} {d : D} (r : Rel K A ρ σ H st) (h : Rep K ρ st.S.length (Ch A ρ σ st) H d v) : Held K A ρ σ H st [] v d :=
  fun B ρ2 σ2 H2 st2 f2 r2 hB _ _ => (Rep.keep (r.keepB f2 hB) h).seen
theorem look_loc {n : Nat} {st : Sta} {d : D} (h : st.S[n]? = some (.o d)) : look (.v (.loc n)) st = some d := by simp only [look, h]
theorem hold_ok (r : Rel K A ρ σ H st) {h : Bool} {t : T} {v : V} {p : D × Gd} {s1 : Sta} (hv : RepT K A ρ σ H st t v) (e : hold h t st = .ok p s1) : Fr A ρ σ H st ρ σ H s1 ∧ Rel K A ρ σ H s1 ∧ Held K A ρ σ H s1 p.2 v p.1 ∧ (h = false → ∀ q ∈ p.2, ∀ i, q.1 ≠ .slot i) := by
  have cell : ∀ n, Rep K ρ st.S.length (Ch A ρ σ st) H (.loc n) v → cellG n st = .ok p s1 → Fr A ρ σ H st ρ σ H s1 ∧ Rel K A ρ σ H s1 ∧ Held K A ρ σ H s1 p.2 v p.1 ∧ (h = false → ∀ q ∈ p.2, ∀ i, q.1 ≠ .slot i) := fun n hv e => by
    unfold cellG at e
    split at e
    · rename_i d hd
      cases e
      refine ⟨Fr.refl, r, fun B ρ2 σ2 H2 st2 f2 r2 hB hg _ => ?_, fun _ q hq i z => by rw [List.mem_singleton.mp hq] at z; cases z⟩
      exact r2.look (x := .v (.loc n)) (show Rep K ρ2 st2.S.length (Ch B ρ2 σ2 st2) H2 (.loc n) v from Rep.keep (r.keepB f2 hB) hv) (gdB_one hg)
    · cases e
  cases t with
  | slot i =>
    have hv : σ[i]? = some (some v) := hv
    unfold hold at e
    simp only at e
    cases e0 : st.env[i]? with
    | none => rw [e0] at e; cases e
    | some sl =>
      rw [e0] at e
      cases sl with
      | no => cases e
      | busy => cases e
      | own d =>
        simp only at e
        cases h with
        | true =>
          simp only [if_true] at e
          cases e
          refine ⟨Fr.refl, r, fun B ρ2 σ2 H2 st2 f2 r2 hB hg hs => ?_, fun z => by cases z⟩
          exact r2.look (x := .slot i) (show σ2[i]? = some (some v) by rw [hs _ (List.mem_singleton_self _) i rfl]; exact hv) (gdB_one hg)
        | false =>
          simp only [Bool.false_eq_true, if_false] at e
          cases e
          obtain ⟨f1, r1, h1⟩ := leak_ok r (x := .slot i) (v := v) (d := d) (s1 := { st with env := st.env.set i (.val d) }) hv (by simp only [leak, e0])
          exact ⟨f1, r1, Held.free r1 h1, fun _ q hq => by cases hq⟩
      | val d =>
        obtain ⟨w, h1, h2⟩ := r.val i d e0
        rw [hv] at h1; cases h1
        cases d with
        | loc n => exact cell n h2 e
        | _ => cases e; exact ⟨Fr.refl, r, Held.free r h2, fun _ q hq => by cases hq⟩
  | v d =>
    cases d with
    | loc n => exact cell n hv e
    | _ => cases e; exact ⟨Fr.refl, r, Held.free r hv, fun _ q hq => by cases hq⟩
theorem held_now (r : Rel K A ρ σ H st) {h : Bool} {t : T} {v : V} {p : D × Gd} {s1 : Sta} (hv : RepT K A ρ σ H st t v) (e : hold h t st = .ok p s1) : Seen K ρ st.S.length (Ch A ρ σ st) H p.1 v := by
  refine r.look hv ?_
  have cell : ∀ n, cellG n st = .ok p s1 → look (.v (.loc n)) st = some p.1 := fun n e => by
    unfold cellG at e
    split at e
    · rename_i d hd; cases e; exact look_loc hd
    · cases e
  cases t with
  | slot i =>
    unfold hold at e
    simp only at e
    cases e0 : st.env[i]? with
    | none => rw [e0] at e; cases e
    | some sl =>
      rw [e0] at e
      cases sl with
      | no => cases e
      | busy => cases e
      | own d =>
        have hu : d.obj = true := r.ob i _ e0
        have hd : p.1 = d := by
          simp only at e
          cases h <;> simp only [if_true, Bool.false_eq_true, if_false] at e <;> cases e <;> rfl
        rw [hd]
        cases d <;> first | (cases hu; done) | simp only [look, e0]
      | val d =>
        cases d with
        | loc n => have := cell n e; simp only [look, e0] at this ⊢; exact this
        | _ => cases e; simp only [look, e0]
  | v d =>
    cases d with
    | loc n => exact cell n e
    | _ => cases e; simp only [look]
theorem yields_list (r : Rel K A ρ σ H st) {ds : List D} {gd : Gd} {a : Addr} (h : Held K A ρ σ H st gd (.ref a) (.lst ds)) : Yields K A ρ σ H st (Itl K a) ds gd := fun B i ρ' σ' H' st' f r' hB hg hs0 => by
  obtain ⟨b, vs, eb, hs, hr⟩ := h B ρ' σ' H' st' f r' hB hg hs0
  cases eb
  refine ⟨fun d hd => ?_, fun hl => ⟨vs, hs, by rw [hr.length]; exact hl⟩⟩
  obtain ⟨v, e1, e2⟩ := hr.get hd
  exact ⟨⟨vs, v, hs, e1⟩, fun x H2 ⟨e, hx⟩ => by
    subst e
    have := hx vs hs
    rw [e1] at this; cases this
    exact ⟨Fr.refl, r', e2⟩⟩
theorem yields_tup (r : Rel K A ρ σ H st) {ds : List D} {gd : Gd} {a : Addr} (h : Held K A ρ σ H st gd (.ref a) (.tup ds)) : Yields K A ρ σ H st (Itt K a) ds gd := fun B i ρ' σ' H' st' f r' hB hg hs0 => by
  obtain ⟨b, vs, eb, hs, hr⟩ := h B ρ' σ' H' st' f r' hB hg hs0
  cases eb
  have hs : SqT K H' a vs := SqT.of hs
  refine ⟨fun d hd => ?_, fun hl => ⟨vs, hs, by rw [hr.length]; exact hl⟩⟩
  obtain ⟨v, e1, e2⟩ := hr.get hd
  exact ⟨⟨vs, v, hs, e1⟩, fun x H2 ⟨e, hx⟩ => by
    subst e
    have := hx vs hs
    rw [e1] at this; cases this
    exact ⟨Fr.refl, r', e2⟩⟩
theorem yields_rev (r : Rel K A ρ σ H st) {ds : List D} {gd : Gd} {a : Addr} (h : Held K A ρ σ H st gd (.ref a) (.lst ds)) : Yields K A ρ σ H st (Itv K a ds.length) ds.reverse gd := fun B i ρ' σ' H' st' f r' hB hg hs0 => by
  obtain ⟨b, vs, eb, hs, hr⟩ := h B ρ' σ' H' st' f r' hB hg hs0
  cases eb
  refine ⟨fun d hd => ?_, fun hl => by show ds.length ≤ i; rw [← List.length_reverse]; exact hl⟩
  have hi : i < ds.length := by
    have := (List.getElem?_eq_some_iff.mp hd).1
    rwa [List.length_reverse] at this
  rw [List.getElem?_reverse hi] at hd
  obtain ⟨v, e1, e2⟩ := hr.get hd
  exact ⟨⟨hi, vs, v, hs, e1⟩, fun x H2 ⟨e, hx⟩ => by
    subst e
    have := hx vs hs
    rw [e1] at this; cases this
    exact ⟨Fr.refl, r', e2⟩⟩
theorem yields_range (lo hi : Int) : Yields K A ρ σ H st (Itr lo (hi - lo).toNat) (rangeL lo hi) [] := fun B i ρ' σ' H' st' f r' hB _ _ => by
  have hl : (rangeL lo hi).length = (hi - lo).toNat := by unfold rangeL; rw [List.length_map, List.length_range]
  refine ⟨fun d hd => ?_, fun h => by show (hi - lo).toNat ≤ i; rw [← hl]; exact h⟩
  have hlt := (List.getElem?_eq_some_iff.mp hd).1
  rw [hl] at hlt
  refine ⟨hlt, fun x H2 ⟨e, hx⟩ => ?_⟩
  subst e
  unfold rangeL at hd
  rw [List.getElem?_map, List.getElem?_range hlt] at hd
  cases hd
  exact ⟨Fr.refl, r', hx⟩
/-- a pair is laid at a turn -/
theorem yield_tup (r : Rel K B ρ σ H st) {T : Addr} {ds : List D} {vs : List V} (hT : H T = none) (hr : Reps K ρ st.S.length (Ch B ρ σ st) H ds vs) : Fr B ρ σ H st ρ σ (upd H T (.tup vs)) st ∧ Rel K B ρ σ (upd H T (.tup vs)) st ∧ Rep K ρ st.S.length (Ch B ρ σ st) (upd H T (.tup vs)) (.tup ds) (.ref T) :=
  ⟨Fr.laid hT, r.laid hT, T, vs, rfl, upd_same, r.reps (Fr.laid hT) hr⟩
theorem yields_enum (r : Rel K A ρ σ H st) {ds : List D} {gd : Gd} {a : Addr} (h : Held K A ρ σ H st gd (.ref a) (.lst ds)) :
    Yields K A ρ σ H st (Ite K a) ((List.range ds.length).zipWith (fun (k : Nat) d => .tup [.int k, d]) ds) gd := fun B i ρ' σ' H' st' f r' hB hg hs0 => by
  obtain ⟨b, vs, eb, hs, hr⟩ := h B ρ' σ' H' st' f r' hB hg hs0
  cases eb
  have hl : ((List.range ds.length).zipWith (fun (k : Nat) d => D.tup [.int k, d]) ds).length = ds.length := by rw [List.length_zipWith, List.length_range, Nat.min_self]
  refine ⟨fun d hd => ?_, fun h => ⟨vs, hs, by rw [hr.length, ← hl]; exact h⟩⟩
  have hlt := (List.getElem?_eq_some_iff.mp hd).1
  rw [hl] at hlt
  rw [List.getElem?_zipWith, List.getElem?_range hlt, List.getElem?_eq_getElem hlt] at hd
  cases hd
  obtain ⟨v, e1, e2⟩ := hr.get (List.getElem?_eq_getElem hlt)
  refine ⟨⟨vs, v, hs, e1⟩, fun x H2 ⟨T, y, ex, hT, eH, hy⟩ => ?_⟩
  subst ex eH
  have := hy vs hs
  rw [e1] at this; cases this
  exact yield_tup r' hT ⟨_, _, rfl, rfl, _, _, rfl, e2, rfl⟩
theorem yields_zip (r : Rel K A ρ σ H st) {ds es : List D} {gd : Gd} {a b : Addr} (h : Held K A ρ σ H st gd (.ref a) (.lst ds)) (h' : Held K A ρ σ H st gd (.ref b) (.lst es)) :
    Yields K A ρ σ H st (Itz K a b) (ds.zipWith (fun x y => .tup [x, y]) es) gd := fun B i ρ' σ' H' st' f r' hB hg hs0 => by
  obtain ⟨_, vs, eb, hs, hr⟩ := h B ρ' σ' H' st' f r' hB hg hs0
  cases eb
  obtain ⟨_, ws, eb, hs', hr'⟩ := h' B ρ' σ' H' st' f r' hB hg hs0
  cases eb
  have hl : (ds.zipWith (fun x y => D.tup [x, y]) es).length = min ds.length es.length := List.length_zipWith ..
  refine ⟨fun d hd => ?_, fun h => ⟨vs, ws, hs, hs', by rw [hr.length, hr'.length]; omega⟩⟩
  have hlt := (List.getElem?_eq_some_iff.mp hd).1
  rw [hl] at hlt
  have l1 : i < ds.length := by omega
  have l2 : i < es.length := by omega
  rw [List.getElem?_zipWith, List.getElem?_eq_getElem l1, List.getElem?_eq_getElem l2] at hd
  cases hd
  obtain ⟨v, e1, e2⟩ := hr.get (List.getElem?_eq_getElem l1)
  obtain ⟨w, e3, e4⟩ := hr'.get (List.getElem?_eq_getElem l2)
  refine ⟨⟨vs, ws, v, w, hs, hs', e1, e3⟩, fun x H2 ⟨T, y, z, ex, hT, eH, hy, hz⟩ => ?_⟩
  subst ex eH
  have := hy vs hs
  rw [e1] at this; cases this
  have := hz ws hs'
  rw [e3] at this; cases this
  exact yield_tup r' hT ⟨_, _, rfl, e2, _, _, rfl, e4, rfl⟩

/-! ### targets -/
/-- nothing but these slots is stored -/
def Stored (W : List Nat) (σ σ' : L2.St) : Prop := ∀ i, i ∉ W → σ'[i]? = σ[i]?
def tG (K : PySem.W.Frag) (W : List Nat) (f : D → Sta → Out Unit) : TG := fun v σ H Q => ∃ A ρ st d s1, Rel K A ρ σ H st ∧ Rep K ρ st.S.length (Ch A ρ σ st) H d v ∧ f d st = .ok () s1 ∧
  ∀ ρ' σ' H', Stored W σ σ' → Fr A ρ σ H st ρ' σ' H' s1 → Rel K A ρ' σ' H' s1 → Q σ' H'
def tGs (K : PySem.W.Frag) (W : List Nat) (f : List D → Sta → Out Unit) : TGs := fun v σ H Q => ∃ A ρ st d s1, Rel K A ρ σ H st ∧ Reps K ρ st.S.length (Ch A ρ σ st) H d v ∧ f d st = .ok () s1 ∧
  ∀ ρ' σ' H', Stored W σ σ' → Fr A ρ σ H st ρ' σ' H' s1 → Rel K A ρ' σ' H' s1 → Q σ' H'
theorem own_of_set {env : Env} {i : Nat} {s : Slot} {v : V} {a : Addr} (hs : ∀ d, s ≠ .own d) (h : Own (env.set i s) (σ.set i (some v)) a) : Own env σ a := by
  obtain ⟨j, d, h1, h2⟩ := h
  rcases getElem?_set' h1 with ⟨_, z⟩ | ⟨ne, z⟩
  · exact absurd z.symm (hs d)
  · rcases getElem?_set' h2 with ⟨z1, _⟩ | ⟨_, z2⟩
    · exact absurd z1 ne
    · exact ⟨j, d, z, z2⟩
/-- a name gets a value -/
theorem Rel.setv (r : Rel K A ρ σ H st) {i : Nat} {d : D} {v : V} (h : Rep K ρ st.S.length (Ch A ρ σ st) H d v) (hi : i < st.env.length) : Fr A ρ σ H st ρ (σ.set i (some v)) H (setName i d st) ∧ Rel K A ρ (σ.set i (some v)) H (setName i d st) := by
  have hσ : i < σ.length := by rw [← r.len]; exact hi
  have own : ∀ a, Own (st.env.set i (.val d)) (σ.set i (some v)) a → Own st.env σ a := fun a z => own_of_set (fun d z => by cases z) z
  have kp : Keep ρ st.S.length (Ch A ρ σ st) H ρ st.S.length (Ch A ρ (σ.set i (some v)) (setName i d st)) H :=
    Keep.less (fun a z => (show Ch A ρ σ st a from z.elim (fun z => Or.inl z) fun z => z.elim (fun z => Or.inr (Or.inl z)) fun z => Or.inr (Or.inr (own a z)))) fun a z => r.chH z
  have old : ∀ {j : Nat} {e : D}, (st.env.set i (.val d))[j]? = some (Slot.own e) → st.env[j]? = some (Slot.own e) ∧ ∀ o : Option V, (σ.set i (some v))[j]? = some o → σ[j]? = some o := fun {j e} h => by
    rcases getElem?_set' h with ⟨_, z⟩ | ⟨ne, z⟩
    · cases z
    · exact ⟨z, fun o ho => (getElem?_set' ho).elim (fun y => absurd y.1 ne) fun y => y.2⟩
  refine ⟨⟨fun _ _ => rfl, Nat.le_refl _, fun a o e _ _ => e, fun _ e => e, fun a z => .inl z, fun a z => .inl (own a z), fun j z => by
    obtain ⟨ne, z⟩ := busy_set (fun z => by cases z) (show (st.env.set i (.val d))[j]? = _ from z)
    exact ⟨z, List.getElem?_set_ne (fun y => ne y.symm)⟩⟩,
    ⟨by show (st.env.set i _).length = (σ.set i _).length; rw [List.length_set, List.length_set]; exact r.len, fun j e h' => ?_, fun j e h' => ?_, fun m xs e => ?_, r.tr, fun j k e e' a h1 h2 h3 h4 => ?_, r.cc, fun j e m xs h1 h2 h3 => ?_, fun j e h' => ?_⟩⟩
  · rcases getElem?_set' h' with ⟨z1, z⟩ | ⟨ne, z⟩
    · cases z; subst z1
      exact ⟨v, by rw [List.getElem?_set_self hσ], Rep.keep kp h⟩
    · obtain ⟨w, h1, q⟩ := r.val j e z
      exact ⟨w, by rw [List.getElem?_set_ne (fun z => ne z.symm)]; exact h1, Rep.keep kp q⟩
  · rcases getElem?_set' h' with ⟨z1, z⟩ | ⟨ne, z⟩
    · cases z
    · obtain ⟨a, h1, na, c⟩ := r.own j e z
      exact ⟨a, by rw [List.getElem?_set_ne (fun z => ne z.symm)]; exact h1, na, c.keep kp fun _ z => z⟩
  · obtain ⟨na, c⟩ := r.cell m xs e
    exact ⟨na, c.keep kp fun _ z => z⟩
  · obtain ⟨o1, l1⟩ := old h1
    obtain ⟨o2, l2⟩ := old h2
    exact r.oo j k _ _ a o1 o2 (l1 _ h3) (l2 _ h4)
  · obtain ⟨o1, l1⟩ := old h1
    exact r.oc j _ m xs o1 h2 (l1 _ h3)
  · exact r.ob j e (old h').1
/-- a name gets an object of its own -/
theorem Rel.seto (r : Rel K (And1 A a) ρ σ H st) {i : Nat} {ds : D} (ha : ¬ A a) (hob : ds.obj = true) (h' : Cont K ρ st.S.length (Ch (And1 A a) ρ σ st) H a ds) (hi : i < st.env.length) :
    Rel K A ρ (σ.set i (some (.ref a))) H { st with env := st.env.set i (.own ds) } := by
  have hσ : i < σ.length := by rw [← r.len]; exact hi
  have own : ∀ b, Own (st.env.set i (.own ds)) (σ.set i (some (.ref a))) b → Own st.env σ b ∨ b = a := fun b ⟨j, e, h1, h2⟩ => by
    rcases getElem?_set' h1 with ⟨z1, z⟩ | ⟨ne, z⟩
    · subst z1
      rw [List.getElem?_set_self hσ] at h2
      cases h2; exact .inr rfl
    · rcases getElem?_set' h2 with ⟨z1, _⟩ | ⟨_, z2⟩
      · exact absurd z1 ne
      · exact .inl ⟨j, e, z, z2⟩
  have kp : Keep ρ st.S.length (Ch (And1 A a) ρ σ st) H ρ st.S.length (Ch A ρ (σ.set i (some (.ref a))) { st with env := st.env.set i (.own ds) }) H :=
    Keep.less (fun b z => Ch.and1.mpr (z.elim (fun z => Or.inl (Or.inl z)) fun z => z.elim (fun z => Or.inl (Or.inr (Or.inl z))) fun z => (own b z).elim (fun z => Or.inl (Or.inr (Or.inr z))) Or.inr)) fun a z => r.chH z
  have old : ∀ {j : Nat} {e : D}, (st.env.set i (.own ds))[j]? = some (Slot.own e) → (j = i) ∨ (st.env[j]? = some (Slot.own e) ∧ ∀ o : Option V, (σ.set i (some (.ref a)))[j]? = some o → σ[j]? = some o) := fun {j e} h => by
    rcases getElem?_set' h with ⟨z, _⟩ | ⟨ne, z⟩
    · exact .inl z
    · exact .inr ⟨z, fun o ho => (getElem?_set' ho).elim (fun y => absurd y.1 ne) fun y => y.2⟩
  have na : ∀ {j : Nat} {e : D}, st.env[j]? = some (Slot.own e) → σ[j]? ≠ some (some (V.ref a)) := fun {j e} h1 h2 => by
    obtain ⟨b, e1, nb, _⟩ := r.own j e h1
    rw [h2] at e1; cases e1
    exact nb (.inr rfl)
  refine ⟨by show (st.env.set i _).length = (σ.set i _).length; rw [List.length_set, List.length_set]; exact r.len, fun j e h' => ?_, fun j e h2 => ?_, fun m xs e => ?_, fun b hb => r.tr b (.inl hb), fun j k e e' b h1 h2 h3 h4 => ?_, r.cc, fun j e m xs h1 h2 h3 => ?_, fun j e h2 => ?_⟩
  · rcases getElem?_set' h' with ⟨z1, z⟩ | ⟨ne, z⟩
    · cases z
    · obtain ⟨w, h1, q⟩ := r.val j e z
      exact ⟨w, by rw [List.getElem?_set_ne (fun z => ne z.symm)]; exact h1, Rep.keep kp q⟩
  · rcases getElem?_set' h2 with ⟨z1, z⟩ | ⟨ne, z⟩
    · cases z; subst z1
      exact ⟨a, by rw [List.getElem?_set_self hσ], ha, h'.keep kp fun _ z => z⟩
    · obtain ⟨b, h1, nb, c⟩ := r.own j e z
      exact ⟨b, by rw [List.getElem?_set_ne (fun z => ne z.symm)]; exact h1, fun z => nb (.inl z), c.keep kp fun _ z => z⟩
  · obtain ⟨nb, c⟩ := r.cell m xs e
    exact ⟨fun z => nb (.inl z), c.keep kp fun _ z => z⟩
  · rcases old h1 with o1 | ⟨o1, l1⟩
    · rcases old h2 with o2 | ⟨o2, l2⟩
      · rw [o1, o2]
      · subst o1
        rw [List.getElem?_set_self hσ] at h3
        cases h3
        exact absurd (l2 _ h4) (na o2)
    · rcases old h2 with o2 | ⟨o2, l2⟩
      · subst o2
        rw [List.getElem?_set_self hσ] at h4
        cases h4
        exact absurd (l1 _ h3) (na o1)
      · exact r.oo j k _ _ b o1 o2 (l1 _ h3) (l2 _ h4)
  · rcases old h1 with o1 | ⟨o1, l1⟩
    · subst o1
      rw [List.getElem?_set_self hσ] at h3
      have : a = ρ m := by cases h3; rfl
      exact (r.cell m xs h2).1 (.inr this.symm)
    · exact r.oc j _ m xs o1 h2 (l1 _ h3)
  · rcases getElem?_set' h2 with ⟨_, z⟩ | ⟨_, z⟩
    · cases z; exact hob
    · exact r.ob j e z

/-! ### a comprehension's own names -/
theorem wipe_get (σ : L2.St) : ∀ (own : List Nat) (j : Nat), (wipe σ own)[j]? = if j ∈ own then (if j < σ.length then some none else none) else σ[j]?
  | [], j => by simp [wipe]
  | i :: own, j => by
    rw [wipe, List.getElem?_set, wipe_length, wipe_get σ own j]
    by_cases e : i = j
    · subst e
      simp
    · have e' : j ≠ i := fun z => e z.symm
      simp [e, e']
theorem wipeE_get (env : Env) : ∀ (own : List Nat) (j : Nat), (wipeE env own)[j]? = if j ∈ own then (if j < env.length then some .no else none) else env[j]?
  | [], j => by simp [wipeE]
  | i :: own, j => by
    have ih := wipeE_get env own j
    have hl : (wipeE env own).length = env.length := wipeE_len env own
    show ((wipeE env own).set i .no)[j]? = _
    rw [List.getElem?_set, hl, ih]
    by_cases e : i = j
    · subst e
      simp
    · have e' : j ≠ i := fun z => e z.symm
      simp [e, e']
where
  wipeE_len (env : Env) : ∀ own : List Nat, (wipeE env own).length = env.length
    | [] => rfl
    | i :: own => by
      show ((wipeE env own).set i .no).length = _
      rw [List.length_set]; exact wipeE_len env own
theorem unwipe_get (old env : Env) : ∀ (own : List Nat) (j : Nat), (unwipe old env own)[j]? = if j ∈ own then (if j < env.length then some (unSlot old j) else none) else env[j]?
  | [], j => by simp [unwipe]
  | i :: own, j => by
    have ih := unwipe_get old env own j
    have hl : (unwipe old env own).length = env.length := unwipe_len old env own
    show ((unwipe old env own).set i (unSlot old i))[j]? = _
    rw [List.getElem?_set, hl, ih]
    by_cases e : i = j
    · subst e
      simp
    · have e' : j ≠ i := fun z => e z.symm
      simp [e, e']
where
  unwipe_len (old env : Env) : ∀ own : List Nat, (unwipe old env own).length = env.length
    | [] => rfl
    | i :: own => by
      show ((unwipe old env own).set i _).length = _
      rw [List.length_set]; exact unwipe_len old env own
theorem wipe_stored {own W : List Nat} (h : Stored W σ σ') (hW : ∀ i ∈ W, i ∈ own) (hl : σ'.length = σ.length) : wipe σ' own = wipe σ own := by
  refine List.ext_getElem? fun j => ?_
  rw [wipe_get, wipe_get, hl]
  by_cases e : j ∈ own
  · simp [e]
  · simp only [e, if_false]
    exact h j fun z => e (hW j z)
abbrev Sta.wiped (st : Sta) (own : List Nat) : Sta := { st with env := wipeE st.env own }
theorem own_wiped {own : List Nat} {a : Addr} (h : Own (wipeE st.env own) (wipe σ own) a) : Own st.env σ a := by
  obtain ⟨j, d, h1, h2⟩ := h
  rw [wipeE_get] at h1
  rw [wipe_get] at h2
  by_cases e : j ∈ own
  · rw [if_pos e] at h1; split at h1 <;> cases h1
  · rw [if_neg e] at h1 h2
    exact ⟨j, d, h1, h2⟩
theorem Rel.wiped (r : Rel K A ρ σ H st) (own : List Nat) : Fr A ρ σ H st ρ (wipe σ own) H (st.wiped own) ∧ Rel K A ρ (wipe σ own) H (st.wiped own) := by
  have kp : Keep ρ st.S.length (Ch A ρ σ st) H ρ st.S.length (Ch A ρ (wipe σ own) (st.wiped own)) H :=
    Keep.less (fun a z => (show Ch A ρ σ st a from z.elim (fun z => Or.inl z) fun z => z.elim (fun z => Or.inr (Or.inl z)) fun z => Or.inr (Or.inr (own_wiped z)))) fun a z => r.chH z
  have old : ∀ {j : Nat} {s : Slot}, (wipeE st.env own)[j]? = some s → s ≠ .no → j ∉ own ∧ st.env[j]? = some s := fun {j s} h hs => by
    rw [wipeE_get] at h
    by_cases e : j ∈ own
    · rw [if_pos e] at h; split at h
      · cases h; exact absurd rfl hs
      · cases h
    · rw [if_neg e] at h; exact ⟨e, h⟩
  have sg : ∀ {j : Nat}, j ∉ own → (wipe σ own)[j]? = σ[j]? := fun {j} h => by rw [wipe_get, if_neg h]
  refine ⟨⟨fun _ _ => rfl, Nat.le_refl _, fun a o e _ _ => e, fun _ e => e, fun a z => .inl z, fun a z => .inl (own_wiped z), fun j z => by
    obtain ⟨h0, h1⟩ := old z (fun z => by cases z)
    exact ⟨h1, sg h0⟩⟩,
    ⟨by show (wipeE st.env own).length = (wipe σ own).length; rw [wipeE_get.wipeE_len, wipe_length]; exact r.len, fun j d h => ?_, fun j d h => ?_, fun m xs e => ?_, r.tr, fun j k d e a h1 h2 h3 h4 => ?_, r.cc, fun j d m xs h1 h2 h3 => ?_, fun j d h => r.ob j d (old h (fun z => by cases z)).2⟩⟩
  · obtain ⟨h0, h1⟩ := old h (fun z => by cases z)
    obtain ⟨v, h2, q⟩ := r.val j d h1
    exact ⟨v, by rw [sg h0]; exact h2, Rep.keep kp q⟩
  · obtain ⟨h0, h1⟩ := old h (fun z => by cases z)
    obtain ⟨a, h2, na, c⟩ := r.own j d h1
    exact ⟨a, by rw [sg h0]; exact h2, na, c.keep kp fun _ z => z⟩
  · obtain ⟨na, c⟩ := r.cell m xs e
    exact ⟨na, c.keep kp fun _ z => z⟩
  · obtain ⟨o1, l1⟩ := old h1 (fun z => by cases z)
    obtain ⟨o2, l2⟩ := old h2 (fun z => by cases z)
    rw [sg o1] at h3
    rw [sg o2] at h4
    exact r.oo j k d e a l1 l2 h3 h4
  · obtain ⟨o1, l1⟩ := old h1 (fun z => by cases z)
    rw [sg o1] at h3
    exact r.oc j d m xs l1 h2 h3
/-- the state behind a comprehension -/
theorem Rel.unwiped {own : List Nat} {st0 : Sta} (r0 : Rel K A ρ σ H st0) (r : Rel K B ρ' (wipe σ own) H' (st.wiped own)) (f : Fr A ρ σ H st0 ρ' (wipe σ own) H' (st.wiped own)) (hB : ∀ a, B a → A a ∨ H a = none) :
    Fr A ρ σ H st0 ρ' σ H' { st with env := unwipe st0.env st.env own } ∧ Rel K B ρ' σ H' { st with env := unwipe st0.env st.env own } ∧ ∀ a, Ch B ρ' σ { st with env := unwipe st0.env st.env own } a → Ch B ρ' (wipe σ own) (st.wiped own) a := by
  have hlen : st.env.length = σ.length := by
    have := r.len
    rw [show (st.wiped own).env = wipeE st.env own from rfl, wipeE_get.wipeE_len, wipe_length] at this
    exact this
  have old : ∀ {j : Nat} {s : Slot}, (unwipe st0.env st.env own)[j]? = some s → (j ∈ own ∧ s = unSlot st0.env j) ∨ (j ∉ own ∧ (wipeE st.env own)[j]? = some s) := fun {j s} h => by
    rw [unwipe_get] at h
    by_cases e : j ∈ own
    · rw [if_pos e] at h; split at h
      · cases h; exact .inl ⟨e, rfl⟩
      · cases h
    · rw [if_neg e] at h; exact .inr ⟨e, by rw [wipeE_get, if_neg e]; exact h⟩
  have noown : ∀ {j : Nat} {d : D}, (unwipe st0.env st.env own)[j]? = some (Slot.own d) → j ∉ own ∧ (wipeE st.env own)[j]? = some (Slot.own d) := fun {j d} h => by
    rcases old h with ⟨_, z⟩ | z
    · unfold unSlot at z; split at z <;> cases z
    · exact z
  have sg : ∀ {j : Nat}, j ∉ own → (wipe σ own)[j]? = σ[j]? := fun {j} h => by rw [wipe_get, if_neg h]
  have ow : ∀ a, Own (unwipe st0.env st.env own) σ a → Own (wipeE st.env own) (wipe σ own) a := fun a ⟨j, d, h1, h2⟩ => by
    obtain ⟨h0, h1⟩ := noown h1
    exact ⟨j, d, h1, by rw [sg h0]; exact h2⟩
  have hch : ∀ a, Ch B ρ' σ { st with env := unwipe st0.env st.env own } a → Ch B ρ' (wipe σ own) (st.wiped own) a := fun a z => z.elim (fun z => Or.inl z) fun z => z.elim (fun z => Or.inr (Or.inl z)) fun z => Or.inr (Or.inr (ow a z))
  have kp : Keep ρ' st.S.length (Ch B ρ' (wipe σ own) (st.wiped own)) H' ρ' st.S.length (Ch B ρ' σ { st with env := unwipe st0.env st.env own }) H' := Keep.less hch fun a z => r.chH z
  have fr : Fr A ρ σ H st0 ρ' σ H' { st with env := unwipe st0.env st.env own } := ⟨f.rho, f.sz, f.at_, f.free, f.live, fun a z => f.own a (ow a z), fun j z => by
    rcases old z with ⟨_, z⟩ | ⟨h0, z⟩
    · unfold unSlot at z; split at z <;> cases z
    · exact ⟨(f.busy j z).1, rfl⟩⟩
  have kp0 := r0.keepB fr hB
  refine ⟨fr, ⟨by show (unwipe st0.env st.env own).length = σ.length; rw [unwipe_get.unwipe_len]; exact hlen, fun j d h => ?_, fun j d h => ?_, fun m xs e => ?_, r.tr, fun j k d e a h1 h2 h3 h4 => ?_, r.cc, fun j d m xs h1 h2 h3 => ?_, fun j d h => r.ob j d (noown h).2⟩, hch⟩
  · rcases old h with ⟨h0, z⟩ | ⟨h0, z⟩
    · unfold unSlot at z
      split at z
      · rename_i d' e
        cases z
        obtain ⟨v, h2, q⟩ := r0.val j d e
        exact ⟨v, h2, Rep.keep kp0 q⟩
      · cases z
    · obtain ⟨v, h2, q⟩ := r.val j d z
      exact ⟨v, by rw [← sg h0]; exact h2, Rep.keep kp q⟩
  · obtain ⟨h0, z⟩ := noown h
    obtain ⟨a, h2, na, c⟩ := r.own j d z
    exact ⟨a, by rw [← sg h0]; exact h2, na, c.keep kp fun _ z => z⟩
  · obtain ⟨na, c⟩ := r.cell m xs e
    exact ⟨na, c.keep kp fun _ z => z⟩
  · obtain ⟨o1, l1⟩ := noown h1
    obtain ⟨o2, l2⟩ := noown h2
    exact r.oo j k d e a l1 l2 (by rw [sg o1]; exact h3) (by rw [sg o2]; exact h4)
  · obtain ⟨o1, l1⟩ := noown h1
    exact r.oc j d m xs l1 h2 (by rw [sg o1]; exact h3)
/-- a list that the state avoids is changed -/
theorem Keep.updA {p : Addr} {o : HO} (r : Rel K A ρ σ H st) (hp : A p) : Keep ρ st.S.length (Ch A ρ σ st) H ρ st.S.length (Ch A ρ σ st) (L2.upd H p o) := Keep.upd r (.inl hp) rfl fun _ z => z
theorem Rel.updA (r : Rel K A ρ σ H st) {p : Addr} {ws : List V} (hp : A p) : Rel K A ρ σ (upd H p (.lst ws)) st where
  len := r.len
  val := fun i d e => by
    obtain ⟨v, e1, q⟩ := r.val i d e
    exact ⟨v, e1, Rep.keep (Keep.updA r hp) q⟩
  own := fun i d e => by
    obtain ⟨a, e1, na, c⟩ := r.own i d e
    exact ⟨a, e1, na, c.keep (Keep.updA r hp) fun o z => by rw [upd_ne (fun y => na (by rw [y]; exact hp))]; exact z⟩
  cell := fun m xs e => by
    obtain ⟨na, c⟩ := r.cell m xs e
    exact ⟨na, c.keep (Keep.updA r hp) fun o z => by rw [upd_ne (fun y => na (by rw [y]; exact hp))]; exact z⟩
  tr := fun a ha => by
    by_cases e : a = p
    · rw [e]; exact ⟨_, upd_same, imm_lst⟩
    · obtain ⟨o, e1, q⟩ := r.tr a ha
      exact ⟨o, by rw [upd_ne e]; exact e1, q⟩
  oo := r.oo
  cc := r.cc
  oc := r.oc
  ob := r.ob
theorem Rel.σlen (r : Rel K A ρ σ H st) (r' : Rel K B ρ' σ' H' st') (h : st'.env.length = st.env.length) : σ'.length = σ.length := by rw [← r.len, ← r'.len, h]
theorem slots_wiped {gd : Gd} {own : List Nat} (h : gdB gd (st.wiped own) = true) : SlotsAt gd σ (wipe σ own) := fun p hp i e => by
  have h := List.all_eq_true.mp h p hp
  rw [wipe_get]
  by_cases z : i ∈ own
  · have : look p.1 (st.wiped own) = none := by
      rw [e]
      show look (.slot i) (st.wiped own) = none
      have e1 : (st.wiped own).env[i]? = if i < st.env.length then some .no else none := by
        show (wipeE st.env own)[i]? = _
        rw [wipeE_get, if_pos z]
      unfold look
      simp only [e1]
      split <;> simp_all
    rw [this] at h; cases h
  · rw [if_neg z]
theorem tLc_ok {fi : Sta → Out (List D × Gd)} {tg : D → Sta → Out Unit} {c : Sta → Out Bool} {e : Sta → Out D} {own W : List Nat} (hW : ∀ i ∈ W, i ∈ own) (hlen : ∀ d st s1, tg d st = .ok () s1 → s1.env.length = st.env.length) :
    ∀ σ H Q, tF K (fun st => (fi st).bind fun ds s1 => (compL ds.2 tg c e own ds.1 [] s1).bind fun xs s2 => vO (.lst xs) { s2 with env := unwipe s1.env s2.env own }) σ H Q → tLc (tI K fi) (tG K W tg) (tBo K c) (tD K e) own σ H Q := by
  rintro σ H Q ⟨A, ρ, st, x, s1, r, ef, q⟩
  obtain ⟨⟨ds, gd⟩, s0, e1, ef⟩ := Out.bind_ok ef
  obtain ⟨xs, s2, e2, ef⟩ := Out.bind_ok ef
  cases ef
  refine ⟨A, ρ, st, (ds, gd), s0, r, e1, fun ρ1 J H1 f1 r1 hy D hD => ?_⟩
  have hB : ∀ a, And1 A D a → A a ∨ H1 a = none := fun a z => z.elim .inl fun z => by rw [z]; exact .inr hD
  have nD : ∀ a o, H1 a = some o → a ≠ D := fun a o z y => by rw [y, hD] at z; cases z
  refine ⟨fun i m H2 => ∃ ρ2 st2 acc vacc, m = ds.length - i ∧ i ≤ ds.length ∧ Fr A ρ1 σ H1 s0 ρ2 (wipe σ own) H2 (st2.wiped own) ∧ Rel K (And1 A D) ρ2 (wipe σ own) H2 (st2.wiped own) ∧ H2 D = some (.lst vacc) ∧
    Reps K ρ2 st2.S.length (Ch (And1 A D) ρ2 (wipe σ own) (st2.wiped own)) H2 acc vacc ∧ compL gd tg c e own (ds.drop i) acc st2 = .ok xs s2, ⟨ds.length, ρ1, s0, [], [], by simp, Nat.zero_le _, ?_, ?_, upd_same, rfl, e2⟩, ?_⟩
  · have fw := (r1.wiped own).1
    exact ⟨fw.rho, fw.sz, fun a o z _ _ => by rw [upd_ne (nD a o z)]; exact z, fun a z => by
      by_cases y : a = D
      · rw [y]; exact hD
      · rw [upd_ne y] at z; exact z, fw.live, fw.own, fw.busy⟩
  · exact (r1.wiped own).2.new hD imm_lst
  · rintro i m H2 ⟨ρ2, st2, acc, vacc, rfl, hi, f2, r2, hD2, hacc, hc⟩
    by_cases hlt : i < ds.length
    · have hd : ds[i]? = some ds[i] := List.getElem?_eq_getElem hlt
      rw [List.drop_eq_getElem_cons hlt] at hc
      have hc' : (if gdB gd (st2.wiped own) then (tg ds[i] (st2.wiped own)).bind (fun _ s1 => (c s1).bind fun k s2 => if k then (e s2).bind fun x s3 => (if acc.length < 1000000 then compL gd tg c e own (ds.drop (i + 1)) (acc ++ [x]) s3 else .bad) else compL gd tg c e own (ds.drop (i + 1)) acc s2) else .bad) = .ok xs s2 := hc
      by_cases hgd : gdB gd (st2.wiped own) = true
      case neg => rw [if_neg hgd] at hc'; cases hc'
      rw [if_pos hgd] at hc'
      obtain ⟨_, s3, t1, hc'⟩ := Out.bind_ok hc'
      obtain ⟨k, s4, t2, hc'⟩ := Out.bind_ok hc'
      obtain ⟨go, yl⟩ := (hy (And1 A D) i ρ2 (wipe σ own) H2 (st2.wiped own) f2 r2 hB hgd (slots_wiped hgd)).1 _ hd
      refine .inr ⟨go, fun H' => ∃ ρ2 st2 acc vacc, i + 1 ≤ ds.length ∧ Fr A ρ1 σ H1 s0 ρ2 (wipe σ own) H' (st2.wiped own) ∧ Rel K (And1 A D) ρ2 (wipe σ own) H' (st2.wiped own) ∧ H' D = some (.lst vacc) ∧
        Reps K ρ2 st2.S.length (Ch (And1 A D) ρ2 (wipe σ own) (st2.wiped own)) H' acc vacc ∧ compL gd tg c e own (ds.drop (i + 1)) acc st2 = .ok xs s2, fun H' ⟨ρ3, st3, acc3, vacc3, h⟩ => ⟨ds.length - (i + 1), by omega, ρ3, st3, acc3, vacc3, rfl, h⟩, fun x H3 hx => ?_⟩
      obtain ⟨fy, ry, py⟩ := yl x H3 hx
      refine ⟨And1 A D, ρ2, st2.wiped own, ds[i], s3, ry, py, t1, fun ρ4 σ4 H4 hs4 f4 r4 => ?_⟩
      have hl4 : σ4.length = (wipe σ own).length := ry.σlen r4 (hlen _ _ _ t1)
      have hw4 : wipe σ4 own = wipe σ own := by
        rw [wipe_stored hs4 hW hl4]
        refine List.ext_getElem? fun j => ?_
        rw [wipe_get, wipe_get, wipe_length]
        by_cases z : j ∈ own
        · simp [z]
        · simp [z]
      refine ⟨hw4, And1 A D, ρ4, s3, k, s4, r4, t2, fun ρ5 H5 f5 r5 => ?_⟩
      -- what stands behind the turn's tests and element
      have fall : ∀ {ρ6 : Nat → Addr} {H6 : Hp} {s6 : Sta}, Fr (And1 A D) ρ4 σ4 H4 s3 ρ6 σ4 H6 s6 → Rel K (And1 A D) ρ6 σ4 H6 s6 → Fr A ρ1 σ H1 s0 ρ6 (wipe σ own) H6 (s6.wiped own) ∧ Rel K (And1 A D) ρ6 (wipe σ own) H6 (s6.wiped own) ∧ Fr (And1 A D) ρ2 (wipe σ own) H2 (st2.wiped own) ρ6 (wipe σ own) H6 (s6.wiped own) := fun {ρ6 H6 s6} f6 r6 => by
        have fw := r6.wiped own
        rw [hw4] at fw
        have g1 : Fr (And1 A D) ρ2 (wipe σ own) H2 (st2.wiped own) ρ6 (wipe σ own) H6 (s6.wiped own) := ((fy.trans f4).trans f6).trans fw.1
        have g2 : Fr A ρ2 (wipe σ own) H2 (st2.wiped own) ρ6 (wipe σ own) H6 (s6.wiped own) := ⟨g1.rho, g1.sz, g1.at_, g1.free, g1.live, g1.own, g1.busy⟩
        exact ⟨f2.trans g2, fw.2, g1⟩
      have keepD : ∀ {ρ6 : Nat → Addr} {H6 : Hp} {s6 : Sta}, Fr (And1 A D) ρ2 (wipe σ own) H2 (st2.wiped own) ρ6 (wipe σ own) H6 (s6.wiped own) → H6 D = some (.lst vacc) := fun {ρ6 H6 s6} g => by
        refine g.at_ D _ hD2 (fun ⟨m, zs, z1, z2⟩ => (r2.cell m zs z1).1 (.inr z2)) fun ⟨j, d', z1, z2⟩ => ?_
        obtain ⟨b, z3, nb, _⟩ := r2.own j d' z1
        rw [z2] at z3; cases z3
        exact nb (.inr rfl)
      cases k with
      | false =>
        simp only [Bool.false_eq_true, if_false] at hc' ⊢
        obtain ⟨g1, g2, g3⟩ := fall f5 r5
        exact ⟨ρ5, s4, acc, vacc, hlt, g1, g2, keepD g3, r2.reps g3 hacc, hc'⟩
      | true =>
        simp only [if_true] at hc' ⊢
        obtain ⟨z, s5, t3, hc'⟩ := Out.bind_ok hc'
        split at hc'
        · rename_i hsz
          refine ⟨And1 A D, ρ5, s4, z, s5, r5, t3, fun ρ6 y H6 f6 r6 hz => ?_⟩
          obtain ⟨g1, g2, g3⟩ := fall (f5.trans f6) r6
          have hD6 := keepD g3
          refine ⟨vacc, hD6, by rw [hacc.length]; exact Nat.lt_of_lt_of_le hsz line6, ρ6, s5, acc ++ [z], vacc ++ [y], hlt, ?_, g2.updA (.inr rfl), upd_same, ?_, hc'⟩
          · exact ⟨g1.rho, g1.sz, fun a o z h1 h2 => by rw [upd_ne (nD a o z)]; exact g1.at_ a o z h1 h2, fun a z => by
              by_cases y : a = D
              · rw [y]; exact hD
              · rw [upd_ne y] at z; exact g1.free a z, g1.live, g1.own, g1.busy⟩
          · have kw : Keep ρ6 s5.S.length (Ch (And1 A D) ρ6 σ4 s5) H6 ρ6 s5.S.length (Ch (And1 A D) ρ6 (wipe σ own) (s5.wiped own)) H6 := by
              have := r6.keep (r6.wiped own).1
              rw [hw4] at this
              exact this
            exact Reps.keep (Keep.updA g2 (.inr rfl)) (Reps.append (es := [z]) (ws := [y]) (r2.reps g3 hacc) ⟨y, [], rfl, Rep.keep kw hz, rfl⟩)
        · cases hc'
    · have ei : i = ds.length := by omega
      subst ei
      rw [List.drop_length] at hc
      have hc : (if gdB gd (st2.wiped own) then Out.ok acc st2 else .bad) = .ok xs s2 := hc
      by_cases hgd : gdB gd (st2.wiped own) = true
      case neg => rw [if_neg hgd] at hc; cases hc
      rw [if_pos hgd] at hc
      cases hc
      refine .inl ⟨(hy (And1 A D) _ ρ2 (wipe σ own) H2 _ f2 r2 hB hgd (slots_wiped hgd)).2 (Nat.le_refl _), ?_⟩
      obtain ⟨g1, g2, g3⟩ := r1.unwiped r2 f2 hB
      exact q ρ2 _ H2 (f1.trans g1) (.inl ⟨_, D, rfl, rfl, rfl, .inl (f1.free D hD), g2, Cont.lst.mpr ⟨vacc, hD2, Reps.keep (Keep.less g3 fun a z => r2.chH z) hacc⟩⟩)
end
end Gp

/-! Gp, part H: each construct by the layer's rule. -/
namespace Gp
open PySem L2

section
variable [Cfg] {X : Cx} {cl : CallF} {x y z : Expr} {pos : Pos}

theorem d_var {i : Nat} {n : Str} (hN : X.N[i]? = some n) (hv : Vis X.env.scope n) (h1 : (n == ("__debug__" : Str)) = false) (h2 : (n == ("__classdict__" : Str)) = false) : PE X (.Name n pos) (tT X.K (evT cl (.var i))) :=
  (pe_var hN hv h1 h2).imp fun σ H Q ⟨A, ρ, st, t, s1, r, ef, q⟩ => by
    unfold evT at ef
    cases e : st.env[i]? with
    | none => simp only [e] at ef; cases ef
    | some s =>
      cases s with
      | no => simp only [e] at ef; cases ef
      | busy => simp only [e] at ef; cases ef
      | val d =>
        simp only [e] at ef; cases ef
        obtain ⟨v, h, _⟩ := r.val i d e
        exact ⟨v, h, q ρ v H Fr.refl r h⟩
      | own d =>
        simp only [e] at ef; cases ef
        obtain ⟨a, h, _⟩ := r.own i d e
        exact ⟨_, h, q ρ _ H Fr.refl r h⟩
/-- the object of a slot goes to whoever asks -/
theorem Rel.given {K : PySem.W.Frag} {A : Addr → Prop} {ρ : Nat → Addr} {σ : L2.St} {H : Hp} {st : Sta} (r : Rel K A ρ σ H st) {i : Nat} {d : D} (e : st.env[i]? = some (Slot.own d)) :
    ∃ v, σ[i]? = some (some v) ∧ Fr A ρ σ H st ρ σ H { st with env := st.env.set i .no } ∧ Fresh K A σ H st (.v d) ρ v H { st with env := st.env.set i .no } := by
  obtain ⟨a, ha, na, c⟩ := r.own i d e
  have own : ∀ b, Own (st.env.set i .no) σ b → Own st.env σ b ∧ b ≠ a := fun b ⟨j, d', h1, h2⟩ => by
    rcases getElem?_set' h1 with ⟨_, z⟩ | ⟨ne, z⟩
    · cases z
    · exact ⟨⟨j, d', z, h2⟩, fun y => ne (r.oo j i _ _ a z e (by rw [← y]; exact h2) ha)⟩
  have hch : ∀ b, Ch (And1 A a) ρ σ { st with env := st.env.set i .no } b → Ch A ρ σ st b := fun b z => (Ch.and1.mp z).elim (fun z => z.elim (fun z => Or.inl z) fun z => z.elim (fun z => Or.inr (Or.inl z)) fun z => Or.inr (Or.inr (own b z).1)) fun z => by
    rw [z]; exact Or.inr (Or.inr ⟨i, _, e, ha⟩)
  have kp : Keep ρ st.S.length (Ch A ρ σ st) H ρ st.S.length (Ch (And1 A a) ρ σ { st with env := st.env.set i .no }) H := Keep.less hch fun a z => r.chH z
  have old : ∀ {j : Nat} {s : Slot}, (st.env.set i .no)[j]? = some s → s ≠ .no → j ≠ i ∧ st.env[j]? = some s := fun {j s} h hs => by
    rcases getElem?_set' h with ⟨_, z⟩ | z
    · exact absurd z hs
    · exact z
  refine ⟨_, ha, ⟨fun _ _ => rfl, Nat.le_refl _, fun a o e _ _ => e, fun _ e => e, fun a z => .inl z, fun b z => .inl (own b z).1, fun j z => ⟨(busy_set (fun z => by cases z) z).2, rfl⟩⟩, .inl ⟨d, a, rfl, r.ob i d e, rfl, .inr ⟨i, _, e, ha⟩, ⟨by simpa using r.len, fun j d h => ?_, fun j d h => ?_, fun m xs h => ?_, fun b hb => ?_, fun j k d e' b h1 h2 h3 h4 => ?_, r.cc, fun j d m xs h1 h2 => ?_, fun j d h => r.ob j d (old h (fun z => by cases z)).2⟩, c.keep kp fun _ z => z⟩⟩
  · obtain ⟨_, h1⟩ := old h (fun z => by cases z)
    obtain ⟨v, h2, q⟩ := r.val j d h1
    exact ⟨v, h2, Rep.keep kp q⟩
  · obtain ⟨hne, h1⟩ := old h (fun z => by cases z)
    obtain ⟨b, h2, nb, c⟩ := r.own j d h1
    exact ⟨b, h2, fun z => z.elim nb fun z => hne (r.oo j i _ _ a h1 e (by rw [← z]; exact h2) ha), c.keep kp fun _ z => z⟩
  · obtain ⟨nb, c⟩ := r.cell m xs h
    exact ⟨fun y => y.elim nb fun y => r.oc i _ m xs e h (by rw [y]; exact ha), c.keep kp fun _ z => z⟩
  · rcases hb with hb | hb
    · exact r.tr b hb
    · rw [hb]; exact c.at_
  · exact r.oo j k d e' b (old h1 (fun z => by cases z)).2 (old h2 (fun z => by cases z)).2 h3 h4
  · exact r.oc j d m xs (old h1 (fun z => by cases z)).2 h2
theorem d_mv {i : Nat} {n : Str} (hN : X.N[i]? = some n) (hv : Vis X.env.scope n) (h1 : (n == ("__debug__" : Str)) = false) (h2 : (n == ("__classdict__" : Str)) = false) : PE X (.Name n pos) (tF X.K (evT cl (.mv i))) :=
  (pe_var hN hv h1 h2).imp fun σ H Q ⟨A, ρ, st, t, s1, r, ef, q⟩ => by
    unfold evT at ef
    cases e : st.env[i]? with
    | none => simp only [e] at ef; cases ef
    | some s =>
      cases s with
      | own d =>
        simp only [e] at ef; cases ef
        obtain ⟨v, h, f, fx⟩ := r.given e
        exact ⟨v, h, q ρ v H f fx⟩
      | _ => simp only [e] at ef; cases ef
/-- a constant -/
theorem d_c {v : V} {d : D} (h : PE X x (tC v)) (hr : ∀ (K : PySem.W.Frag) (ρ : Nat → Addr) (n : Nat) (L : Addr → Prop) (H : Hp), Rep K ρ n L H d v) : PE X x (tT X.K (evT cl (.cst d))) :=
  h.imp fun σ H Q ⟨A, ρ, st, t, s1, r, ef, q⟩ => by
    cases ef
    exact q ρ v H Fr.refl r (hr _ _ _ _ _)

theorem two_ok {a b : Sta → Out T} {f : D → D → Option D} {st s2 : Sta} {t : T} (h : two a b f st = .ok t s2) : ∃ u s1 w d e z, a st = .ok u s1 ∧ b s1 = .ok w s2 ∧ look u s2 = some d ∧ look w s2 = some e ∧ f d e = some z ∧ t = .v z := by
  unfold two at h
  obtain ⟨u, s1, e1, h⟩ := Out.bind_ok h
  obtain ⟨w, s3, e2, h⟩ := Out.bind_ok h
  split at h
  · rename_i d e hd he
    unfold vF at h
    split at h
    · rename_i z hz
      cases h
      exact ⟨u, s1, w, d, e, z, e1, e2, hd, he, hz, rfl⟩
    · cases h
  · cases h
/-- two operands, and a new value -/
theorem tOp_F {a b : Sta → Out T} {f : D → D → Option D} {σ : L2.St} {H : Hp} {Q : VK} (h : tF X.K (fun st => two a b f st) σ H Q) : tOp (rOf X.K f) (tT X.K a) (tT X.K b) σ H Q := by
  obtain ⟨A, ρ, st, t, s2, r, ef, q⟩ := h
  obtain ⟨u, s1, w, d, e, z, e1, e2, hd, he, hz, rfl⟩ := two_ok ef
  refine ⟨A, ρ, st, u, s1, r, e1, fun ρ1 v H1 f1 r1 hv => ?_⟩
  refine ⟨A, ρ1, s1, w, s2, r1, e2, fun ρ2 v2 H2 f2 r2 hv2 => ?_⟩
  exact ⟨A, ρ2, σ, s2, d, e, z, r2, r2.look (r1.repT f2 hv) hd, r2.look hv2 he, hz, fun w' H' f3 fx => q ρ2 w' H' ((f1.trans f2).trans f3) (fx.back (f1.trans f2))⟩
theorem tOp_V {a b : Sta → Out T} {f : D → D → Option D} {σ : L2.St} {H : Hp} {Q : VK} (h : tT X.K (fun st => two a b f st) σ H Q) : tOp (rOfV X.K f) (tT X.K a) (tT X.K b) σ H Q := by
  obtain ⟨A, ρ, st, t, s2, r, ef, q⟩ := h
  obtain ⟨u, s1, w, d, e, z, e1, e2, hd, he, hz, rfl⟩ := two_ok ef
  refine ⟨A, ρ, st, u, s1, r, e1, fun ρ1 v H1 f1 r1 hv => ?_⟩
  refine ⟨A, ρ1, s1, w, s2, r1, e2, fun ρ2 v2 H2 f2 r2 hv2 => ?_⟩
  exact ⟨A, ρ2, σ, s2, d, e, z, r2, r2.look (r1.repT f2 hv) hd, r2.look hv2 he, hz, fun w' hw => q ρ2 w' H2 (f1.trans f2) r2 hw⟩
theorem d_bin {op : BOp} {a b : E} (ha : PE X x (tT X.K (evT cl a))) (hb : PE X y (tT X.K (evT cl b))) : PE X (.BinOp x op.py y pos) (tF X.K (evT cl (.bin op a b))) :=
  (pe_op (bin_ok op) ha hb).imp fun σ H Q h => tOp_F (a := evT cl a) (b := evT cl b) (f := binF op) h
theorem d_cmp (hu : X.A.units + 66 < cLine) {op : COp} {a b : E} (ha : PE X x (tT X.K (evT cl a))) (hb : PE X y (tT X.K (evT cl b))) (hm : behindInMarks op.py y = false) : PE X (.Compare x [op.py] [y] pos) (tF X.K (evT cl (.cmp op a b))) :=
  (pe_cmpR (cmp_ok hu op) ha hb hm).imp fun σ H Q h => tOp_F (a := evT cl a) (b := evT cl b) (f := cmpF op) h
theorem d_sub (hu : X.A.units + 1 < cLine) {a b : E} (ha : PE X x (tT X.K (evT cl a))) (hb : PE X y (tT X.K (evT cl b))) (hs : PlainIx y) : PE X (.Subscript x y pos) (tT X.K (evT cl (.sub a b))) :=
  (pe_ix (item_ok hu) ha hb hs).imp fun σ H Q h => tOp_V (a := evT cl a) (b := evT cl b) (f := itemF) h

/-! ### one value -/
theorem intO_ok {o : Out D} {i : Int} {s1 : Sta} (h : intO o = .ok i s1) : o = .ok (.int i) s1 := by
  unfold intO at h
  obtain ⟨x, s, e, h⟩ := Out.bind_ok h
  split at h
  · cases h; exact e
  · cases h
def tInt (K : PySem.W.Frag) (f : Sta → Out Int) : St → Hp → (Int → Hp → Prop) → Prop := fun σ H Q => ∃ A ρ st i s1, Rel K A ρ σ H st ∧ f st = .ok i s1 ∧ ∀ ρ' H', Fr A ρ σ H st ρ' σ H' s1 → Rel K A ρ' σ H' s1 → Q i H'
theorem d_neg {a : E} (ha : PE X x (tT X.K (evT cl a))) : PE X (.UnaryOp .USub x pos) (tT X.K (evT cl (.neg a))) :=
  (pe_un un_neg (pe_lk ha)).imp fun σ H Q ⟨A, ρ, st, t, s1, r, ef, q⟩ => by
    obtain ⟨i, s2, e1, ef⟩ := Out.bind_ok (show (intO (lk (evT cl a st))).bind _ = _ from ef)
    cases ef
    exact ⟨A, ρ, st, .int i, s1, r, intO_ok e1, fun ρ' v H' f r' hv => ⟨i, hv, q ρ' _ H' f r' (show V.int _ = V.int _ from rfl)⟩⟩
theorem bl_of {K : PySem.W.Frag} {ρ : Nat → Addr} {n : Nat} {L : Addr → Prop} {H : Hp} {k : Bool} {v : V} (h : Rep K ρ n L H (.bl k) v) : v = .bl k := h
theorem d_and {a b : E} {rest : List Expr} (ha : PE X x (tT X.K (evT cl a))) (hb : PE X (.BoolOp .And (y :: rest) pos) (tT X.K (evT cl b))) : PE X (.BoolOp .And (x :: y :: rest) pos) (tT X.K (evT cl (.and a b))) :=
  (pe_and (pe_lk ha) (pe_lk hb)).imp fun σ H Q ⟨A, ρ, st, t, s2, r, ef, q⟩ => by
    obtain ⟨d, s1, e1, ef⟩ := Out.bind_ok (show (lk (evT cl a st)).bind _ = _ from ef)
    refine ⟨A, ρ, st, d, s1, r, e1, fun ρ1 v H1 f1 r1 hv => ?_⟩
    split at ef
    · refine ⟨true, hv, ?_⟩
      rw [if_pos rfl]
      obtain ⟨d2, s3, e2, ef⟩ := Out.bind_ok ef
      cases ef
      exact ⟨A, ρ1, s1, d2, s2, r1, e2, fun ρ2 v2 H2 f2 r2 hv2 => q ρ2 v2 H2 (f1.trans f2) r2 hv2⟩
    · cases ef
      refine ⟨false, hv, ?_⟩
      rw [if_neg Bool.false_ne_true]
      exact q ρ1 _ H1 f1 r1 (show V.bl _ = V.bl _ from rfl)
    · cases ef
theorem d_or {a b : E} {rest : List Expr} (ha : PE X x (tT X.K (evT cl a))) (hb : PE X (.BoolOp .Or (y :: rest) pos) (tT X.K (evT cl b))) : PE X (.BoolOp .Or (x :: y :: rest) pos) (tT X.K (evT cl (.or a b))) :=
  (pe_or (pe_lk ha) (pe_lk hb)).imp fun σ H Q ⟨A, ρ, st, t, s2, r, ef, q⟩ => by
    obtain ⟨d, s1, e1, ef⟩ := Out.bind_ok (show (lk (evT cl a st)).bind _ = _ from ef)
    refine ⟨A, ρ, st, d, s1, r, e1, fun ρ1 v H1 f1 r1 hv => ?_⟩
    split at ef
    · refine ⟨false, hv, ?_⟩
      rw [if_neg Bool.false_ne_true]
      obtain ⟨d2, s3, e2, ef⟩ := Out.bind_ok ef
      cases ef
      exact ⟨A, ρ1, s1, d2, s2, r1, e2, fun ρ2 v2 H2 f2 r2 hv2 => q ρ2 v2 H2 (f1.trans f2) r2 hv2⟩
    · cases ef
      refine ⟨true, hv, ?_⟩
      rw [if_pos rfl]
      exact q ρ1 _ H1 f1 r1 (show V.bl _ = V.bl _ from rfl)
    · cases ef
theorem d_one {op : BoolOp} {a : E} (ha : PE X x (tT X.K (evT cl a))) : PE X (.BoolOp op [x] pos) (tT X.K (evT cl a)) := pe_one ha
theorem d_not {a : E} (ha : PE X x (tT X.K (evT cl a))) : PE X (.UnaryOp .Not x pos) (tT X.K (evT cl (.not a))) :=
  (pe_not (pe_lk ha)).imp fun σ H Q ⟨A, ρ, st, t, s2, r, ef, q⟩ => by
    obtain ⟨d, s1, e1, ef⟩ := Out.bind_ok (show (lk (evT cl a st)).bind _ = _ from ef)
    refine ⟨A, ρ, st, d, s1, r, e1, fun ρ1 v H1 f1 r1 hv => ?_⟩
    split at ef
    · cases ef
      exact ⟨_, hv, q ρ1 _ H1 f1 r1 (show V.bl _ = V.bl _ from rfl)⟩
    · cases ef
theorem d_ife {c : C} {a b : E} (hc : PT X z (tBo X.K (evB cl c))) (ha : PE X x (tT X.K (evT cl a))) (hb : PE X y (tT X.K (evT cl b))) : PE X (.IfExp z x y pos) (tT X.K (evT cl (.ife c a b))) :=
  (pe_ifExp hc (pe_lk ha) (pe_lk hb)).imp fun σ H Q ⟨A, ρ, st, t, s2, r, ef, q⟩ => by
    obtain ⟨k, s1, e1, ef⟩ := Out.bind_ok (show (evB cl c st).bind _ = _ from ef)
    refine ⟨A, ρ, st, k, s1, r, e1, fun ρ1 H1 f1 r1 => ?_⟩
    cases k with
    | true =>
      simp only [if_true] at ef ⊢
      obtain ⟨d2, s3, e2, ef⟩ := Out.bind_ok ef
      cases ef
      exact ⟨A, ρ1, s1, d2, s2, r1, e2, fun ρ2 v2 H2 f2 r2 hv2 => q ρ2 v2 H2 (f1.trans f2) r2 hv2⟩
    | false =>
      simp only [Bool.false_eq_true, if_false] at ef ⊢
      obtain ⟨d2, s3, e2, ef⟩ := Out.bind_ok ef
      cases ef
      exact ⟨A, ρ1, s1, d2, s2, r1, e2, fun ρ2 v2 H2 f2 r2 hv2 => q ρ2 v2 H2 (f1.trans f2) r2 hv2⟩

/-! ### argument lists, displays -/
theorem d_nil : PA X [] (tDs X.K (evEs cl [])) := pa_nil.imp fun σ H Q ⟨A, ρ, st, t, s2, r, ef, q⟩ => by
  cases ef
  exact q ρ [] H Fr.refl r rfl
theorem d_cons {e : E} {es : List E} {xs : List Expr} (ha : PE X x (tT X.K (evT cl e))) (hb : PA X xs (tDs X.K (evEs cl es))) (hs : starEach (x :: xs) X.env = (false, eval x X.env) :: starEach xs X.env) : PA X (x :: xs) (tDs X.K (evEs cl (e :: es))) :=
  (pa_cons (pe_lk ha) hb hs).imp fun σ H Q ⟨A, ρ, st, t, s2, r, ef, q⟩ => by
    obtain ⟨d, s1, e1, ef⟩ := Out.bind_ok (show (lk (evT cl e st)).bind _ = _ from ef)
    obtain ⟨ds, s3, e2, ef⟩ := Out.bind_ok ef
    cases ef
    refine ⟨A, ρ, st, d, s1, r, e1, fun ρ1 v H1 f1 r1 hv => ⟨A, ρ1, s1, ds, s2, r1, e2, fun ρ2 vs H2 f2 r2 hvs => ?_⟩⟩
    exact q ρ2 _ H2 (f1.trans f2) r2 ⟨v, vs, rfl, r1.rep f2 hv, hvs⟩
theorem d_tnil : PA X [] (tTs X.K (evTs cl [])) := pa_nil.imp fun σ H Q ⟨A, ρ, st, t, s2, r, ef, q⟩ => by
  cases ef
  exact q ρ [] H Fr.refl r rfl
theorem d_tcons {e : E} {es : List E} {xs : List Expr} (ha : PE X x (tT X.K (evT cl e))) (hb : PA X xs (tTs X.K (evTs cl es))) (hs : starEach (x :: xs) X.env = (false, eval x X.env) :: starEach xs X.env) : PA X (x :: xs) (tTs X.K (evTs cl (e :: es))) :=
  (pa_cons ha hb hs).imp fun σ H Q ⟨A, ρ, st, t, s2, r, ef, q⟩ => by
    obtain ⟨d, s1, e1, ef⟩ := Out.bind_ok (show (evT cl e st).bind _ = _ from ef)
    obtain ⟨ds, s3, e2, ef⟩ := Out.bind_ok ef
    cases ef
    refine ⟨A, ρ, st, d, s1, r, e1, fun ρ1 v H1 f1 r1 hv => ⟨A, ρ1, s1, ds, s2, r1, e2, fun ρ2 vs H2 f2 r2 hvs => ?_⟩⟩
    exact q ρ2 _ H2 (f1.trans f2) r2 ⟨v, vs, rfl, r1.repT f2 hv, hvs⟩
theorem d_tup {es : List E} {xs : List Expr} {k : Nat} (ha : PA X xs (tDs X.K (evEs cl es))) : PE X (.Tuple xs k pos) (tT X.K (evT cl (.tup es))) :=
  (pe_tup ha).imp fun σ H Q ⟨A, ρ, st, t, s2, r, ef, q⟩ => by
    obtain ⟨ds, s1, e1, ef⟩ := Out.bind_ok (show (evEs cl es st).bind _ = _ from ef)
    split at ef
    · rename_i hl
      cases ef
      refine ⟨A, ρ, st, ds, s2, r, e1, fun ρ1 vs H1 f1 r1 hv => ⟨by rw [hv.length]; exact Nat.le_trans hl line6, fun p hp => ?_⟩⟩
      exact q ρ1 _ _ (f1.trans (Fr.laid hp)) (r1.laid hp) ⟨p, vs, rfl, upd_same, r1.reps (Fr.laid hp) hv⟩
    · cases ef
theorem d_lst {es : List E} {xs : List Expr} (ha : PA X xs (tDs X.K (evEs cl es))) : PE X (.List xs pos) (tF X.K (evT cl (.lst es))) :=
  (pe_lst ha).imp fun σ H Q ⟨A, ρ, st, t, s2, r, ef, q⟩ => by
    obtain ⟨ds, s1, e1, ef⟩ := Out.bind_ok (show (evEs cl es st).bind _ = _ from ef)
    split at ef
    · rename_i hl
      cases ef
      refine ⟨A, ρ, st, ds, s2, r, e1, fun ρ1 vs H1 f1 r1 hv => ⟨by rw [hv.length]; exact Nat.le_trans hl line6, fun p hp => ?_⟩⟩
      exact q ρ1 _ _ (f1.trans (Fr.laid hp)) ((Fresh.new r1 hp hv).back f1)
    · cases ef
theorem d_rep {es : List E} {k : E} {xs : List Expr} {pl : Pos} (ha : PA X xs (tDs X.K (evEs cl es))) (hk : PE X y (tT X.K (evT cl k))) : PE X (.BinOp (.List xs pl) .Mult y pos) (tF X.K (evT cl (.rep es k))) :=
  (pe_op op_rep (pe_lst ha) (pe_lk hk)).imp fun σ H Q ⟨A, ρ, st, t, s2, r, ef, q⟩ => by
    obtain ⟨ds, s1, e1, ef⟩ := Out.bind_ok (show (evEs cl es st).bind _ = _ from ef)
    obtain ⟨i, s3, e2, ef⟩ := Out.bind_ok ef
    have e2 := intO_ok e2
    split at ef
    · rename_i hl
      unfold vF at ef
      split at ef
      · rename_i z hz
        cases ef
        unfold repF at hz
        obtain ⟨⟨k1, k2, k3⟩, rfl⟩ := ite_some hz
        refine ⟨A, ρ, st, ds, s1, r, e1, fun ρ1 vs H1 f1 r1 hv => ⟨by rw [hv.length]; exact Nat.le_trans hl line6, fun p hp => ?_⟩⟩
        have rn := r1.new (o := .lst vs) hp imm_lst
        refine ⟨And1 A p, ρ1, s1, .int i, s2, rn, e2, fun ρ2 w H2 f2 r2 hw => ?_⟩
        have hp2 : H2 p = some (.lst vs) := f2.at_ p _ upd_same (fun ⟨m, xs, h1, h2⟩ => (rn.cell m xs h1).1 (.inr h2)) fun ⟨j, d, h1, h2⟩ => by
          obtain ⟨b, h3, nb, _⟩ := rn.own j d h1
          rw [h2] at h3; cases h3
          exact nb (.inr rfl)
        refine ⟨p, i, vs, rfl, hw, hp2, k1, k2, by rw [hv.length]; exact Nat.le_trans k3 line6, fun p2 hp3 => ?_⟩
        have r2' : Rel X.K A ρ2 σ H2 s2 := r2.weak fun a z => .inl z
        have hv2 : Reps X.K ρ2 s2.S.length (Ch A ρ2 σ s2) H2 ds vs := Reps.keep (Keep.less (fun a z => Ch.mono (fun a z => .inl z) z) fun a z => r2.chH z) (rn.reps f2 (Reps.keep (Keep.new r1 hp) hv))
        have f2' : Fr A ρ1 σ (upd H1 p (.lst vs)) s1 ρ2 σ H2 s2 := ⟨f2.rho, f2.sz, f2.at_, f2.free, f2.live, f2.own, f2.busy⟩
        exact q ρ2 _ _ (((f1.trans (Fr.laid hp)).trans f2').trans (Fr.laid hp3)) ((Fresh.new r2' hp3 (hv2.flat _)).back ((f1.trans (Fr.laid hp)).trans f2'))
      · cases ef
    · cases ef
end
end Gp

/-! Gp, part I: each construct by the layer's rule, further. -/
namespace Gp
open PySem L2

section
variable [Cfg] {X : Cx} {cl : CallF} {x y z : Expr} {pos : Pos}

theorem chain_imp {o1 o2 : COp} {a b c : E} {σ : L2.St} {H : Hp} {Q : VK} (h : tT X.K (evT cl (.chain o1 o2 a b c)) σ H Q) : tChain (rOf X.K (cmpF o1)) (rOf X.K (cmpF o2)) (tD X.K fun st => lk (evT cl a st)) (tD X.K fun st => lk (evT cl b st)) (tD X.K fun st => lk (evT cl c st)) σ H Q := by
    obtain ⟨A, ρ, st, t, s3, r, ef, q⟩ := h
    obtain ⟨d, s1, e1, ef⟩ := Out.bind_ok (show (lk (evT cl a st)).bind _ = _ from ef)
    obtain ⟨e, s2, e2, ef⟩ := Out.bind_ok ef
    refine ⟨A, ρ, st, d, s1, r, e1, fun ρ1 v H1 f1 r1 hv => ⟨A, ρ1, s1, e, s2, r1, e2, fun ρ2 w H2 f2 r2 hw => ?_⟩⟩
    have hv2 := r1.rep f2 hv
    split at ef
    · rename_i hk
      refine ⟨A, ρ2, σ, s2, d, e, _, r2, hv2.seen, hw.seen, hk, fun u H3 f3 fx => ?_⟩
      obtain ⟨r3, hu3⟩ := fx.rep r2
      refine ⟨true, hu3, ?_⟩
      rw [if_pos rfl]
      obtain ⟨g, s4, e3, ef⟩ := Out.bind_ok ef
      unfold vF at ef
      split at ef
      · rename_i zz hzz
        cases ef
        refine ⟨A, ρ2, s2, g, s3, r3, e3, fun ρ4 w4 H4 f4 r4 hg => ?_⟩
        refine ⟨A, ρ4, σ, s3, e, g, zz, r4, (r3.rep f4 (r2.rep f3 hw)).seen, hg.seen, hzz, fun u5 H5 f5 fx5 => ?_⟩
        obtain ⟨r5, hu5⟩ := fx5.rep r4
        exact q ρ4 u5 H5 ((((f1.trans f2).trans f3).trans f4).trans f5) r5 hu5
      · cases ef
    · rename_i hk
      cases ef
      refine ⟨A, ρ2, σ, _, d, e, _, r2, hv2.seen, hw.seen, hk, fun u H3 f3 fx => ?_⟩
      obtain ⟨r3, hu3⟩ := fx.rep r2
      have hu4 : u = V.bl false := hu3
      subst hu4
      refine ⟨false, rfl, ?_⟩
      rw [if_neg Bool.false_ne_true]
      exact q ρ2 _ H3 ((f1.trans f2).trans f3) r3 (show V.bl _ = V.bl _ from rfl)
    · cases ef
theorem cmpF_bl {op : COp} {d e z : D} (hz : cmpF op d e = some z) : ∃ k, z = .bl k := by
  cases op
  case eq => obtain ⟨_, rfl⟩ := ite_some hz; exact ⟨_, rfl⟩
  case ne => obtain ⟨_, rfl⟩ := ite_some hz; exact ⟨_, rfl⟩
  case isn => obtain ⟨kk, _, rfl⟩ := omap_some (show (isF d e).map _ = some z from hz); exact ⟨_, rfl⟩
  case notn => obtain ⟨kk, _, rfl⟩ := omap_some (show (isF d e).map _ = some z from hz); exact ⟨_, rfl⟩
  case inn => obtain ⟨kk, _, rfl⟩ := omap_some (show (inF d e).map _ = some z from hz); exact ⟨_, rfl⟩
  case notin => obtain ⟨kk, _, rfl⟩ := omap_some (show (inF d e).map _ = some z from hz); exact ⟨_, rfl⟩
  all_goals (
    unfold cmpF at hz
    simp only at hz
    split at hz
    · obtain ⟨kk, _, rfl⟩ := omap_some hz; exact ⟨kk, rfl⟩
    · cases hz)
theorem d_chain (hu : X.A.units + 66 < cLine) {o1 o2 : COp} {a b c : E} (ha : PE X x (tT X.K (evT cl a))) (hb : PE X y (tT X.K (evT cl b))) (hc : PE X z (tT X.K (evT cl c))) (hm : lastMarks [o1.py, o2.py] [y, z] = false) :
    PE X (.Compare x [o1.py, o2.py] [y, z] pos) (tT X.K (evT cl (.chain o1 o2 a b c))) :=
  (pe_chain (cmp_ok hu o1) (cmp_ok hu o2) (pe_lk ha) (pe_lk hb) (pe_lk hc) hm).imp fun σ H Q h => chain_imp h
/-! ### slices -/
def tPo (K : PySem.W.Frag) (f : Sta → Out (Option Int)) : TO := fun σ H Q => ∃ A ρ st i s1, Rel K A ρ σ H st ∧ f st = .ok i s1 ∧ ∀ ρ' H', Fr A ρ σ H st ρ' σ H' s1 → Rel K A ρ' σ H' s1 → Q i H'
theorem d_pnone : PO X none (tPo X.K (evP cl none)) := po_none.imp fun σ H Q ⟨A, ρ, st, i, s1, r, ef, q⟩ => by
  cases ef
  exact q ρ H Fr.refl r
theorem d_psome {a : E} (ha : PE X x (tT X.K (evT cl a))) : PO X (some x) (tPo X.K (evP cl (some a))) := (po_some (pe_lk ha)).imp fun σ H Q ⟨A, ρ, st, i, s1, r, ef, q⟩ => by
  obtain ⟨k, s2, e1, ef⟩ := Out.bind_ok (show (intO (lk (evT cl a st))).bind _ = _ from ef)
  cases ef
  exact ⟨A, ρ, st, .int k, s1, r, intO_ok e1, fun ρ' v H' f r' hv => ⟨k, hv, q ρ' H' f r'⟩⟩
theorem d_cut {a : E} {lo hi : Option E} {l h : Option Expr} {p2 : Pos} (ha : PE X x (tT X.K (evT cl a))) (hl : PO X l (tPo X.K (evP cl lo))) (hh : PO X h (tPo X.K (evP cl hi))) : PE X (.Subscript x (.Slice l h none p2) pos) (tF X.K (evT cl (.cut a lo hi))) :=
  (pe_slice cut_ok ha hl hh).imp fun σ H Q ⟨A, ρ, st, t, s4, r, ef, q⟩ => by
    obtain ⟨u, s1, e1, ef⟩ := Out.bind_ok (show (evT cl a st).bind _ = _ from ef)
    obtain ⟨i, s2, e2, ef⟩ := Out.bind_ok ef
    obtain ⟨j, s3, e3, ef⟩ := Out.bind_ok ef
    refine ⟨A, ρ, st, u, s1, r, e1, fun ρ1 v H1 f1 r1 hv => ⟨A, ρ1, s1, i, s2, r1, e2, fun ρ2 H2 f2 r2 => ⟨A, ρ2, s2, j, s3, r2, e3, fun ρ3 H3 f3 r3 => ?_⟩⟩⟩
    split at ef
    · rename_i d hd
      unfold vF at ef
      split at ef
      · rename_i zz hz
        cases ef
        exact ⟨A, ρ3, σ, s4, d, zz, r3, r3.look (r2.repT f3 (r1.repT f2 hv)) hd, hz, fun w H4 f4 fx => q ρ3 w H4 (((f1.trans f2).trans f3).trans f4) (fx.back ((f1.trans f2).trans f3))⟩
      · cases ef
    · cases ef
theorem d_back {a : E} {k : Nat} {p1 p2 p3 : Pos} (ha : PE X x (tT X.K (evT cl a))) : PE X (.Subscript x (.Slice none none (some (.UnaryOp .USub (.Constant (.int 1) k p1) p2)) p3) pos) (tF X.K (evT cl (.back a))) :=
  (pe_revL ha).imp fun σ H Q ⟨A, ρ, st, t, s4, r, ef, q⟩ => by
    obtain ⟨u, s1, e1, ef⟩ := Out.bind_ok (show (evT cl a st).bind _ = _ from ef)
    refine ⟨A, ρ, st, u, s1, r, e1, fun ρ1 v H1 f1 r1 hv => ?_⟩
    split at ef
    · rename_i ds hd
      cases ef
      obtain ⟨b, vs, rfl, h1, h2⟩ := (r1.look hv hd).lst
      exact ⟨b, vs, rfl, h1, fun p hp => q ρ1 _ _ (f1.trans (Fr.laid hp)) ((Fresh.new r1 hp h2.reverse).back f1)⟩
    · cases ef

/-! ### built-ins -/
theorem d_b1 (hc : X.calm = true) {b : B1} {a : E} {p : Pos} {r0 : List V → Hp → VK → Prop} (hcall : PA X [x] (tCons (tT X.K (evT cl a)) tNil) → PE X z (tCB (rOf1 X.K (b1F b)) (tCons (tT X.K (evT cl a)) tNil)))
    (ha : PE X x (tT X.K (evT cl a))) (hs : starEach [x] X.env = (false, eval x X.env) :: starEach [] X.env) : PE X z (tF X.K (evT cl (.b1 b a))) :=
  (hcall (pa_cons ha pa_nil hs)).imp fun σ H Q ⟨A, ρ, st, t, s4, r, ef, q⟩ => by
    obtain ⟨u, s1, e1, ef⟩ := Out.bind_ok (show (evT cl a st).bind _ = _ from ef)
    refine ⟨A, ρ, st, u, s1, r, e1, fun ρ1 v H1 f1 r1 hv => ?_⟩
    split at ef
    · rename_i d hd
      unfold vF at ef
      split at ef
      · rename_i zz hz
        cases ef
        exact ⟨A, ρ1, σ, s4, d, zz, v, rfl, r1, r1.look hv hd, hz, fun w H4 f4 fx => q ρ1 w H4 (f1.trans f4) (fx.back f1)⟩
      · cases ef
    · cases ef
theorem d_b2 {b : B2} {a c : E} (hcall : PA X [x, y] (tCons (tD X.K fun st => lk (evT cl a st)) (tCons (tD X.K fun st => lk (evT cl c st)) tNil)) → PE X z (tCB (rOf2 X.K (b2F b)) (tCons (tD X.K fun st => lk (evT cl a st)) (tCons (tD X.K fun st => lk (evT cl c st)) tNil))))
    (ha : PE X x (tT X.K (evT cl a))) (hb : PE X y (tT X.K (evT cl c))) (hs : starEach [x, y] X.env = (false, eval x X.env) :: starEach [y] X.env) (hs2 : starEach [y] X.env = (false, eval y X.env) :: starEach [] X.env) : PE X z (tF X.K (evT cl (.b2 b a c))) :=
  (hcall (pa_cons (pe_lk ha) (pa_cons (pe_lk hb) pa_nil hs2) hs)).imp fun σ H Q ⟨A, ρ, st, t, s4, r, ef, q⟩ => by
    obtain ⟨d, s1, e1, ef⟩ := Out.bind_ok (show (lk (evT cl a st)).bind _ = _ from ef)
    obtain ⟨e, s2, e2, ef⟩ := Out.bind_ok ef
    refine ⟨A, ρ, st, d, s1, r, e1, fun ρ1 v H1 f1 r1 hv => ⟨A, ρ1, s1, e, s2, r1, e2, fun ρ2 w H2 f2 r2 hw => ?_⟩⟩
    unfold vF at ef
    split at ef
    · rename_i zz hz
      cases ef
      exact ⟨A, ρ2, σ, s4, d, e, zz, v, w, rfl, r2, r1.rep f2 hv, hw, hz, fun u H4 f4 fx => q ρ2 u H4 ((f1.trans f2).trans f4) (fx.back (f1.trans f2))⟩
    · cases ef
theorem d_lrange {a b : E} (hcall : PE X z (tLstRg (tRg2 (tD X.K fun st => lk (evT cl a st)) (tD X.K fun st => lk (evT cl b st))))) : PE X z (tF X.K (evT cl (.lrange a b))) :=
  hcall.imp fun σ H Q ⟨A, ρ, st, t, s4, r, ef, q⟩ => by
    obtain ⟨i, s1, e1, ef⟩ := Out.bind_ok (show (intO (lk (evT cl a st))).bind _ = _ from ef)
    obtain ⟨j, s2, e2, ef⟩ := Out.bind_ok ef
    split at ef
    · rename_i hs
      obtain ⟨⟨a1, a2⟩, ⟨b1, b2⟩, h3⟩ := hs
      cases ef
      refine ⟨A, ρ, st, _, s1, r, intO_ok e1, fun ρ1 v H1 f1 r1 hv => ⟨A, ρ1, s1, _, s4, r1, intO_ok e2, fun ρ2 w H2 f2 r2 hw => ?_⟩⟩
      exact ⟨i, j, hv, hw, ⟨by omega, by omega, by omega, by omega, by omega⟩, fun p hp => q ρ2 _ _ ((f1.trans f2).trans (Fr.laid hp)) ((Fresh.new r2 hp (Reps.range i j)).back (f1.trans f2))⟩
    · cases ef
theorem d_isi {t : Ty} {a : E} (hcall : PE X z (tCB (fun xs H Q => ∃ A ρ σ st d k x, xs = [x, .ty t.py] ∧ Rel X.K A ρ σ H st ∧ Seen X.K ρ st.S.length (Ch A ρ σ st) H d x ∧ isiF t d = some k ∧ Q (.bl k) H) (tCons (tT X.K (evT cl a)) (tCons (tC (.ty t.py)) tNil)))) :
    PE X z (tT X.K (evT cl (.isi t a))) :=
  hcall.imp fun σ H Q ⟨A, ρ, st, u, s4, r, ef, q⟩ => by
    obtain ⟨u1, s1, e1, ef⟩ := Out.bind_ok (show (evT cl a st).bind _ = _ from ef)
    refine ⟨A, ρ, st, u1, s1, r, e1, fun ρ1 v H1 f1 r1 hv => ?_⟩
    split at ef
    · rename_i d hd
      split at ef
      · rename_i k hk
        cases ef
        exact ⟨A, ρ1, σ, s4, d, k, v, rfl, r1, r1.look hv hd, hk, q ρ1 _ H1 f1 r1 (show V.bl _ = V.bl _ from rfl)⟩
      · cases ef
    · cases ef

/-! ### methods -/
theorem d_lrange1 {b : E} (hcall : PE X z (tLstRg (tRg1 (tD X.K fun st => lk (evT cl b st))))) : PE X z (tF X.K (evT cl (.lrange1 b))) :=
  hcall.imp fun σ H Q ⟨A, ρ, st, t, s4, r, ef, q⟩ => by
    obtain ⟨j, s2, e2, ef⟩ := Out.bind_ok (show (intO (lk (evT cl b st))).bind _ = _ from ef)
    split at ef
    · rename_i hs
      obtain ⟨⟨a1, a2⟩, h3⟩ := hs
      cases ef
      refine ⟨A, ρ, st, _, s4, r, intO_ok e2, fun ρ2 w H2 f2 r2 hw => ?_⟩
      exact ⟨j, hw, ⟨by omega, by omega, by omega, by omega, by omega⟩, fun p hp => q ρ2 _ _ (f2.trans (Fr.laid hp)) ((Fresh.new r2 hp (Reps.range 0 j)).back f2)⟩
    · cases ef
theorem methT_ok {m : Me} {o : E} {es : List E} {st s4 : Sta} {u : T} (ef : evT cl (.meth m o es) st = .ok u s4) : ∃ t s1 xs ds s2, evT cl o st = .ok t s1 ∧ look t s1 = some (.lst xs) ∧ evEs cl es s1 = .ok ds s2 ∧ methO m t ds s2 = .ok u s4 := by
  obtain ⟨t, s1, e1, ef⟩ := Out.bind_ok (show (evT cl o st).bind _ = _ from ef)
  split at ef
  · rename_i xs hx
    obtain ⟨ds, s2, e2, ef⟩ := Out.bind_ok ef
    exact ⟨t, s1, xs, ds, s2, e1, hx, e2, ef⟩
  · cases ef
theorem d_meth {m : Me} {o : E} {es : List E} (hcall : PE X z (tBM X.K "list" (rMe X.K m) (tT X.K (evT cl o)) (tDs X.K (evEs cl es)))) : PE X z (tT X.K (evT cl (.meth m o es))) :=
  hcall.imp fun σ H Q ⟨A, ρ, st, u, s4, r, ef, q⟩ => by
    obtain ⟨t, s1, xs, ds, s2, e1, hx, e2, ef⟩ := methT_ok ef
    refine ⟨A, ρ, st, t, s1, r, e1, fun ρ1 v H1 f1 r1 hv => ⟨?_, A, ρ1, s1, ds, s2, r1, e2, fun ρ2 vs H2 f2 r2 hvs => ?_⟩⟩
    · obtain ⟨a, vs, rfl, h1, _⟩ := (r1.look hv hx).lst
      exact .inl ⟨rfl, vs, h1⟩
    · exact ⟨A, ρ2, σ, s2, t, ds, u, s4, r2, r1.repT f2 hv, hvs, ef, fun w H4 f4 r4 hw => q ρ2 w H4 ((f1.trans f2).trans f4) r4 hw⟩
theorem d_meth0 {m : Me} {o : E} (hcall : PE X z (tBM0 X.K "list" (rMe X.K m) (tT X.K (evT cl o)))) : PE X z (tT X.K (evT cl (.meth m o []))) :=
  hcall.imp fun σ H Q ⟨A, ρ, st, u, s4, r, ef, q⟩ => by
    obtain ⟨t, s1, xs, ds, s2, e1, hx, e2, ef⟩ := methT_ok ef
    cases e2
    refine ⟨A, ρ, st, t, s1, r, e1, fun ρ1 v H1 f1 r1 hv => ⟨?_, A, ρ1, σ, s1, t, [], u, s4, r1, hv, rfl, ef, fun w H4 f4 r4 hw => q ρ1 w H4 (f1.trans f4) r4 hw⟩⟩
    obtain ⟨a, vs, rfl, h1, _⟩ := (r1.look hv hx).lst
    exact .inl ⟨rfl, vs, h1⟩

/-! ### calls of the text's own defs -/
theorem d_call {f : Nat} {es : List E} {np : Nat} {fr : Bool} {E0' : XK} (hnp : ∀ ds S r, cl f ds S = some r → ds.length = np) (hcall : PE X z (tCall (spF X.K (cl f) np fr) [] E0' (tDs X.K (evEs cl es)))) :
    PE X z (if fr = true then tF X.K (evT cl (.call f es)) else tT X.K (evT cl (.call f es))) := by
  have key : ∀ σ H Q, (if fr = true then tF X.K (evT cl (.call f es)) else tT X.K (evT cl (.call f es))) σ H Q → tCall (spF X.K (cl f) np fr) [] E0' (tDs X.K (evEs cl es)) σ H Q := by
    intro σ H Q h
    cases fr with
    | true =>
      simp only [if_true] at h
      obtain ⟨A, ρ, st, u, s4, r, ef, q⟩ := h
      obtain ⟨ds, s1, e1, ef⟩ := Out.bind_ok (show (evEs cl es st).bind _ = _ from ef)
      refine ⟨A, ρ, st, ds, s1, r, e1, fun ρ1 vs H1 f1 r1 hv => ?_⟩
      unfold callO at ef
      split at ef
      · rename_i d S' hF
        cases ef
        refine call_ok r1 (hnp _ _ _ hF) (by rw [List.append_nil]; exact hv) hF fun ρ2 v H2 f2 h2 => ?_
        simp only [if_true] at h2
        exact q ρ2 v H2 (f1.trans f2) (h2.back f1)
      · cases ef
    | false =>
      simp only [Bool.false_eq_true, if_false] at h
      obtain ⟨A, ρ, st, u, s4, r, ef, q⟩ := h
      obtain ⟨ds, s1, e1, ef⟩ := Out.bind_ok (show (evEs cl es st).bind _ = _ from ef)
      refine ⟨A, ρ, st, ds, s1, r, e1, fun ρ1 vs H1 f1 r1 hv => ?_⟩
      unfold callO at ef
      split at ef
      · rename_i d S' hF
        cases ef
        refine call_ok r1 (hnp _ _ _ hF) (by rw [List.append_nil]; exact hv) hF fun ρ2 v H2 f2 h2 => ?_
        simp only [Bool.false_eq_true, if_false] at h2
        exact q ρ2 v H2 (f1.trans f2) h2.1 h2.2
      · cases ef
  exact hcall.imp key
theorem d_pcall {f : Nat} {es : List E} {np : Nat} {fr : Bool} {E0' : XK} (hnp : ∀ ds S r, cl f ds S = some r → ds.length = np) (hcall : PE X z (tCall (spF X.K (cl f) np fr) [] E0' (tTs X.K (evTs cl es)))) :
    PE X z (if fr = true then tF X.K (evT cl (.pcall f es)) else tT X.K (evT cl (.pcall f es))) := by
  have key : ∀ σ H Q, (if fr = true then tF X.K (evT cl (.pcall f es)) else tT X.K (evT cl (.pcall f es))) σ H Q → tCall (spF X.K (cl f) np fr) [] E0' (tTs X.K (evTs cl es)) σ H Q := by
    intro σ H Q h
    have open_ : ∀ {st u s4}, evT cl (.pcall f es) st = .ok u s4 → ∃ ts s1 ds d S', evTs cl es st = .ok ts s1 ∧ lents ts s1 = some ds ∧ cl f ds (mask s1.S) = some (d, S') ∧ d.bel 0 = true ∧ u = .v d ∧ s4 = (if d.flat then s1 else { s1 with env := freezes ts s1.env }) := fun {st u s4} ef => by
      obtain ⟨ts, s1, e1, ef⟩ := Out.bind_ok (show (evTs cl es st).bind _ = _ from ef)
      unfold pcallO at ef
      split at ef
      · rename_i ds hds
        split at ef
        · rename_i d S' hF
          split at ef
          · rename_i hS
            cases ef
            exact ⟨ts, s1, ds, d, S', e1, hds, hF, hS, rfl, rfl⟩
          · cases ef
        · cases ef
      · cases ef
    cases fr with
    | true =>
      simp only [if_true] at h
      obtain ⟨A, ρ, st, u, s4, r, ef, q⟩ := h
      obtain ⟨ts, s1, ds, d, S', e1, hds, hF, hS, rfl, rfl⟩ := open_ ef
      refine ⟨A, ρ, st, ts, s1, r, e1, fun ρ1 vs H1 f1 r1 hv => ?_⟩
      refine pcall_ok r1 hds (hnp _ _ _ hF) (by rw [List.append_nil]; exact hv) hF hS fun ρ2 v H2 s2 es2 f2 h2 => ?_
      subst es2
      simp only [if_true] at h2
      exact q ρ2 v H2 (f1.trans f2) (h2.back f1)
    | false =>
      simp only [Bool.false_eq_true, if_false] at h
      obtain ⟨A, ρ, st, u, s4, r, ef, q⟩ := h
      obtain ⟨ts, s1, ds, d, S', e1, hds, hF, hS, rfl, rfl⟩ := open_ ef
      refine ⟨A, ρ, st, ts, s1, r, e1, fun ρ1 vs H1 f1 r1 hv => ?_⟩
      refine pcall_ok r1 hds (hnp _ _ _ hF) (by rw [List.append_nil]; exact hv) hF hS fun ρ2 v H2 s2 es2 f2 h2 => ?_
      subst es2
      simp only [Bool.false_eq_true, if_false] at h2
      exact q ρ2 v H2 (f1.trans f2) h2.1 h2.2
  exact hcall.imp key

/-! ### tests -/
theorem d_tand {a b : C} {rest : List Expr} (ha : PT X x (tBo X.K (evB cl a))) (hb : PW X (.BoolOp .And (y :: rest) pos) (tBo X.K (evB cl b))) : PW X (.BoolOp .And (x :: y :: rest) pos) (tBo X.K (evB cl (.and a b))) :=
  (pw_and ha hb).imp fun σ H Q ⟨A, ρ, st, k, s2, r, ef, q⟩ => by
    obtain ⟨k1, s1, e1, ef⟩ := Out.bind_ok (show (evB cl a st).bind _ = _ from ef)
    refine ⟨A, ρ, st, k1, s1, r, e1, fun ρ1 H1 f1 r1 => ?_⟩
    cases k1 with
    | true =>
      simp only [if_true] at ef ⊢
      exact ⟨A, ρ1, s1, k, s2, r1, ef, fun ρ2 H2 f2 r2 => q ρ2 H2 (f1.trans f2) r2⟩
    | false =>
      simp only [Bool.false_eq_true, if_false] at ef ⊢
      cases ef
      exact q ρ1 H1 f1 r1
theorem d_tor {a b : C} {rest : List Expr} (ha : PT X x (tBo X.K (evB cl a))) (hb : PW X (.BoolOp .Or (y :: rest) pos) (tBo X.K (evB cl b))) : PW X (.BoolOp .Or (x :: y :: rest) pos) (tBo X.K (evB cl (.or a b))) :=
  (pw_or ha hb).imp fun σ H Q ⟨A, ρ, st, k, s2, r, ef, q⟩ => by
    obtain ⟨k1, s1, e1, ef⟩ := Out.bind_ok (show (evB cl a st).bind _ = _ from ef)
    refine ⟨A, ρ, st, k1, s1, r, e1, fun ρ1 H1 f1 r1 => ?_⟩
    cases k1 with
    | true =>
      simp only [if_true] at ef ⊢
      cases ef
      exact q ρ1 H1 f1 r1
    | false =>
      simp only [Bool.false_eq_true, if_false] at ef ⊢
      exact ⟨A, ρ1, s1, k, s2, r1, ef, fun ρ2 H2 f2 r2 => q ρ2 H2 (f1.trans f2) r2⟩
theorem d_tnot {a : C} (ha : PT X x (tBo X.K (evB cl a))) : PT X (.UnaryOp .Not x pos) (tBo X.K (evB cl (.not a))) :=
  (pt_not ha).imp fun σ H Q ⟨A, ρ, st, k, s2, r, ef, q⟩ => by
    obtain ⟨k1, s1, e1, ef⟩ := Out.bind_ok (show (evB cl a st).bind _ = _ from ef)
    cases ef
    exact ⟨A, ρ, st, k1, s2, r, e1, fun ρ1 H1 f1 r1 => q ρ1 H1 f1 r1⟩
theorem truth_ok {K : PySem.W.Frag} {ρ : Nat → Addr} {n : Nat} {L : Addr → Prop} {H : Hp} {d : D} {v : V} {k : Bool} (h : Seen K ρ n L H d v) (e : truth d = some k) : TruV K v H k := by
  cases d with
  | non => cases e; rw [show v = V.non from h]; exact (show false = false from rfl)
  | bl b => cases e; rw [show v = V.bl _ from h]; exact (show _ = _ from rfl)
  | int b => cases e; rw [show v = V.int _ from h]; exact (show _ = _ from rfl)
  | str b => cases e
  | lst ds =>
    cases e
    obtain ⟨a, vs, rfl, h1, h2⟩ := h
    refine .inl ⟨vs, h1, ?_⟩
    have := h2.length
    cases ds <;> cases vs <;> first | rfl | cases this
  | tup ds =>
    cases e
    obtain ⟨a, vs, rfl, h1, h2⟩ := h
    refine .inr (.inl ⟨vs, SqT.of h1, ?_⟩)
    have := h2.length
    cases ds <;> cases vs <;> first | rfl | cases this
  | loc m => cases e
  | dct => cases e
  | ins => cases e
theorem evBval_ok {e : E} {st s2 : Sta} {k : Bool} (ef : evB cl (.val e) st = .ok k s2) : ∃ t d, evT cl e st = .ok t s2 ∧ look t s2 = some d ∧ truth d = some k := by
  obtain ⟨t, s1, e1, ef⟩ := Out.bind_ok (show (evT cl e st).bind _ = _ from ef)
  split at ef
  · rename_i d hd
    split at ef
    · rename_i k' hk
      cases ef
      exact ⟨t, d, e1, hd, hk⟩
    · cases ef
  · cases ef
theorem d_tval {e : E} (ha : PE X x (tT X.K (evT cl e))) (he : ∀ whole, isTrue x X.env whole = (do let v ← whole; standAt x.pos; holding [v] (truthy v))) : PT X x (tBo X.K (evB cl (.val e))) :=
  (pt_truth ha he).imp fun σ H Q ⟨A, ρ, st, k, s2, r, ef, q⟩ => by
    obtain ⟨t, d, e1, hd, hk⟩ := evBval_ok ef
    exact ⟨A, ρ, st, t, s2, r, e1, fun ρ1 v H1 f1 r1 hv => ⟨k, truth_ok (r1.look hv hd) hk, q ρ1 H1 f1 r1⟩⟩
/-- a comparison as a test -/
theorem d_tcmp (hu : X.A.units + 66 < cLine) {op : COp} {a b : E} (ha : PE X x (tT X.K (evT cl a))) (hb : PE X y (tT X.K (evT cl b))) (hm : behindInMarks op.py y = false) : PT X (.Compare x [op.py] [y] pos) (tBo X.K (evB cl (.val (.cmp op a b)))) :=
  (pt_cmpR (cmp_ok hu op) ha hb hm).imp fun σ H Q ⟨A, ρ, st, k, s2, r, ef, q⟩ => by
    obtain ⟨t, d, e1, hd, hk⟩ := evBval_ok ef
    refine tOp_F (X := X) (a := evT cl a) (b := evT cl b) (f := cmpF op) (Q := fun x H' => ∃ k, x = .bl k ∧ Q k H') ⟨A, ρ, st, t, s2, r, e1, fun ρ1 v H1 f1 fx => ?_⟩
    obtain ⟨r1, hv⟩ := fx.rep r
    have ht := truth_ok (r1.look hv hd) hk
    obtain ⟨_, _, _, d1, d2, zz, _, _, _, _, hz, rfl⟩ := two_ok (show two (evT cl a) (evT cl b) (cmpF op) st = _ from e1)
    obtain ⟨kk, rfl⟩ := cmpF_bl hz
    have hv' : v = .bl kk := hv
    subst hv'
    have : k = kk := ht
    subst this
    exact ⟨k, rfl, q ρ1 H1 f1 r1⟩
/-- a chain of two as a test -/
theorem d_tchain (hu : X.A.units + 66 < cLine) {o1 o2 : COp} {a b c : E} (ha : PE X x (tT X.K (evT cl a))) (hb : PE X y (tT X.K (evT cl b))) (hc : PE X z (tT X.K (evT cl c))) (hm : lastMarks [o1.py, o2.py] [y, z] = false) :
    PT X (.Compare x [o1.py, o2.py] [y, z] pos) (tBo X.K (evB cl (.val (.chain o1 o2 a b c)))) :=
  (pt_chain (cmp_ok hu o1) (cmp_ok hu o2) (pe_lk ha) (pe_lk hb) (pe_lk hc) hm).imp fun σ H Q ⟨A, ρ, st, k, s2, r, ef, q⟩ => by
    obtain ⟨t, d, e1, hd, hk⟩ := evBval_ok ef
    refine chain_imp (X := X) (Q := fun x H' => ∃ k, x = .bl k ∧ Q k H') ⟨A, ρ, st, t, s2, r, e1, fun ρ1 v H1 f1 r1 hv => ?_⟩
    have ht := truth_ok (r1.look hv hd) hk
    have hb' : ∃ kk, t = .v (.bl kk) := by
      obtain ⟨d1, s3, _, e1⟩ := Out.bind_ok (show (lk (evT cl a st)).bind _ = _ from e1)
      obtain ⟨d2, s4, _, e1⟩ := Out.bind_ok e1
      split at e1
      · obtain ⟨d3, s5, _, e1⟩ := Out.bind_ok e1
        unfold vF at e1
        split at e1
        · rename_i zz hz
          cases e1
          obtain ⟨kk, rfl⟩ := cmpF_bl hz
          exact ⟨kk, rfl⟩
        · cases e1
      · cases e1; exact ⟨_, rfl⟩
      · cases e1
    obtain ⟨kk, rfl⟩ := hb'
    have hv' : v = .bl kk := hv
    subst hv'
    have : k = kk := ht
    subst this
    exact ⟨k, rfl, q ρ1 H1 f1 r1⟩
/-- the tests of a comprehension: none, or one -/
theorem d_all0 : PTs X [] (tBo X.K (evAll cl [])) := ⟨fun pins s σ H Q I ⟨A, ρ, st, k, s2, r, ef, q⟩ => by
  cases ef
  exact pts_nil.run pins s σ H Q I (q ρ H Fr.refl r)⟩
theorem d_all1 {c : C} (ha : PT X x (tBo X.K (evB cl c))) : PTs X [x] (tBo X.K (evAll cl [c])) := ⟨fun pins s σ H Q I ⟨A, ρ, st, k, s2, r, ef, q⟩ => by
  obtain ⟨k1, s1, e1, ef⟩ := Out.bind_ok (show (evB cl c st).bind _ = _ from ef)
  refine (pts_one ha).run pins s σ H Q I ⟨A, ρ, st, k1, s1, r, e1, fun ρ1 H1 f1 r1 => ?_⟩
  cases k1 with
  | true => simp only [if_true] at ef; cases ef; exact q ρ1 H1 f1 r1
  | false => simp only [Bool.false_eq_true, if_false] at ef; cases ef; exact q ρ1 H1 f1 r1⟩

/-! ### what is walked -/
theorem _root_.L2.PI.or {tg e : Expr} {t t' : TI} (h : PI X tg e t) (h' : PI X tg e t') : PI X tg e (fun σ H R => t σ H R ∨ t' σ H R) := ⟨fun pins s σ H R I q => q.elim (h.run pins s σ H R I) (h'.run pins s σ H R I)⟩
theorem d_seq {h : Bool} {tg : Expr} {e : E} (ha : PE X x (tT X.K (evT cl e))) : PI X tg x (tI X.K (evI cl h (.seq e))) := by
  refine ⟨fun pins s σ H R I ⟨A, ρ, st, ds, s2, r, ef, q⟩ => ?_⟩
  obtain ⟨t, s1, e1, ef⟩ := Out.bind_ok (show (evT cl e st).bind _ = _ from ef)
  obtain ⟨p, s3, e2, ef⟩ := Out.bind_ok ef
  split at ef
  · rename_i xs hp
    cases ef
    refine (pi_list ha).run pins s σ H R I ⟨A, ρ, st, t, _, r, e1, fun ρ1 v H1 f1 r1 hv => ?_⟩
    obtain ⟨f2, r2, hh, _⟩ := hold_ok r1 hv e2
    rw [hp] at hh
    have now : ∃ a vs, v = .ref a ∧ SqL X.K H1 a vs := by
      have := held_now r1 hv e2
      rw [hp] at this
      obtain ⟨a, vs, e, h1, _⟩ := this
      exact ⟨a, vs, e, h1⟩
    obtain ⟨a, vs, rfl, h1⟩ := now
    exact ⟨a, rfl, ⟨vs, h1⟩, q ρ1 _ H1 (f1.trans f2) r2 (yields_list r2 hh)⟩
  · rename_i xs hp
    cases ef
    refine (pi_tup ha).run pins s σ H R I ⟨A, ρ, st, t, _, r, e1, fun ρ1 v H1 f1 r1 hv => ?_⟩
    obtain ⟨f2, r2, hh, _⟩ := hold_ok r1 hv e2
    rw [hp] at hh
    have now : ∃ a vs, v = .ref a ∧ SqT X.K H1 a vs := by
      have := held_now r1 hv e2
      rw [hp] at this
      obtain ⟨a, vs, e, h1, _⟩ := this
      exact ⟨a, vs, e, SqT.of h1⟩
    obtain ⟨a, vs, rfl, h1⟩ := now
    exact ⟨a, rfl, ⟨vs, h1⟩, q ρ1 _ H1 (f1.trans f2) r2 (yields_tup r2 hh)⟩
  · cases ef
theorem d_range1 {h : Bool} {tg : Expr} {a : E} (hcall : PI X tg z (iRng1 (tCons (tD X.K fun st => lk (evT cl a st)) tNil))) : PI X tg z (tI X.K (evI cl h (.range1 a))) :=
  hcall.imp fun σ H R ⟨A, ρ, st, ds, s2, r, ef, q⟩ => by
    obtain ⟨j, s1, e1, ef⟩ := Out.bind_ok (show (intO (lk (evT cl a st))).bind _ = _ from ef)
    split at ef
    · rename_i hs
      obtain ⟨a1, a2⟩ := hs
      cases ef
      refine ⟨A, ρ, st, _, s2, r, intO_ok e1, fun ρ1 v H1 f1 r1 hv => ⟨j, by rw [show v = V.int j from hv], by omega, by omega, ?_⟩⟩
      have y := yields_range (K := X.K) (A := A) (ρ := ρ1) (σ := σ) (H := H1) (st := s2) 0 j
      rw [Int.sub_zero] at y
      exact q ρ1 _ H1 f1 r1 y
    · cases ef
theorem d_range2 {h : Bool} {tg : Expr} {a b : E} (hcall : PI X tg z (iRng2 (tCons (tD X.K fun st => lk (evT cl a st)) (tCons (tD X.K fun st => lk (evT cl b st)) tNil)))) : PI X tg z (tI X.K (evI cl h (.range a b))) :=
  hcall.imp fun σ H R ⟨A, ρ, st, ds, s2, r, ef, q⟩ => by
    obtain ⟨i, s1, e1, ef⟩ := Out.bind_ok (show (intO (lk (evT cl a st))).bind _ = _ from ef)
    obtain ⟨j, s3, e2, ef⟩ := Out.bind_ok ef
    split at ef
    · rename_i hs
      obtain ⟨⟨a1, a2⟩, b1, b2⟩ := hs
      cases ef
      refine ⟨A, ρ, st, _, s1, r, intO_ok e1, fun ρ1 v H1 f1 r1 hv => ⟨A, ρ1, s1, _, s2, r1, intO_ok e2, fun ρ2 w H2 f2 r2 hw => ⟨i, j, by rw [show v = V.int i from hv, show w = V.int j from hw], ⟨by omega, by omega, by omega, by omega⟩, ?_⟩⟩⟩
      exact q ρ2 _ H2 (f1.trans f2) r2 (yields_range i j)
    · cases ef
theorem d_enum {h : Bool} {tg : Expr} {e : E} (hcall : PI X tg z (iEnum X.K (tCons (tT X.K (evT cl e)) tNil))) : PI X tg z (tI X.K (evI cl h (.enum e))) :=
  hcall.imp fun σ H R ⟨A, ρ, st, ds, s2, r, ef, q⟩ => by
    obtain ⟨t, s1, e1, ef⟩ := Out.bind_ok (show (evT cl e st).bind _ = _ from ef)
    obtain ⟨p, s3, e2, ef⟩ := Out.bind_ok ef
    split at ef
    · rename_i xs hp
      cases ef
      refine ⟨A, ρ, st, t, _, r, e1, fun ρ1 v H1 f1 r1 hv => ?_⟩
      obtain ⟨f2, r2, hh, _⟩ := hold_ok r1 hv e2
      rw [hp] at hh
      have := held_now r1 hv e2
      rw [hp] at this
      obtain ⟨a, vs, rfl, h1, h2⟩ := this
      exact ⟨a, vs, rfl, h1, q ρ1 _ H1 (f1.trans f2) r2 (yields_enum r2 hh)⟩
    · cases ef
theorem d_zip {h : Bool} {tg : Expr} {a b : E} (hcall : PI X tg z (iZip X.K (tCons (tT X.K (evT cl a)) (tCons (tT X.K (evT cl b)) tNil)))) : PI X tg z (tI X.K (evI cl h (.zip a b))) :=
  hcall.imp fun σ H R ⟨A, ρ, st, ds, s2, r, ef, q⟩ => by
    obtain ⟨t, s1, e1, ef⟩ := Out.bind_ok (show (evT cl a st).bind _ = _ from ef)
    obtain ⟨u, s3, e2, ef⟩ := Out.bind_ok ef
    obtain ⟨p, s4, e3, ef⟩ := Out.bind_ok ef
    obtain ⟨p', s5, e4, ef⟩ := Out.bind_ok ef
    split at ef
    · rename_i xs ys hp hp'
      cases ef
      refine ⟨A, ρ, st, t, _, r, e1, fun ρ1 v H1 f1 r1 hv => ⟨A, ρ1, _, u, _, r1, e2, fun ρ2 w H2 f2 r2 hw => ?_⟩⟩
      have hv := r1.repT f2 hv
      obtain ⟨f3, r3, hh, _⟩ := hold_ok r2 hv e3
      have n1 := held_now r2 hv e3
      have hw' := r2.repT f3 hw
      obtain ⟨f4, r4, hh', _⟩ := hold_ok r3 hw' e4
      have n2 := held_now r3 hw' e4
      rw [hp] at hh n1
      rw [hp'] at hh' n2
      obtain ⟨a, vs, rfl, h1, h2⟩ := n1
      obtain ⟨b, ws, rfl, h3, h4⟩ := n2
      refine ⟨a, b, vs, ws, rfl, h1, h3, q ρ2 _ H2 (((f1.trans f2).trans f3).trans f4) r4 (yields_zip r4 (Held.more (hh.later f4) (fun st' z => (gdB_app.mp z).1) fun p z => List.mem_append.mpr (.inl z)) (Held.more hh' (fun st' z => (gdB_app.mp z).2) fun p z => List.mem_append.mpr (.inr z)))⟩
    · cases ef
theorem d_rev {h : Bool} {tg : Expr} {e : E} (hcall : PI X tg z (iRev X.K (tCons (tT X.K (evT cl e)) tNil))) : PI X tg z (tI X.K (evI cl h (.rev e))) :=
  hcall.imp fun σ H R ⟨A, ρ, st, ds, s2, r, ef, q⟩ => by
    obtain ⟨t, s1, e1, ef⟩ := Out.bind_ok (show (evT cl e st).bind _ = _ from ef)
    obtain ⟨p, s3, e2, ef⟩ := Out.bind_ok ef
    split at ef
    · rename_i xs hp
      cases ef
      refine ⟨A, ρ, st, t, _, r, e1, fun ρ1 v H1 f1 r1 hv => ?_⟩
      obtain ⟨f2, r2, hh, _⟩ := hold_ok r1 hv e2
      rw [hp] at hh
      have := held_now r1 hv e2
      rw [hp] at this
      obtain ⟨a, vs, rfl, h1, h2⟩ := this
      refine ⟨a, vs, rfl, h1, ?_⟩
      rw [h2.length]
      exact q ρ1 _ H1 (f1.trans f2) r2 (yields_rev r2 hh)
    · cases ef

/-! ### targets -/
theorem stored_refl {W : List Nat} {σ : L2.St} : Stored W σ σ := fun _ _ => rfl
theorem stored_trans {W W' : List Nat} {σ σ' σ2 : L2.St} (h : Stored W σ σ') (h' : Stored W' σ' σ2) : Stored (W ++ W') σ σ2 := fun i hi => by
  simp only [List.mem_append, not_or] at hi
  rw [h' i hi.2, h i hi.1]
theorem d_gname {i : Nat} (h : PG X x (gName i)) : PG X x (tG X.K [i] (evG cl (.name i))) := h.imp fun v σ H Q ⟨A, ρ, st, d, s1, r, hv, ef, q⟩ => by
  have ef : (if i < st.env.length then Out.ok () (setName i d st) else .bad) = .ok () s1 := ef
  split at ef
  · rename_i hi
    cases ef
    obtain ⟨f, r'⟩ := r.setv hv hi
    exact q ρ _ H (fun j hj => by rw [List.getElem?_set_ne (fun z => hj (by rw [z]; exact List.mem_singleton_self _))]) f r'
  · cases ef
theorem d_gnil : PGs X [] (tGs X.K [] (evGs cl [])) := pgs_nil.imp fun v σ H Q ⟨A, ρ, st, ds, s1, r, hv, ef, q⟩ => by
  have ef : (if ds.isEmpty then Out.ok () st else .bad) = .ok () s1 := ef
  cases ds with
  | nil => cases ef; exact ⟨hv, q ρ σ H stored_refl Fr.refl r⟩
  | cons d ds => cases ef
theorem d_gcons {g : G} {gs : List G} {W W' : List Nat} {xs : List Expr} (h1 : PG X x (tG X.K W (evG cl g))) (h2 : PGs X xs (tGs X.K W' (evGs cl gs))) (hs : (assignEach (x :: xs) X.env).map (·.2) = assign x X.env :: (assignEach xs X.env).map (·.2)) :
    PGs X (x :: xs) (tGs X.K (W ++ W') (evGs cl (g :: gs))) := (pgs_cons h1 h2 hs).imp fun v σ H Q ⟨A, ρ, st, ds, s2, r, hv, ef, q⟩ => by
  cases ds with
  | nil => cases ef
  | cons d ds =>
    obtain ⟨_, s1, e1, ef⟩ := Out.bind_ok (show (evG cl g d st).bind _ = _ from ef)
    obtain ⟨w, ws, rfl, h3, h4⟩ := hv
    refine ⟨w, ws, rfl, A, ρ, st, d, s1, r, h3, e1, fun ρ1 σ1 H1 st1 f1 r1 => ⟨A, ρ1, s1, ds, s2, r1, Reps.keep (r.keep f1) h4, ef, fun ρ2 σ2 H2 st2 f2 r2 => ?_⟩⟩
    exact q ρ2 σ2 H2 (stored_trans st1 st2) (f1.trans f2) r2
theorem evGs_len : ∀ {gs : List G} {ds : List D} {st s1 : Sta}, evGs cl gs ds st = .ok () s1 → ds.length = gs.length
  | [], ds, st, s1, h => by
    have h : (if ds.isEmpty then Out.ok () st else .bad) = .ok () s1 := h
    cases ds with
    | nil => rfl
    | cons => cases h
  | g :: gs, [], st, s1, h => by cases h
  | g :: gs, d :: ds, st, s1, h => by
    obtain ⟨_, s2, e1, h⟩ := Out.bind_ok (show (evG cl g d st).bind _ = _ from h)
    rw [List.length_cons, List.length_cons, evGs_len h]
theorem _root_.L2.PG.or {x : Expr} {t t' : TG} (h : PG X x t) (h' : PG X x t') : PG X x (fun v σ H Q => t v σ H Q ∨ t' v σ H Q) := ⟨fun pins s σ H v u Q I r q => q.elim (h.run pins s σ H v u Q I r) (h'.run pins s σ H v u Q I r)⟩
theorem d_gtup {gs : List G} {W : List Nat} {xs : List Expr} {k : Nat} (hc : X.calm = true) (h : PGs X xs (tGs X.K W (evGs cl gs))) (hn : (assignEach xs X.env).length = gs.length) (hst : (assignEach xs X.env).findIdx? (·.1) = none) : PG X (.Tuple xs k pos) (tG X.K W (evG cl (.tup gs))) :=
  ((pg_tup hc h hn hst).or (pg_unl hc h hn hst)).imp fun v σ H Q ⟨A, ρ, st, d, s1, r, hv, ef, q⟩ => by
    cases d with
    | tup ds =>
      obtain ⟨a, vs, rfl, h1, h2⟩ := hv
      exact .inl ⟨a, vs, rfl, SqT.of h1, by rw [h2.length]; exact evGs_len ef, A, ρ, st, ds, s1, r, h2, ef, q⟩
    | lst ds =>
      obtain ⟨a, vs, rfl, h1, h2⟩ := hv
      exact .inr ⟨a, vs, rfl, h1.sq, by rw [h2.length]; exact evGs_len ef, A, ρ, st, ds, s1, r, h2, ef, q⟩
    | _ => cases ef
theorem _root_.L2.PSet.or {t t' : TSet} (h : PSet X t) (h' : PSet X t') : PSet X (fun o i v H Q => t o i v H Q ∨ t' o i v H Q) := fun pins s σ H o i v ov iv u Q I r1 r2 r3 q => q.elim (h pins s σ H o i v ov iv u Q I r1 r2 r3) (h' pins s σ H o i v ov iv u Q I r1 r2 r3)
theorem setO_ok {t : T} {i d : D} {st s1 : Sta} (h : setO t i d st = .ok () s1) : (∃ xs j k, i = .int j ∧ look t st = some (.lst xs) ∧ place xs.length j = some k ∧ put t (.lst (xs.set k d)) st = some s1) ∨
    ∃ k ks vs, look t st = some (.dct k ks vs) ∧ keyOk k i = true ∧ ks.length < 1000000 ∧ put t (.dct k (dputL ks vs i d).1 (dputL ks vs i d).2) st = some s1 := by
  unfold setO at h
  split at h
  · rename_i xs j hx
    split at h
    · rename_i k hk
      split at h
      · rename_i s3 hp
        cases h
        exact .inl ⟨xs, j, k, rfl, hx, hk, hp⟩
      · cases h
    · cases h
  · rename_i k ks vs hx
    split at h
    · rename_i hk
      split at h
      · rename_i s3 hp
        cases h
        exact .inr ⟨k, ks, vs, hx, hk.1, hk.2, hp⟩
      · cases h
    · cases h
  · cases h
theorem d_gsub (hu : X.A.units + 1 < cLine) {o i : E} (ho : PE X x (tT X.K (evT cl o))) (hi : PE X y (tT X.K (evT cl i))) (ha : ∀ v, assign (.Subscript x y pos) X.env v = (do
      let ov ← holding [v] (eval x X.env)
      let iv ← holding [v, ov] (eval y X.env)
      standAt pos
      holding [v, ov, iv] (setItem ov iv v)
      release [v, ov, iv] [])) : PG X (.Subscript x y pos) (tG X.K [] (evG cl (.sub o i))) :=
  (pg_sub ho (pe_lk hi) (set_list.or (set_dict hu)) ha).imp fun v σ H Q ⟨A, ρ, st, d, s3, r, hv, ef, q⟩ => by
    obtain ⟨t, s1, e1, ef⟩ := Out.bind_ok (show (evT cl o st).bind _ = _ from ef)
    obtain ⟨j, s2, e2, ef⟩ := Out.bind_ok ef
    refine ⟨A, ρ, st, t, s1, r, e1, fun ρ1 w H1 f1 r1 hw => ⟨A, ρ1, s1, _, s2, r1, e2, fun ρ2 u H2 f2 r2 hu => ?_⟩⟩
    rcases setO_ok ef with ⟨xs, j, k, rfl, hx, hk, hp⟩ | ⟨k, ks, vs, hx, hk, hl, hp⟩
    · obtain ⟨a, vs, rfl, ha, hvs, hput⟩ := put_lst r2 (r1.repT f2 hw) hx hp
      obtain ⟨f3, r3⟩ := hput (vs.set k v) (hvs.set (r.rep (f1.trans f2) hv) k)
      exact .inl ⟨a, vs, j, k, rfl, hu, ha, by rw [hvs.length, ← place_ixN]; exact hk, q ρ2 σ _ stored_refl ((f1.trans f2).trans f3) r3⟩
    · obtain ⟨a, rfl, c, hput⟩ := put_ok r2 (r1.repT f2 hw) hx hp
      obtain ⟨o', g, co⟩ := dct_put c hk hl hu (r.rep (f1.trans f2) hv)
      obtain ⟨f3, r3⟩ := hput o' co
      exact .inr ⟨a, _, rfl, g, q ρ2 σ _ stored_refl ((f1.trans f2).trans f3) r3⟩

/-! ### comprehensions -/
theorem put_env_len {t : T} {xs : D} {st s1 : Sta} (h : put t xs st = some s1) : s1.env.length = st.env.length := by
  unfold put at h
  simp only at h
  split at h
  · split at h
    · obtain ⟨_, rfl⟩ := ite_some h; rfl
    · cases h
  · split at h
    · split at h
      · obtain ⟨_, rfl⟩ := ite_some h; rfl
      · cases h
    · obtain ⟨_, rfl⟩ := ite_some h; exact List.length_set
    · cases h
  · cases h
end
end Gp

/-! Gp, part J: statements. -/
namespace Gp
open PySem L2

section
variable [Cfg] {K : PySem.W.Frag} {A B : Addr → Prop} {ρ ρ' ρ2 : Nat → Addr} {σ σ' σ2 : L2.St} {H H' H2 : Hp} {st st' st2 s1 : Sta}

/-- what is handed back -/
def RtOk (K : PySem.W.Frag) (A : Addr → Prop) (σ : L2.St) (H : Hp) (st : Sta) (d : D) (fr : Bool) (ρ' : Nat → Addr) (σ' : L2.St) (v : V) (H' : Hp) (s1 : Sta) : Prop :=
  if fr = true then (∃ a, d.obj = true ∧ v = .ref a ∧ (H a = none ∨ Own st.env σ a) ∧ Rel K (And1 A a) ρ' σ' H' s1 ∧ Cont K ρ' s1.S.length (Ch (And1 A a) ρ' σ' s1) H' a d) ∨
    (d.obj = false ∧ Rel K A ρ' σ' H' s1 ∧ Rep K ρ' s1.S.length (Ch A ρ' σ' s1) H' d v)
  else Rel K A ρ' σ' H' s1 ∧ Rep K ρ' s1.S.length (Ch A ρ' σ' s1) H' d v
def EndOk (K : PySem.W.Frag) (A : Addr → Prop) (ρ : Nat → Addr) (σ : L2.St) (H : Hp) (st : Sta) (c : Ctl) (s1 : Sta) (D : Ends) : Prop :=
  match c with
  | .nx => ∀ ρ' σ' H', Fr A ρ σ H st ρ' σ' H' s1 → Rel K A ρ' σ' H' s1 → D.nx σ' H'
  | .bk => ∀ ρ' σ' H', Fr A ρ σ H st ρ' σ' H' s1 → Rel K A ρ' σ' H' s1 → D.bk σ' H'
  | .ct => ∀ ρ' σ' H', Fr A ρ σ H st ρ' σ' H' s1 → Rel K A ρ' σ' H' s1 → D.ct σ' H'
  | .rt d fr => ∀ ρ' σ' v H', Fr A ρ σ H st ρ' σ' H' s1 → RtOk K A σ H st d fr ρ' σ' v H' s1 → D.rt v H'
def tS (K : PySem.W.Frag) (f : Sta → Out Ctl) : TS := fun D σ H => ∃ A ρ st c s1, Rel K A ρ σ H st ∧ f st = .ok c s1 ∧ EndOk K A ρ σ H st c s1 D
theorem RtOk.back {d : D} {fr : Bool} {v : V} (f : Fr A ρ σ H st ρ' σ' H' st') (h : RtOk K A σ' H' st' d fr ρ2 σ2 v H2 st2) : RtOk K A σ H st d fr ρ2 σ2 v H2 st2 := by
  unfold RtOk at h ⊢
  split
  · rename_i hfr
    rw [if_pos hfr] at h
    rcases h with ⟨a, e1, e2, n, h⟩ | h
    · refine .inl ⟨a, e1, e2, ?_, h⟩
      rcases n with n | n
      · exact .inl (f.free a n)
      · exact (f.own a n).elim .inr .inl
    · exact .inr h
  · rename_i hfr
    rw [if_neg hfr] at h
    exact h
theorem EndOk.back {c : Ctl} {D : Ends} (h : EndOk K A ρ σ H st c s1 D) (f : Fr A ρ σ H st ρ' σ' H' st') : EndOk K A ρ' σ' H' st' c s1 D := by
  cases c with
  | nx => exact fun ρ2 σ2 H2 g r => h ρ2 σ2 H2 (f.trans g) r
  | bk => exact fun ρ2 σ2 H2 g r => h ρ2 σ2 H2 (f.trans g) r
  | ct => exact fun ρ2 σ2 H2 g r => h ρ2 σ2 H2 (f.trans g) r
  | rt d fr => exact fun ρ2 σ2 v H2 g r => h ρ2 σ2 v H2 (f.trans g) (r.back f)
end
section
variable [Cfg] {X : Cx} {cl : CallF} {x y z : Expr} {pos : Pos}
theorem d_snil : PSs X [] (tS X.K (evSs cl [])) := pss_nil.imp fun D σ H ⟨A, ρ, st, c, s1, r, ef, q⟩ => by
  cases ef
  exact q ρ σ H Fr.refl r
theorem d_scons {s : S} {ss : List S} {p : Stmt} {ps : List Stmt} (h1 : PS X p (tS X.K (evS cl s))) (h2 : PSs X ps (tS X.K (evSs cl ss))) : PSs X (p :: ps) (tS X.K (evSs cl (s :: ss))) :=
  (pss_cons h1 h2).imp fun D σ H ⟨A, ρ, st, c, s2, r, ef, q⟩ => by
    obtain ⟨c1, s1, e1, ef⟩ := Out.bind_ok (show (evS cl s st).bind _ = _ from ef)
    refine ⟨A, ρ, st, c1, s1, r, e1, ?_⟩
    cases c1 with
    | nx => exact fun ρ1 σ1 H1 f1 r1 => ⟨A, ρ1, s1, c, s2, r1, ef, q.back f1⟩
    | bk => cases ef; exact q
    | ct => cases ef; exact q
    | rt d fr => cases ef; exact q
theorem d_pass : PS X (.Pass pos) (tS X.K (evS cl .pass)) := ps_pass.imp fun D σ H ⟨A, ρ, st, c, s1, r, ef, q⟩ => by
  cases ef; exact q ρ σ H Fr.refl r
theorem d_brk : PS X (.Break pos) (tS X.K (evS cl .brk)) := ps_break.imp fun D σ H ⟨A, ρ, st, c, s1, r, ef, q⟩ => by
  cases ef; exact q ρ σ H Fr.refl r
theorem d_cont : PS X (.Continue pos) (tS X.K (evS cl .cont)) := ps_continue.imp fun D σ H ⟨A, ρ, st, c, s1, r, ef, q⟩ => by
  cases ef; exact q ρ σ H Fr.refl r
theorem d_ex {e : E} (ha : PE X x (tT X.K (evT cl e))) (hs : swapsWith x none pos.line X.env = pure false) : PS X (.Expr x pos) (tS X.K (evS cl (.ex e))) := (ps_expr (pe_lk ha) hs).imp fun D σ H ⟨A, ρ, st, c, s1, r, ef, q⟩ => by
  obtain ⟨d, s2, e1, ef⟩ := Out.bind_ok (show (evE cl e st).bind _ = _ from ef)
  cases ef
  exact ⟨A, ρ, st, d, s1, r, e1, fun ρ1 v H1 f1 r1 hv => q ρ1 σ H1 f1 r1⟩
theorem d_ret {e : E} (ha : PE X x (tT X.K (evT cl e))) : PS X (.Return (some x) pos) (tS X.K (evS cl (.ret e false))) := (ps_ret (pe_lk ha)).imp fun D σ H ⟨A, ρ, st, c, s1, r, ef, q⟩ => by
  obtain ⟨d, s2, e1, ef⟩ := Out.bind_ok (show (evE cl e st).bind _ = _ from ef)
  cases ef
  exact ⟨A, ρ, st, d, s1, r, e1, fun ρ1 v H1 f1 r1 hv => q ρ1 σ v H1 f1 ⟨r1, hv⟩⟩
theorem lkF_ok {t : T} {d : D} {s0 s1 : Sta} (h : leak t s0 = .ok d s1) (ht : ∃ d, t = .v d) : t = .v d ∧ s0 = s1 := by
  obtain ⟨d', rfl⟩ := ht
  cases h
  exact ⟨rfl, rfl⟩
theorem d_retF {e : E} (ha : PE X x (tF X.K (evT cl e))) (hv : ∀ st t s1, evT cl e st = .ok t s1 → ∃ d, t = .v d) : PS X (.Return (some x) pos) (tS X.K (evS cl (.ret e true))) := (ps_ret ha).imp fun D σ H ⟨A, ρ, st, c, s1, r, ef, q⟩ => by
  obtain ⟨d, s2, e1, ef⟩ := Out.bind_ok (show (evE cl e st).bind _ = _ from ef)
  cases ef
  obtain ⟨t, s0, e2, e3⟩ := Out.bind_ok (show (evT cl e st).bind leak = _ from e1)
  obtain ⟨rfl, rfl⟩ := lkF_ok e3 (hv _ _ _ e2)
  refine ⟨A, ρ, st, .v d, _, r, e2, fun ρ1 v H1 f1 fx => q ρ1 σ v H1 f1 ?_⟩
  unfold RtOk
  rw [if_pos rfl]
  rcases fx with ⟨d', a, e1, e0, e2, n, h⟩ | ⟨h0, h1, h2⟩
  · cases e1
    exact .inl ⟨a, e0, e2, n, h⟩
  · exact .inr ⟨h0 d rfl, h1, h2⟩
theorem extO_ok {x : T} {d : D} {st s1 : Sta} {u : T} (h : extO x d st = .ok u s1) : ∃ xs ys, look x st = some (.lst xs) ∧ d = .lst ys ∧ xs.length + ys.length ≤ 1000000 ∧ put x (.lst (xs ++ ys)) st = some s1 ∧ u = .v .non := by
  unfold extO at h
  split at h
  · rename_i xs ys e
    split at h
    · rename_i hl
      split at h
      · rename_i s3 e3
        cases h
        exact ⟨xs, ys, e, rfl, hl, e3, rfl⟩
      · cases h
    · cases h
  · cases h
theorem put_repT {K : PySem.W.Frag} {A B : Addr → Prop} {ρ : Nat → Addr} {σ : L2.St} {H : Hp} {st s1 : Sta} {x : T} {v : V} {ys : Gp.D} (hp : put x ys st = some s1) (h : RepT K A ρ σ H st x v) : RepT K B ρ σ H st x v := by
  cases x with
  | slot i => exact h
  | v d =>
    cases d with
    | loc n => exact h
    | _ => unfold put at hp; cases hp
/-- o.extend(e), e a list of nobody's -/
theorem d_ext {o e : E} (hv : ∀ st t s1, evT cl e st = .ok t s1 → ∃ d, t = .v d) (hcall : PE X z (tBM X.K "list" rExtend (tT X.K (evT cl o)) (tCons (tF X.K (evT cl e)) tNil))) : PE X z (tT X.K (evT cl (.ext o e))) :=
  hcall.imp fun σ H Q ⟨A, ρ, st, u, s4, r, ef, q⟩ => by
    obtain ⟨t, s1, e1, ef⟩ := Out.bind_ok (show (evT cl o st).bind _ = _ from ef)
    split at ef
    · rename_i xs0 hx
      obtain ⟨d, s2, e2, ef⟩ := Out.bind_ok ef
      obtain ⟨t2, s0, e3, e4⟩ := Out.bind_ok (show (evT cl e s1).bind leak = _ from e2)
      obtain ⟨rfl, rfl⟩ := lkF_ok e4 (hv _ _ _ e3)
      obtain ⟨xs, ys, h1, rfl, hl, hp, rfl⟩ := extO_ok ef
      refine ⟨A, ρ, st, t, s1, r, e1, fun ρ1 v H1 f1 r1 hv1 => ⟨?_, A, ρ1, s1, _, _, r1, e3, fun ρ2 w H2 f2 fx => ?_⟩⟩
      · obtain ⟨a, vs, rfl, z1, _⟩ := (r1.look hv1 hx).lst
        exact .inl ⟨rfl, vs, z1⟩
      · rcases fx with ⟨ds, b, z1, z0, rfl, nn, r2, hc⟩ | ⟨h0, _⟩
        · cases z1
          obtain ⟨ws, hb, hr⟩ := Cont.lst.mp hc
          obtain ⟨a, vs, rfl, ha, hxs, hput⟩ := put_lst r2 (put_repT hp (r1.repT f2 hv1)) h1 hp
          obtain ⟨f4, r4⟩ := hput (vs ++ ws) (hxs.append hr)
          refine ⟨a, b, vs, ws, rfl, rfl, ha, hb, by rw [hxs.length, hr.length]; exact Nat.le_trans hl line6, ?_⟩
          exact q ρ2 .non _ ((f1.trans f2).trans ⟨f4.rho, f4.sz, f4.at_, f4.free, f4.live, f4.own, f4.busy⟩) (r4.weak fun b z => .inl z) (show V.non = V.non from rfl)
        · cases (h0 _ rfl)
    · cases ef
theorem d_retN : PS X (.Return none pos) (tS X.K (evS cl .retN)) := ps_retN.imp fun D σ H ⟨A, ρ, st, c, s1, r, ef, q⟩ => by
  cases ef
  exact q ρ σ .non H Fr.refl ⟨r, (show V.non = V.non from rfl)⟩
theorem d_if {c : C} {a b : List S} {ps qs : List Stmt} (hc : PT X x (tBo X.K (evB cl c))) (ha : PSs X ps (tS X.K (evSs cl a))) (hb : PSs X qs (tS X.K (evSs cl b))) : PS X (.If x ps qs pos) (tS X.K (evS cl (.ite c a b))) :=
  (ps_if hc ha hb).imp fun D σ H ⟨A, ρ, st, c', s2, r, ef, q⟩ => by
    obtain ⟨k, s1, e1, ef⟩ := Out.bind_ok (show (evB cl c st).bind _ = _ from ef)
    refine ⟨A, ρ, st, k, s1, r, e1, fun ρ1 H1 f1 r1 => ?_⟩
    cases k with
    | true => simp only [if_true] at ef ⊢; exact ⟨A, ρ1, s1, c', s2, r1, ef, q.back f1⟩
    | false => simp only [Bool.false_eq_true, if_false] at ef ⊢; exact ⟨A, ρ1, s1, c', s2, r1, ef, q.back f1⟩
/-- a name gets a value -/
theorem d_setv {i : Nat} {e : E} {p : Stmt} (h : PS X p (tAsg (tD X.K fun st => lk (evT cl e st)) (gName i))) : PS X p (tS X.K (evS cl (.set i e false))) := h.imp fun D σ H ⟨A, ρ, st, c, s2, r, ef, q⟩ => by
  obtain ⟨d, s1, e1, ef⟩ := Out.bind_ok (show (evE cl e st).bind _ = _ from ef)
  split at ef
  · rename_i hi
    cases ef
    refine ⟨A, ρ, st, d, s1, r, e1, fun ρ1 v H1 f1 r1 hv => ?_⟩
    obtain ⟨f2, r2⟩ := r1.setv hv hi
    exact q ρ1 _ H1 (f1.trans f2) r2
  · cases ef
theorem mkSlot_val {d : D} (h : d.obj = false) : mkSlot d = .val d := by unfold mkSlot; rw [h]; rfl
theorem mkSlot_own {d : D} (h : d.obj = true) : mkSlot d = .own d := by unfold mkSlot; rw [h]; rfl
/-- a name gets an object of its own -/
theorem d_seto {i : Nat} {e : E} {p : Stmt} (h : PS X p (tAsg (tF X.K (evT cl e)) (gName i))) (hv : ∀ st t s1, evT cl e st = .ok t s1 → ∃ d, t = .v d) : PS X p (tS X.K (evS cl (.set i e true))) := h.imp fun D σ H ⟨A, ρ, st, c, s2, r, ef, q⟩ => by
  obtain ⟨d, s1, e1, ef⟩ := Out.bind_ok (show (evE cl e st).bind _ = _ from ef)
  obtain ⟨t, s0, e2, e3⟩ := Out.bind_ok (show (evT cl e st).bind leak = _ from e1)
  obtain ⟨rfl, rfl⟩ := lkF_ok e3 (hv _ _ _ e2)
  split at ef
  · rename_i hi
    cases ef
    refine ⟨A, ρ, st, .v d, _, r, e2, fun ρ1 v H1 f1 fx => ?_⟩
    have fx0 := fx.rep r
    rcases fx with ⟨ds, a, e1, e0, rfl, n, h1, h2⟩ | ⟨h0, h1, h2⟩
    · cases e1
      rw [if_pos rfl, mkSlot_own e0] at q
      have na : ¬ A a := fun z => by
        rcases n with n | n
        · obtain ⟨o, e1, _⟩ := r.tr a z
          rw [n] at e1; cases e1
        · obtain ⟨j, d', e1, e2⟩ := n
          obtain ⟨b, e3, nb, _⟩ := r.own j d' e1
          rw [e2] at e3; cases e3
          exact nb z
      have r2 := h1.seto na e0 h2 hi
      refine q ρ1 _ H1 ⟨f1.rho, f1.sz, f1.at_, f1.free, f1.live, fun b hb => ?_, fun j z => ?_⟩ r2
      case refine_2 =>
        obtain ⟨ne, z⟩ := busy_set (fun z => by cases z) z
        obtain ⟨y1, y2⟩ := f1.busy j z
        exact ⟨y1, by rw [List.getElem?_set_ne (fun y => ne y.symm)]⟩
      obtain ⟨j, d', z1, z2⟩ := hb
      rcases getElem?_set' z1 with ⟨y1, y⟩ | ⟨ne, y⟩
      · rcases getElem?_set' z2 with ⟨_, w⟩ | ⟨ne, _⟩
        · cases w
          exact n.elim Or.inr Or.inl
        · exact absurd y1 ne
      · rcases getElem?_set' z2 with ⟨y1, _⟩ | ⟨_, w⟩
        · exact absurd y1 ne
        · exact f1.own b ⟨j, d', y, w⟩
    · have hd : mkSlot d = .val d := mkSlot_val (h0 d rfl)
      obtain ⟨f2, r2⟩ := h1.setv (d := d) (v := v) h2 hi
      refine q ρ1 _ H1 ?_ ?_
      · rw [if_pos rfl, hd]; exact f1.trans f2
      · rw [if_pos rfl, hd]; exact r2
  · cases ef
theorem d_asg {g : G} {e : E} {W : List Nat} {p : Stmt} (h : PS X p (tAsg (tD X.K fun st => lk (evT cl e st)) (tG X.K W (evG cl g)))) : PS X p (tS X.K (evS cl (.asg g e))) := h.imp fun D σ H ⟨A, ρ, st, c, s3, r, ef, q⟩ => by
  obtain ⟨d, s1, e1, ef⟩ := Out.bind_ok (show (evE cl e st).bind _ = _ from ef)
  obtain ⟨_, s2, e2, ef⟩ := Out.bind_ok ef
  cases ef
  exact ⟨A, ρ, st, d, s1, r, e1, fun ρ1 v H1 f1 r1 hv => ⟨A, ρ1, s1, d, s3, r1, hv, e2, fun ρ2 σ2 H2 _ f2 r2 => q ρ2 σ2 H2 (f1.trans f2) r2⟩⟩
theorem d_aug {i : Nat} {op : BOp} {e : E} {p : Stmt} (h : PS X p (tAug i (tD X.K fun st => lk (evT cl e st)) (rIntF (intF op)))) : PS X p (tS X.K (evS cl (.aug i op e))) := h.imp fun D σ H ⟨A, ρ, st, c, s3, r, ef, q⟩ => by
  unfold evS at ef
  cases e0 : st.env[i]? with
  | none => simp only [e0] at ef; cases ef
  | some s =>
    cases s with
    | val dx =>
      simp only [e0] at ef
      obtain ⟨dy, s1, e1, ef⟩ := Out.bind_ok ef
      obtain ⟨v, hv, hr⟩ := r.val i _ e0
      split at ef
      · rename_i a b zz hz
        split at ef
        · rename_i hi
          cases ef
          obtain ⟨i', j', k', q1, q2, q3, q4⟩ | ⟨_, _, _, z, _⟩ := binF_int hz
          · cases q1; cases q2
            subst q4
            refine ⟨v, hv, A, ρ, st, _, s1, r, e1, fun ρ1 w H1 f1 r1 hw => ⟨_, _, k', hr, hw, q3, ?_⟩⟩
            obtain ⟨f2, r2⟩ := r1.setv (d := .int k') (v := .int k') (show V.int k' = V.int k' from rfl) hi
            exact q ρ1 _ H1 (f1.trans f2) r2
          · cases z
        · cases ef
      · cases ef
    | _ => simp only [e0] at ef; cases ef

/-! ### loops -/
section
variable {K : PySem.W.Frag} {A B : Addr → Prop} {ρ ρ' : Nat → Addr} {σ σ' : L2.St} {H H' : Hp} {st st' : Sta}
/-- slots that hold nothing any more -/
theorem Rel.reenv (r : Rel K A ρ σ H st) {env' : Env} (hl : env'.length = st.env.length) (hv : ∀ (j : Nat) (s : Slot), env'[j]? = some s → s ≠ .no → s ≠ .busy → st.env[j]? = some s) : Rel K A ρ σ H { st with env := env' } := by
  have ov : ∀ {j : Nat} {d : D}, env'[j]? = some (Slot.val d) → st.env[j]? = some (Slot.val d) := fun h => hv _ _ h (fun z => by cases z) (fun z => by cases z)
  have oo : ∀ {j : Nat} {d : D}, env'[j]? = some (Slot.own d) → st.env[j]? = some (Slot.own d) := fun h => hv _ _ h (fun z => by cases z) (fun z => by cases z)
  have hch : ∀ a, Ch A ρ σ { st with env := env' } a → Ch A ρ σ st a := fun a z => z.elim (fun z => Or.inl z) fun z => z.elim (fun z => Or.inr (Or.inl z)) fun ⟨j, d, h1, h2⟩ => Or.inr (Or.inr ⟨j, d, oo h1, h2⟩)
  have kp : Keep ρ st.S.length (Ch A ρ σ st) H ρ st.S.length (Ch A ρ σ { st with env := env' }) H := Keep.less hch fun a z => r.chH z
  refine ⟨by rw [← r.len]; exact hl, fun j d h => ?_, fun j d h => ?_, fun m xs e => ?_, r.tr, fun j k d e a h1 h2 => r.oo j k d e a (oo h1) (oo h2), r.cc, fun j d m xs h1 h2 => r.oc j d m xs (oo h1) h2, fun j d h => r.ob j d (oo h)⟩
  · obtain ⟨v, e1, q⟩ := r.val j d (ov h)
    exact ⟨v, e1, Rep.keep kp q⟩
  · obtain ⟨a, e1, na, c⟩ := r.own j d (oo h)
    exact ⟨a, e1, na, c.keep kp fun _ z => z⟩
  · obtain ⟨na, c⟩ := r.cell m xs e
    exact ⟨na, c.keep kp fun _ z => z⟩
theorem yields_held (r : Rel K A ρ σ H st) {ds : List D} {vs : List V} {a : Addr} (ha : A a) (h1 : H a = some (.lst vs)) (h2 : Reps K ρ st.S.length (Ch A ρ σ st) H ds vs) : Yields K A ρ σ H st (Itl K a) ds [] := fun B i ρ' σ' H' st' f r' hB _ _ => by
  have nl : ¬ Live ρ st.S a := fun ⟨n, xs, e, z⟩ => (r.cell n xs e).1 (by rw [z]; exact ha)
  have no : ¬ Own st.env σ a := fun ⟨j, d, e, z⟩ => by
    obtain ⟨b, e1, nb, _⟩ := r.own j d e
    rw [z] at e1; cases e1
    exact nb ha
  have hs : SqL K H' a vs := .inl (.inl (f.at_ a _ h1 nl no))
  have hr := Reps.keep (r.keepB f hB) h2
  refine ⟨fun d hd => ?_, fun hl => ⟨vs, hs, by rw [h2.length]; exact hl⟩⟩
  obtain ⟨v, e1, e2⟩ := hr.get hd
  exact ⟨⟨vs, v, hs, e1⟩, fun x H2 ⟨e, hx⟩ => by
    subst e
    have := hx vs hs
    rw [e1] at this; cases this
    exact ⟨Fr.refl, r', e2⟩⟩
end
theorem for_in {g : G} {body : List S} {W : List Nat} {D : Ends} {A : Addr → Prop} {ρ1 : Nat → Addr} {σ : L2.St} {H1 : Hp} {s1 s2 : Sta} {c : Ctl} {J : It} {ds : List Gp.D} {gd : Gd} (r1 : Rel X.K A ρ1 σ H1 s1) (hy : Yields X.K A ρ1 σ H1 s1 J ds gd) (hn : ∀ q ∈ gd, ∀ i, q.1 ≠ .slot i) (ef : loop gd (evG cl g) (evSs cl body) ds s1 = .ok c s2) (q : EndOk X.K A ρ1 σ H1 s1 c s2 D) :
    tFor (fun _ H R => R J H) (tG X.K W (evG cl g)) (tS X.K (evSs cl body)) D σ H1 := by
  refine ⟨fun i m σ2 H2 => ∃ ρ2 st2, m = ds.length - i ∧ i ≤ ds.length ∧ Fr A ρ1 σ H1 s1 ρ2 σ2 H2 st2 ∧ Rel X.K A ρ2 σ2 H2 st2 ∧ loop gd (evG cl g) (evSs cl body) (ds.drop i) st2 = .ok c s2, ⟨ds.length, ρ1, s1, by simp, Nat.zero_le _, Fr.refl, r1, ef⟩, ?_⟩
  rintro i m σ2 H2 ⟨ρ2, st2, rfl, hi, f2, r2, hl⟩
  by_cases hlt : i < ds.length
  · rw [List.drop_eq_getElem_cons hlt] at hl
    have hl' : (if gdB gd st2 then (evG cl g ds[i] st2).bind (fun _ s1 => (evSs cl body s1).bind fun c s2 => match c with
      | .nx => loop gd (evG cl g) (evSs cl body) (ds.drop (i + 1)) s2
      | .ct => loop gd (evG cl g) (evSs cl body) (ds.drop (i + 1)) s2
      | .bk => .ok .nx s2
      | .rt d fr => .ok (.rt d fr) s2) else .bad) = .ok c s2 := hl
    by_cases hgd : gdB gd st2 = true
    case neg => rw [if_neg hgd] at hl'; cases hl'
    rw [if_pos hgd] at hl'
    obtain ⟨_, s3, t1, hl'⟩ := Out.bind_ok hl'
    obtain ⟨c4, s4, t2, hl'⟩ := Out.bind_ok hl'
    obtain ⟨go, yl⟩ := (hy A i ρ2 σ2 H2 st2 f2 r2 (fun a z => .inl z) hgd fun q hq i z => absurd z (hn q hq i)).1 _ (List.getElem?_eq_getElem hlt)
    refine .inr ⟨go, fun σ' H' => ∃ ρ2 st2, i + 1 ≤ ds.length ∧ Fr A ρ1 σ H1 s1 ρ2 σ' H' st2 ∧ Rel X.K A ρ2 σ' H' st2 ∧ loop gd (evG cl g) (evSs cl body) (ds.drop (i + 1)) st2 = .ok c s2, fun σ' H' ⟨ρ3, st3, h⟩ => ⟨ds.length - (i + 1), by omega, ρ3, st3, rfl, h⟩, fun x H3 hx => ?_⟩
    obtain ⟨fy, ry, py⟩ := yl x H3 hx
    refine ⟨A, ρ2, st2, ds[i], s3, ry, py, t1, fun ρ4 σ4 H4 _ f4 r4 => ⟨A, ρ4, s3, c4, s4, r4, t2, ?_⟩⟩
    have fa := (f2.trans fy).trans f4
    cases c4 with
    | nx => exact fun ρ5 σ5 H5 f5 r5 => ⟨ρ5, s4, hlt, fa.trans f5, r5, hl'⟩
    | ct => exact fun ρ5 σ5 H5 f5 r5 => ⟨ρ5, s4, hlt, fa.trans f5, r5, hl'⟩
    | bk => cases hl'; exact fun ρ5 σ5 H5 f5 r5 => q ρ5 σ5 H5 (fa.trans f5) r5
    | rt d fr => cases hl'; exact fun ρ5 σ5 v H5 f5 r5 => q ρ5 σ5 v H5 (fa.trans f5) (r5.back fa)
  · have ei : i = ds.length := by omega
    subst ei
    rw [List.drop_length] at hl
    have hl : (if gdB gd st2 then Out.ok Ctl.nx st2 else .bad) = .ok c s2 := hl
    by_cases hgd : gdB gd st2 = true
    case neg => rw [if_neg hgd] at hl; cases hl
    rw [if_pos hgd] at hl
    cases hl
    exact .inl ⟨(hy A _ ρ2 σ2 H2 _ f2 r2 (fun a z => .inl z) hgd fun q hq i z => absurd z (hn q hq i)).2 (Nat.le_refl _), q ρ2 σ2 H2 f2 r2⟩
theorem hold_free {t : T} {st s1 : Sta} {p : Gp.D × Gd} (e : hold false t st = .ok p s1) : ∀ q ∈ p.2, ∀ i, q.1 ≠ .slot i := by
  have cell : ∀ n, cellG n st = .ok p s1 → ∀ q ∈ p.2, ∀ i, q.1 ≠ .slot i := fun n e q hq i z => by
    unfold cellG at e
    split at e
    · cases e; rw [List.mem_singleton.mp hq] at z; cases z
    · cases e
  cases t with
  | slot i =>
    unfold hold at e
    simp only at e
    cases e0 : st.env[i]? with
    | none => rw [e0] at e; cases e
    | some sl =>
      rw [e0] at e
      cases sl with
      | no => cases e
      | busy => cases e
      | own d => simp only [Bool.false_eq_true, if_false] at e; cases e; exact fun q hq => by cases hq
      | val d =>
        cases d with
        | loc n => exact cell n e
        | _ => cases e; exact fun q hq => by cases hq
  | v d =>
    cases d with
    | loc n => exact cell n e
    | _ => cases e; exact fun q hq => by cases hq
theorem evI_free {it : I} {st s1 : Sta} {ds : List Gp.D × Gd} (e : evI cl false it st = .ok ds s1) : ∀ q ∈ ds.2, ∀ i, q.1 ≠ .slot i := by
  cases it with
  | seq e' =>
    obtain ⟨t, s2, e1, ef⟩ := Out.bind_ok (show (evT cl e' st).bind _ = _ from e)
    obtain ⟨p, s3, e2, ef⟩ := Out.bind_ok ef
    have := hold_free e2
    split at ef <;> cases ef <;> exact this
  | range a b =>
    obtain ⟨_, _, _, ef⟩ := Out.bind_ok (show (intO (lk (evT cl a st))).bind _ = _ from e)
    obtain ⟨_, _, _, ef⟩ := Out.bind_ok ef
    split at ef <;> cases ef
    exact fun q hq => by cases hq
  | range1 a =>
    obtain ⟨_, _, _, ef⟩ := Out.bind_ok (show (intO (lk (evT cl a st))).bind _ = _ from e)
    split at ef <;> cases ef
    exact fun q hq => by cases hq
  | enum e' =>
    obtain ⟨t, s2, e1, ef⟩ := Out.bind_ok (show (evT cl e' st).bind _ = _ from e)
    obtain ⟨p, s3, e2, ef⟩ := Out.bind_ok ef
    have := hold_free e2
    split at ef <;> cases ef <;> exact this
  | zip a b =>
    obtain ⟨t, s2, e1, ef⟩ := Out.bind_ok (show (evT cl a st).bind _ = _ from e)
    obtain ⟨u, s3, e2, ef⟩ := Out.bind_ok ef
    obtain ⟨p, s4, e3, ef⟩ := Out.bind_ok ef
    obtain ⟨p', s5, e4, ef⟩ := Out.bind_ok ef
    have h1 := hold_free e3
    have h2 := hold_free e4
    split at ef <;> cases ef
    exact fun q hq => (List.mem_append.mp hq).elim (h1 q) (h2 q)
  | rev e' =>
    obtain ⟨t, s2, e1, ef⟩ := Out.bind_ok (show (evT cl e' st).bind _ = _ from e)
    obtain ⟨p, s3, e2, ef⟩ := Out.bind_ok ef
    have := hold_free e2
    split at ef <;> cases ef <;> exact this
theorem d_for {g : G} {it : I} {body : List S} {W : List Nat} {tgx itx : Expr} {ps : List Stmt} (hp : PassesOwn (model X.prog X.w) X.A X.env X.xe) (hc : X.calm = true) (hi : PI X tgx itx (tI X.K (evI cl false it))) (hg : PG X tgx (tG X.K W (evG cl g))) (hb : PSs X ps (tS X.K (evSs cl body)))
    (hs : ∀ x, foldedSetIterable itx X.env x = pure x) : PS X (.For tgx itx ps [] pos) (tS X.K (evS cl (.for g it body))) :=
  (ps_for hp hc hi hg hb hs).imp fun D σ H ⟨A, ρ, st, c, s2, r, ef, q⟩ => by
    obtain ⟨ds, s1, e1, ef⟩ := Out.bind_ok (show (evI cl false it st).bind _ = _ from ef)
    exact ⟨A, ρ, st, ds, s1, r, e1, fun ρ1 J H1 f1 r1 hy => for_in r1 hy (evI_free e1) ef (q.back f1)⟩
/-- over an own list: nobody touches it meanwhile -/
theorem d_forO {g : G} {i : Nat} {n : Str} {p : Pos} {body : List S} {W : List Nat} {tgx : Expr} {ps : List Stmt} (hp : PassesOwn (model X.prog X.w) X.A X.env X.xe) (hc : X.calm = true) (hN : X.N[i]? = some n) (hv : Vis X.env.scope n) (h1 : (n == ("__debug__" : Str)) = false) (h2 : (n == ("__classdict__" : Str)) = false) (hg : PG X tgx (tG X.K W (evG cl g))) (hb : PSs X ps (tS X.K (evSs cl body))) :
    PS X (.For tgx (.Name n p) ps [] pos) (tS X.K (evS cl (.forO i g body))) :=
  (ps_for hp hc (pi_list (pe_var hN hv h1 h2)) hg hb (fun _ => rfl)).imp fun D σ H ⟨A, ρ, st, c, s2, r, ef, q⟩ => by
    unfold evS at ef
    split at ef
    · rename_i xs e
      obtain ⟨c1, s1, el, ef⟩ := Out.bind_ok ef
      obtain ⟨v, ev, fg, fx⟩ := r.given e
      rcases fx with ⟨ds, a, e1, e0, rfl, nn, rg, hcc⟩ | ⟨h0, _⟩
      · cases e1
        obtain ⟨vs, hH, hr⟩ := Cont.lst.mp hcc
        have rb : Rel X.K (And1 A a) ρ σ H { st with env := st.env.set i .busy } := by
          refine rg.reenv (by rw [List.length_set]; exact List.length_set.symm) fun j s h _ hs => ?_
          rcases getElem?_set' h with ⟨_, z⟩ | ⟨ne, z⟩
          · exact absurd z hs
          · show (st.env.set i .no)[j]? = some s
            rw [List.getElem?_set_ne (fun y => ne y.symm)]
            exact z
        have hy : Yields X.K (And1 A a) ρ σ H { st with env := st.env.set i .busy } (Itl X.K a) xs [] := by
          refine yields_held rb (.inr rfl) hH (Reps.keep (Keep.less (fun b z => ?_) fun b z => rg.chH z) hr)
          rcases z with z | z | ⟨j, d, z1, z2⟩
          · exact .inl z
          · exact .inr (.inl z)
          · refine .inr (.inr ⟨j, d, ?_, z2⟩)
            rcases getElem?_set' z1 with ⟨_, z⟩ | ⟨ne, z⟩
            · cases z
            · show (st.env.set i .no)[j]? = _
              rw [List.getElem?_set_ne (fun y => ne y.symm)]
              exact z
        have ownb : ∀ b, Own (st.env.set i .busy) σ b → Own st.env σ b := fun b ⟨j, d, z1, z2⟩ => by
          rcases getElem?_set' z1 with ⟨_, z⟩ | ⟨ne, z⟩
          · cases z
          · exact ⟨j, d, z, z2⟩
        have na : ¬ A a := fun z => by
          rcases nn with n | n
          · obtain ⟨o, e1, _⟩ := r.tr a z
            rw [n] at e1; cases e1
          · obtain ⟨j, d', e1, e2⟩ := n
            obtain ⟨b, e3, nb, _⟩ := r.own j d' e1
            rw [e2] at e3; cases e3
            exact nb z
        have hown : Own st.env σ a := ⟨i, _, e, ev⟩
        refine ⟨.ref a, ev, a, rfl, ⟨vs, .inl (.inl hH)⟩, for_in rb hy (fun q hq => by cases hq) el ?_⟩
        split at ef
        · rename_i hb1
          cases ef
          intro ρ' σ' H' f r'
          have hσ : σ'[i]? = some (some (V.ref a)) := ((f.busy i hb1).2).trans ev
          have hi : i < s1.env.length := (List.getElem?_eq_some_iff.mp hb1).1
          have e1 : σ'.set i (some (V.ref a)) = σ' := by
            apply List.ext_getElem?
            intro j
            by_cases y : j = i
            · subst y
              rw [List.getElem?_set_self (by rw [← r'.len]; exact hi), hσ]
            · rw [List.getElem?_set_ne (fun z => y z.symm)]
          have nl : ¬ Live ρ ({ st with env := st.env.set i .busy } : Sta).S a := fun ⟨n, xs, e, z⟩ => (rb.cell n xs e).1 (by rw [z]; exact .inr rfl)
          have no : ¬ Own ({ st with env := st.env.set i .busy } : Sta).env σ a := fun ⟨j, d, e, z⟩ => by
            obtain ⟨b, e1, nb, _⟩ := rb.own j d e
            rw [z] at e1; cases e1
            exact nb (.inr rfl)
          have hH' : H' a = some (.lst vs) := f.at_ a _ hH nl no
          have r3 := r'.seto (i := i) (ds := .lst xs) na rfl (Cont.lst.mpr ⟨vs, hH', Reps.keep (rb.keep f) (Reps.keep (Keep.less (fun b z => z) fun b z => rb.chH z) (by
            refine Reps.keep (Keep.less (fun b z => ?_) fun b z => rg.chH z) hr
            rcases z with z | z | ⟨j, d, z1, z2⟩
            · exact .inl z
            · exact .inr (.inl z)
            · refine .inr (.inr ⟨j, d, ?_, z2⟩)
              rcases getElem?_set' z1 with ⟨_, z⟩ | ⟨ne, z⟩
              · cases z
              · show (st.env.set i .no)[j]? = _
                rw [List.getElem?_set_ne (fun y => ne y.symm)]
                exact z))⟩) hi
          rw [e1] at r3
          refine q ρ' σ' H' ⟨f.rho, f.sz, fun b o z1 z2 z3 => f.at_ b o z1 z2 fun y => z3 (ownb b y), f.free, (fun b z => (f.live b z).imp id fun z => z.imp (ownb b) id), fun b ⟨j, d, z1, z2⟩ => ?_, fun j z => ?_⟩ r3
          · rcases getElem?_set' z1 with ⟨y1, _⟩ | ⟨_, y⟩
            · subst y1
              rw [hσ] at z2; cases z2
              exact .inl hown
            · exact (f.own b ⟨j, d, y, z2⟩).imp (ownb b) id
          · obtain ⟨ne, z⟩ := busy_set (fun z => by cases z) z
            obtain ⟨y1, y2⟩ := f.busy j z
            rcases getElem?_set' y1 with ⟨y, _⟩ | ⟨_, y⟩
            · exact absurd y ne
            · exact ⟨y, y2⟩
        · rename_i d fr hb1
          cases ef
          intro ρ' σ' v H' f rt
          have frame : Fr A ρ σ H st ρ' σ' H' { s1 with env := s1.env.set i .no } := by
            refine ⟨f.rho, f.sz, fun b o z1 z2 z3 => f.at_ b o z1 z2 fun y => z3 (ownb b y), f.free, (fun b z => (f.live b z).imp id fun z => z.imp (ownb b) id), fun b ⟨j, d, z1, z2⟩ => ?_, fun j z => ?_⟩
            · rcases getElem?_set' z1 with ⟨_, z⟩ | ⟨_, y⟩
              · cases z
              · exact (f.own b ⟨j, d, y, z2⟩).imp (ownb b) id
            · obtain ⟨ne, z⟩ := busy_set (fun z => by cases z) z
              obtain ⟨y1, y2⟩ := f.busy j z
              rcases getElem?_set' y1 with ⟨y, _⟩ | ⟨_, y⟩
              · exact absurd y ne
              · exact ⟨y, y2⟩
          have re : ∀ {B : Addr → Prop}, Rel X.K B ρ' σ' H' s1 → Rel X.K B ρ' σ' H' { s1 with env := s1.env.set i .no } := fun {B} r => r.reenv List.length_set fun j s h hs _ => by
            rcases getElem?_set' h with ⟨_, z⟩ | ⟨_, z⟩
            · exact absurd z hs
            · exact z
          have che : ∀ {B B' : Addr → Prop}, (∀ b, B' b → B b) → ∀ b, Ch B' ρ' σ' { s1 with env := s1.env.set i .no } b → Ch B ρ' σ' s1 b := fun {B B'} hB b z => by
            rcases z with z | z | ⟨j, d, z1, z2⟩
            · exact .inl (hB b z)
            · exact .inr (.inl z)
            · refine .inr (.inr ⟨j, d, ?_, z2⟩)
              rcases getElem?_set' z1 with ⟨_, z⟩ | ⟨_, z⟩
              · cases z
              · exact z
          refine q ρ' σ' v H' frame ?_
          unfold RtOk at rt ⊢
          split
          · rename_i hfr
            rw [if_pos hfr] at rt
            rcases rt with ⟨b, y1, y2, n, z1, z2⟩ | ⟨h0, z1, z2⟩
            · exact .inl ⟨b, y1, y2, n.imp id (ownb b), (re z1).weak (fun b z => z.imp .inl id), z2.keep (Keep.less (che fun b z => z.imp .inl id) fun b z => z1.chH z) fun _ z => z⟩
            · exact .inr ⟨h0, (re z1).weak (fun b z => .inl z), Rep.keep (Keep.less (che fun b z => .inl z) fun b z => z1.chH z) z2⟩
          · rename_i hfr
            rw [if_neg hfr] at rt
            exact ⟨(re rt.1).weak (fun b z => .inl z), Rep.keep (Keep.less (che fun b z => .inl z) fun b z => rt.1.chH z) rt.2⟩
        · cases ef
      · cases (h0 _ rfl)
    · cases ef
theorem d_wh {c : C} {body : List S} {ps : List Stmt} (hp : PassesOwn (model X.prog X.w) X.A X.env X.xe) (hc : PT X x (tBo X.K (evB cl c))) (hb : PSs X ps (tS X.K (evSs cl body))) : PS X (.While x ps [] pos) (tS X.K (evS cl (.wh c body))) :=
  (ps_while hp hc hb).imp fun D σ H ⟨A, ρ, st, c', s2, r, ef, q⟩ => by
    have ef : whil (evB cl c) (evSs cl body) fuel st = .ok c' s2 := ef
    refine ⟨fun m σ2 H2 => ∃ ρ2 st2, Fr A ρ σ H st ρ2 σ2 H2 st2 ∧ Rel X.K A ρ2 σ2 H2 st2 ∧ whil (evB cl c) (evSs cl body) m st2 = .ok c' s2, ⟨fuel, ρ, st, Fr.refl, r, ef⟩, ?_⟩
    rintro m σ2 H2 ⟨ρ2, st2, f2, r2, hw⟩
    cases m with
    | zero => cases hw
    | succ m =>
      obtain ⟨k, s3, t1, hw⟩ := Out.bind_ok (show (evB cl c st2).bind _ = _ from hw)
      refine ⟨A, ρ2, st2, k, s3, r2, t1, fun ρ3 H3 f3 r3 => ?_⟩
      cases k with
      | true =>
        simp only [if_true] at hw ⊢
        obtain ⟨c4, s4, t2, hw⟩ := Out.bind_ok hw
        refine ⟨fun σ' H' => ∃ ρ2 st2, Fr A ρ σ H st ρ2 σ' H' st2 ∧ Rel X.K A ρ2 σ' H' st2 ∧ whil (evB cl c) (evSs cl body) m st2 = .ok c' s2, fun σ' H' h => ⟨m, Nat.lt_succ_self _, h⟩, A, ρ3, s3, c4, s4, r3, t2, ?_⟩
        have fa := f2.trans f3
        cases c4 with
        | nx => exact fun ρ5 σ5 H5 f5 r5 => ⟨ρ5, s4, fa.trans f5, r5, hw⟩
        | ct => exact fun ρ5 σ5 H5 f5 r5 => ⟨ρ5, s4, fa.trans f5, r5, hw⟩
        | bk => cases hw; exact fun ρ5 σ5 H5 f5 r5 => q ρ5 σ5 H5 (fa.trans f5) r5
        | rt d fr => cases hw; exact fun ρ5 σ5 v H5 f5 r5 => q ρ5 σ5 v H5 (fa.trans f5) (r5.back fa)
      | false =>
        simp only [Bool.false_eq_true, if_false] at hw ⊢
        cases hw
        exact q ρ3 σ2 H3 (f2.trans f3) r3
end
end Gp

/-! Gp, part P: constants of the module, new cells, dicts asked, instances. -/
namespace Gp
open PySem L2

section
variable [Cfg] {K : PySem.W.Frag} {A B : Addr → Prop} {ρ ρ' : Nat → Addr} {σ σ' : L2.St} {H H' : Hp} {st st' s1 : Sta} {n : Nat} {L : Addr → Prop}
theorem not_A {a : Addr} (r : Rel K A ρ σ H st) (n : H a = none ∨ Own st.env σ a) : ¬ A a := fun z => by
  rcases n with n | n
  · obtain ⟨o, e1, _⟩ := r.tr a z
    rw [n] at e1; cases e1
  · obtain ⟨j, d', e1, e2⟩ := n
    obtain ⟨b, e3, nb, _⟩ := r.own j d' e1
    rw [e2] at e3; cases e3
    exact nb z
/-- what an attribute holds -/
theorem fget_val {x : Nat} {d : D} : ∀ {ns : List Nat} {ds : List D} {fs : List (Str × V)}, fs.map (·.1) = ns.map Cfg.aN → Reps K ρ n L H ds (fs.map (·.2)) → fgetL ns ds x = some d → ∃ v, fs.lookup (Cfg.aN x) = some v ∧ Rep K ρ n L H d v
  | [], ds, fs, h1, h2, e => by cases e
  | m :: ns, [], fs, h1, h2, e => by cases e
  | m :: ns, d0 :: ds, [], h1, h2, e => by cases h1
  | m :: ns, d0 :: ds, f :: fs, h1, h2, e => by
    rw [List.map_cons, List.map_cons] at h1
    injection h1 with a1 a2
    obtain ⟨v, r, e', q1, q2⟩ := h2
    rw [List.map_cons] at e'
    injection e' with b1 b2
    subst b1 b2
    have e : (if m = x then some d0 else fgetL ns ds x) = some d := e
    obtain ⟨g, w⟩ := f
    by_cases hm : m = x
    · rw [if_pos hm] at e
      cases e
      refine ⟨w, ?_, q1⟩
      have hg : g = Cfg.aN x := by rw [← hm]; exact a1
      simp [List.lookup, hg]
    · rw [if_neg hm] at e
      obtain ⟨u, u1, u2⟩ := fget_val a2 q2 e
      refine ⟨u, ?_, u2⟩
      have hg : ¬ Cfg.aN x = g := fun z => hm (Cfg.inj _ _ (by rw [z]; exact a1.symm))
      have hb : (Cfg.aN x == g) = false := beq_eq_false_iff_ne.mpr hg
      simp [List.lookup, hb, u1]
theorem fput_val {x : Nat} {d : D} {v : V} (hd : Rep K ρ n L H d v) : ∀ {ns : List Nat} {ds : List D} {fs : List (Str × V)}, fs.map (·.1) = ns.map Cfg.aN → Reps K ρ n L H ds (fs.map (·.2)) →
    (putF (Cfg.aN x) v fs).map (·.1) = (fputL ns ds x d).1.map Cfg.aN ∧ Reps K ρ n L H (fputL ns ds x d).2 ((putF (Cfg.aN x) v fs).map (·.2))
  | [], ds, [], h1, h2 => by
    rw [show ds = [] by
      cases ds with
      | nil => rfl
      | cons d ds => obtain ⟨_, _, e, _⟩ := h2; cases e]
    exact ⟨rfl, v, [], rfl, hd, rfl⟩
  | [], ds, f :: fs, h1, h2 => by cases h1
  | m :: ns, ds, [], h1, h2 => by cases h1
  | m :: ns, [], f :: fs, h1, h2 => by cases (show _ = [] from h2)
  | m :: ns, d0 :: ds, f :: fs, h1, h2 => by
    rw [List.map_cons, List.map_cons] at h1
    injection h1 with a1 a2
    obtain ⟨w, r, e', q1, q2⟩ := h2
    rw [List.map_cons] at e'
    injection e' with b1 b2
    subst b1 b2
    obtain ⟨g, w⟩ := f
    have red : fputL (m :: ns) (d0 :: ds) x d = if m = x then (m :: ns, d :: ds) else ((m :: (fputL ns ds x d).1), (d0 :: (fputL ns ds x d).2)) := rfl
    have red2 : putF (Cfg.aN x) v ((g, w) :: fs) = if g = Cfg.aN x then (g, v) :: fs else (g, w) :: putF (Cfg.aN x) v fs := rfl
    rw [red, red2]
    by_cases hm : m = x
    · have hg : g = Cfg.aN x := by rw [← hm]; exact a1
      rw [if_pos hm, if_pos hg]
      exact ⟨by rw [List.map_cons, List.map_cons, a2]; exact congrArg (· :: _) a1, v, _, rfl, hd, q2⟩
    · have hg : ¬ g = Cfg.aN x := fun z => hm (Cfg.inj _ _ (by rw [← z]; exact a1.symm))
      rw [if_neg hm, if_neg hg]
      obtain ⟨u1, u2⟩ := fput_val hd a2 q2
      exact ⟨by rw [List.map_cons, List.map_cons, u1]; exact congrArg (· :: _) a1, w, _, rfl, q1, u2⟩
theorem lookup_no {m : Str} (h : ∀ i, Cfg.aN i ≠ m) : ∀ {ns : List Nat} {fs : List (Str × V)}, fs.map (·.1) = ns.map Cfg.aN → fs.lookup m = none
  | _, [], _ => rfl
  | [], f :: fs, e => by cases e
  | i :: ns, f :: fs, e => by
    rw [List.map_cons, List.map_cons] at e
    injection e with a1 a2
    obtain ⟨g, w⟩ := f
    have hb : (m == g) = false := beq_eq_false_iff_ne.mpr fun z => h i (by rw [z]; exact a1.symm)
    simp only [List.lookup, hb]
    exact lookup_no h a2
/-- an instance in a cell: where it stands -/
theorem ins_ok (r : Rel K A ρ σ H st) {x : D} {v : V} {m c : Nat} {ns : List Nat} {ds : List D} (hv : Rep K ρ st.S.length (Ch A ρ σ st) H x v) (h : insAt x st = some (m, c, ns, ds)) :
    x = .loc m ∧ st.S[m]? = some (.o (.ins c ns ds)) ∧ v = .ref (ρ m) ∧ m < st.S.length ∧ ∃ dx fs, H (ρ m) = some (.ins (Cfg.cA c) dx fs) ∧ H dx = some (.own (ρ m)) ∧ fs.map (·.1) = ns.map Cfg.aN ∧ Reps K ρ st.S.length (Ch A ρ σ st) H ds (fs.map (·.2)) := by
  unfold insAt at h
  split at h
  · rename_i m'
    split at h
    · rename_i c' ns' ds' hm
      cases h
      obtain ⟨_, o, ho, dx, fs, rfl, h1, h2, h3⟩ := r.cell _ _ hm
      exact ⟨rfl, hm, hv.1, hv.2, dx, fs, ho, h1, h2, h3⟩
    · cases h
  · cases h
theorem fr_any {fr : Bool} {d : D} {v : V} (r : Rel K A ρ σ H st) (h : if fr = true then Fresh K A σ H st (.v d) ρ' v H' s1 else Rel K A ρ' σ H' s1 ∧ Rep K ρ' s1.S.length (Ch A ρ' σ s1) H' d v) : Rel K A ρ' σ H' s1 ∧ Rep K ρ' s1.S.length (Ch A ρ' σ s1) H' d v := by
  cases fr with
  | true => simp only [if_true] at h; exact h.rep r
  | false => simpa using h
end

section
variable [Cfg] {X : Cx} {cl : CallF} {x y z : Expr} {pos : Pos}
theorem _root_.L2.PE.or {x : Expr} {t t' : TE} (h : PE X x t) (h' : PE X x t') : PE X x (fun σ H Q => t σ H Q ∨ t' σ H Q) := ⟨fun pins s σ H Q I q => q.elim (h.run pins s σ H Q I) (h'.run pins s σ H Q I)⟩
/-- a constant of the module -/
theorem d_glob {n : Str} {v : V} {u : Value} {d : D} (hg : Gl X n) (hm : X.mg n = some u) (rv : RelV v u) (hd : (n == ("__debug__" : Str)) = false) (hr : ∀ (K : PySem.W.Frag) (ρ : Nat → Addr) (n : Nat) (L : Addr → Prop) (H : Hp), Rep K ρ n L H d v) :
    PE X (.Name n pos) (tT X.K (evT cl (.glob n d))) :=
  (pe_glob hg hm rv hd).imp fun σ H Q ⟨A, ρ, st, t, s1, r, ef, q⟩ => by
    cases ef
    exact q ρ v H Fr.refl r (hr _ _ _ _ _)
/-- a new cell -/
theorem new_imp {e : E} : ∀ σ H Q, tT X.K (evT cl (.new e)) σ H Q → tF X.K (evT cl e) σ H Q := fun σ H Q ⟨A, ρ, st, t, s2, r, ef, q⟩ => by
    obtain ⟨t0, s1, e1, ef⟩ := Out.bind_ok (show (evT cl e st).bind _ = _ from ef)
    split at ef
    · rename_i d
      split at ef
      · rename_i hd
        cases ef
        refine ⟨A, ρ, st, .v d, s1, r, e1, fun ρ1 v H1 f1 fx => ?_⟩
        rcases fx with ⟨d', a, e, e0, rfl, n, r1, c⟩ | ⟨h0, _⟩
        · cases e
          exact q _ _ H1 (f1.alloc n) (r1.alloc (not_A r n) c) ⟨by rw [rhoN_same], by show s1.S.length < (s1.S ++ [Cell.o d]).length; rw [List.length_append]; exact Nat.lt_succ_self _⟩
        · rw [h0 d rfl] at hd; cases hd
      · cases ef
    · cases ef
theorem d_new {e : E} (ha : PE X x (tF X.K (evT cl e))) : PE X x (tT X.K (evT cl (.new e))) := ha.imp new_imp
/-- {} -/
theorem d_dct0 {k : Nat} : PE X (.Dict [] [] pos) (tF X.K (evT cl (.dct0 k))) :=
  (pe_dnewK.or pe_dnewT).imp fun σ H Q ⟨A, ρ, st, t, s2, r, ef, q⟩ => by
    have ef : (if k < 2 then vO (.dct k [] []) st else .bad) = .ok t s2 := ef
    split at ef
    · rename_i hk
      cases ef
      match k, hk with
      | 0, _ => exact .inl fun p hp => q _ _ _ (Fr.laid hp) (Fresh.newO r hp rfl ⟨[], ⟨[], rfl, rfl, rfl⟩, rfl⟩)
      | 1, _ => exact .inr fun p hp => q _ _ _ (Fr.laid hp) (Fresh.newO r hp rfl ⟨[], ⟨[], rfl, rfl, rfl⟩, rfl⟩)
    · cases ef
theorem isD_of {K : PySem.W.Frag} {ρ : Nat → Addr} {n : Nat} {L : Addr → Prop} {H : Hp} {k : Nat} {ks ds : List D} {v : V} (h : Seen K ρ n L H (.dct k ks ds) v) : ∃ a, v = .ref a ∧ IsD H a := by
  obtain ⟨a, rfl, o, ha, vs, hq, _⟩ := h
  refine ⟨a, rfl, ?_⟩
  match k, hq with
  | 0, ⟨kvs, e, _⟩ => exact .inl ⟨kvs, .inl (by rw [← e]; exact ha)⟩
  | 1, ⟨kvs, e, _⟩ => exact .inr ⟨kvs, .inl (by rw [← e]; exact ha)⟩
  | _ + 2, h => exact h.elim
theorem dgetF_ok {c k d z : D} (h : dgetF c k d = some z) : ∃ t ks vs, c = .dct t ks vs ∧ keyOk t k = true ∧ z = (dgetL ks vs k).getD d := by
  unfold dgetF at h
  split at h
  · obtain ⟨h1, h2⟩ := ite_some h; exact ⟨_, _, _, rfl, h1, h2⟩
  · cases h
theorem vF_ok {o : Option D} {st s1 : Sta} {t : T} (h : vF o st = .ok t s1) : ∃ d, o = some d ∧ t = .v d ∧ s1 = st := by
  unfold vF at h
  split at h
  · cases h; exact ⟨_, rfl, rfl, rfl⟩
  · cases h
theorem dgetD_ok {K : PySem.W.Frag} {ρ : Nat → Addr} {n : Nat} {L : Addr → Prop} {H : Hp} {ks ds : List D} {key d : D} {o : Option V} {w : V} (g1 : ∀ d, dgetL ks ds key = some d → ∃ v, o = some v ∧ Rep K ρ n L H d v) (g2 : dgetL ks ds key = none → o = none) (hw : Rep K ρ n L H d w) :
    Rep K ρ n L H ((dgetL ks ds key).getD d) (o.getD w) := by
  cases h : dgetL ks ds key with
  | none => rw [g2 h]; exact hw
  | some e => obtain ⟨v, e1, q⟩ := g1 e h; rw [e1]; exact q
/-- o.get(k) -/
theorem d_dget {apos cpos : Pos} {o k : E} (hu : X.A.units + 1 < cLine) (ho : PE X x (tT X.K (evT cl o))) (hk : PE X y (tT X.K (evT cl k))) (m : M1 X x "get" apos y cpos) : PE X (.Call (.Attribute x "get" apos) [y] [] cpos) (tT X.K (evT cl (.dget o k))) :=
  (pe_dget1 hu ho (pe_lk hk) m).imp fun σ H Q ⟨A, ρ, st, t, s4, r, ef, q⟩ => by
    obtain ⟨u, s1, e1, ef⟩ := Out.bind_ok (show (evT cl o st).bind _ = _ from ef)
    split at ef
    · rename_i k0 ks0 vs0 hl
      obtain ⟨i, s2, e2, ef⟩ := Out.bind_ok ef
      split at ef
      · rename_i c hc
        obtain ⟨z, hz, rfl, rfl⟩ := vF_ok ef
        obtain ⟨t', ks, vs, rfl, hko, rfl⟩ := dgetF_ok hz
        refine ⟨A, ρ, st, u, s1, r, e1, fun ρ1 v H1 f1 r1 hv => ?_⟩
        obtain ⟨a, rfl, hd⟩ := isD_of (r1.look hv hl)
        refine ⟨a, rfl, hd, A, ρ1, s1, i, s4, r1, e2, fun ρ2 w H2 f2 r2 hw => ?_⟩
        obtain ⟨b, eb, cb⟩ := r2.look (r1.repT f2 hv) hc
        cases eb
        obtain ⟨o', g, g1, g2⟩ := dct_get cb hko hw.seen
        exact ⟨o', g, q ρ2 _ H2 (f1.trans f2) r2 (dgetD_ok g1 g2 (show V.non = V.non from rfl))⟩
      · cases ef
    · cases ef
/-- o.get(k, d) -/
theorem d_dgetd {apos cpos : Pos} {o k d : E} (hu : X.A.units + 1 < cLine) (ho : PE X x (tT X.K (evT cl o))) (hk : PE X y (tT X.K (evT cl k))) (hd : PE X z (tT X.K (evT cl d))) (m : M2 X x "get" apos y z cpos) : PE X (.Call (.Attribute x "get" apos) [y, z] [] cpos) (tT X.K (evT cl (.dgetd o k d))) :=
  (pe_dget2 hu ho (pe_lk hk) (pe_lk hd) m).imp fun σ H Q ⟨A, ρ, st, t, s4, r, ef, q⟩ => by
    obtain ⟨u, s1, e1, ef⟩ := Out.bind_ok (show (evT cl o st).bind _ = _ from ef)
    split at ef
    · rename_i k0 ks0 vs0 hl
      obtain ⟨i, s2, e2, ef⟩ := Out.bind_ok ef
      obtain ⟨e, s3, e3, ef⟩ := Out.bind_ok ef
      split at ef
      · rename_i c hc
        obtain ⟨zz, hz, rfl, rfl⟩ := vF_ok ef
        obtain ⟨t', ks, vs, rfl, hko, rfl⟩ := dgetF_ok hz
        refine ⟨A, ρ, st, u, s1, r, e1, fun ρ1 v H1 f1 r1 hv => ?_⟩
        obtain ⟨a, rfl, hd⟩ := isD_of (r1.look hv hl)
        refine ⟨a, rfl, hd, A, ρ1, s1, i, s2, r1, e2, fun ρ2 w H2 f2 r2 hw => ⟨A, ρ2, s2, e, s4, r2, e3, fun ρ3 w3 H3 f3 r3 hw3 => ?_⟩⟩
        obtain ⟨b, eb, cb⟩ := r3.look (r2.repT f3 (r1.repT f2 hv)) hc
        cases eb
        obtain ⟨o', g, g1, g2⟩ := dct_get cb hko (r2.rep f3 hw).seen
        exact ⟨o', g, q ρ3 _ H3 ((f1.trans f2).trans f3) r3 (dgetD_ok g1 g2 hw3)⟩
      · cases ef
    · cases ef
/-- o.f -/
theorem d_fld {o : E} {n : Nat} {cs : List Nat} (ho : PE X x (tT X.K (evT cl o))) (hb : attributeBase x (Cfg.aN n) X.env (eval x X.env) = eval x X.env) (hc : ∀ c ∈ cs, Cls X.K (Cfg.cA c) ∧ NoAttr X.K (Cfg.cA c) (Cfg.aN n)) :
    PE X (.Attribute x (Cfg.aN n) pos) (tT X.K (evT cl (.fld o n cs))) :=
  (pe_fld (pe_lk ho) hb).imp fun σ H Q ⟨A, ρ, st, t, s4, r, ef, q⟩ => by
    obtain ⟨u, s1, e1, ef⟩ := Out.bind_ok (show (lk (evT cl o st)).bind _ = _ from ef)
    split at ef
    · rename_i m c ns ds hi
      split at ef
      · rename_i hcs
        obtain ⟨d, hd, rfl, rfl⟩ := vF_ok ef
        refine ⟨A, ρ, st, u, s4, r, e1, fun ρ1 v H1 f1 r1 hv => ?_⟩
        obtain ⟨_, _, rfl, _, dx, fs, h1, h2, h3, h4⟩ := ins_ok r1 hv hi
        obtain ⟨w, hw, hr⟩ := fget_val h3 h4 hd
        exact ⟨_, _, dx, fs, w, rfl, h1, (hc c hcs).1, (hc c hcs).2, hw, q ρ1 w H1 f1 r1 hr⟩
      · cases ef
    · cases ef
/-- o.f = e -/
theorem d_fset {o e : E} {n : Nat} {cs : List Nat} {pos' : Pos} (ho : PE X x (tT X.K (evT cl o))) (he : PE X y (tT X.K (evT cl e))) (hs : swapsWith y (some (.Attribute x (Cfg.aN n) pos')) pos.line X.env = pure false) (hc : ∀ c ∈ cs, Cls X.K (Cfg.cA c) ∧ NoAttr X.K (Cfg.cA c) (Cfg.aN n)) :
    PS X (.Assign [.Attribute x (Cfg.aN n) pos'] y pos) (tS X.K (evS cl (.fset o n cs e))) :=
  (ps_fld (pe_lk ho) (pe_lk he) hs).imp fun D σ H ⟨A, ρ, st, c', s4, r, ef, q⟩ => by
    obtain ⟨d, s1, e1, ef⟩ := Out.bind_ok (show (evE cl e st).bind _ = _ from ef)
    obtain ⟨u, s2, e2, ef⟩ := Out.bind_ok ef
    split at ef
    · rename_i m c ns ds hi
      split at ef
      · rename_i hcs
        cases ef
        refine ⟨A, ρ, st, d, s1, r, e1, fun ρ1 w H1 f1 r1 hw => ⟨A, ρ1, s1, u, s2, r1, e2, fun ρ2 v H2 f2 r2 hv => ?_⟩⟩
        obtain ⟨_, hm, rfl, _, dx, fs, h1, h2, h3, h4⟩ := ins_ok r2 hv hi
        obtain ⟨u1, u2⟩ := fput_val (x := n) (r1.rep f2 hw) h3 h4
        obtain ⟨f3, r3⟩ := r2.put_cell (ys := .ins c (fputL ns ds n d).1 (fputL ns ds n d).2) (o := .ins (Cfg.cA c) dx (putF (Cfg.aN n) w fs)) hm ⟨dx, _, rfl, h2, u1, u2⟩
        refine ⟨_, _, dx, fs, rfl, h1, (hc c hcs.1).1, (hc c hcs.1).2, ?_, q ρ2 σ _ ((f1.trans f2).trans f3) r3⟩
        have : fs.length = ns.length := by simpa using congrArg List.length h3
        omega
      · cases ef
    · cases ef
/-- C(..) -/
theorem d_make {c f : Nat} {es : List E} {np : Nat} {fr : Bool} {E0' : XK} (hnp : ∀ ds S r, cl f ds S = some r → ds.length = np) (hcall : PE X z (tMake (Cfg.cA c) (spF X.K (cl f) np fr) [] E0' (tDs X.K (evEs cl es)))) : PE X z (tT X.K (evT cl (.make c f es))) :=
  hcall.imp fun σ H Q ⟨A, ρ, st, u, s4, r, ef, q⟩ => by
    obtain ⟨ds, s1, e1, ef⟩ := Out.bind_ok (show (evEs cl es st).bind _ = _ from ef)
    split at ef
    · rename_i S' hF
      cases ef
      refine ⟨A, ρ, st, ds, s1, r, e1, fun ρ1 vs H1 f1 r1 hv => fun x dx hx hdx hne => ?_⟩
      have rl := r1.laid (o := .own x) hdx
      have hx' : upd H1 dx (.own x) x = none := by rw [upd_ne (fun z => hne z.symm)]; exact hx
      have im : ¬ Imm (.ins (Cfg.cA c) dx []) := by rintro (⟨_, h⟩ | ⟨_, _, h⟩ | ⟨_, h⟩) <;> cases h
      have rn := rl.new (o := .ins (Cfg.cA c) dx []) hx' im
      have fn : Fr A ρ1 σ H1 s1 ρ1 σ (upd (upd H1 dx (.own x)) x (.ins (Cfg.cA c) dx [])) s1 := (Fr.laid hdx).trans (Fr.laid hx')
      have hnx : H1 x = none ∨ Own s1.env σ x := .inl hx
      have ra := rn.alloc (not_A r1 hnx) (d := .ins c [] []) ⟨_, upd_same, dx, [], rfl, by rw [upd_ne hne]; exact upd_same, rfl, rfl⟩
      have fa := fn.alloc (d := .ins c [] []) hnx
      have hlen : s1.S.length < (s1.S ++ [Cell.o (.ins c [] [])]).length := by rw [List.length_append]; exact Nat.lt_succ_self _
      refine call_ok ra (ds := .loc s1.S.length :: ds) (hnp _ _ _ hF) ⟨.ref x, vs ++ [], rfl, ⟨by rw [rhoN_same], hlen⟩, by rw [List.append_nil]; exact r1.reps fa hv⟩ hF fun ρ2 v H2 f2 h2 => ?_
      obtain ⟨r2, hv2⟩ := fr_any ra h2
      refine ⟨hv2, q ρ2 _ H2 (f1.trans (fa.trans f2)) r2 ⟨?_, Nat.lt_of_lt_of_le hlen f2.sz⟩⟩
      rw [f2.rho _ hlen, rhoN_same]
    · cases ef
/-- o.m(..) -/
theorem mcall_ok {o : E} {es : List E} {m : Str} {c f : Nat} {np : Nat} {fr : Bool} {E0' : XK} {σ : L2.St} {H : Hp} {Q : VK} {A : Addr → Prop} {ρ : Nat → Addr} {st s1 s2 : Sta} {u d : D} {k : Nat} {ns : List Nat} {ds xs : List D} {S' : Store} (hm : ∀ i, Cfg.aN i ≠ m) (hnp : ∀ ds S r, cl f ds S = some r → ds.length = np)
    (r : Rel X.K A ρ σ H st) (e1 : lk (evT cl o st) = .ok u s1) (hi : insAt u s1 = some (k, c, ns, ds)) (e2 : evEs cl es s1 = .ok xs s2) (hF : cl f (.loc k :: xs) s2.S = some (d, S'))
    (q : ∀ ρ' v H', Fr A ρ σ H st ρ' σ H' ⟨s2.env, S'⟩ → Rel X.K A ρ' σ H' ⟨s2.env, S'⟩ → Rep X.K ρ' S'.length (Ch A ρ' σ ⟨s2.env, S'⟩) H' d v → (∃ ρ1 H1, Rel X.K A ρ1 σ H1 s2 ∧ Fr A ρ σ H st ρ1 σ H1 s2 ∧ Fr A ρ1 σ H1 s2 ρ' σ H' ⟨s2.env, S'⟩) → Q v H') :
    tMeth (Cfg.cA c) m (spF X.K (cl f) np fr) [] E0' (tD X.K fun st => lk (evT cl o st)) (tDs X.K (evEs cl es)) σ H Q := by
  refine ⟨A, ρ, st, u, s1, r, e1, fun ρ1 v H1 f1 r1 hv => ?_⟩
  obtain ⟨rfl, _, rfl, hk, dx, fs, h1, h2, h3, h4⟩ := ins_ok r1 hv hi
  refine ⟨_, dx, fs, rfl, h1, lookup_no hm h3, A, ρ1, s1, xs, s2, r1, e2, fun ρ2 vs H2 f2 r2 hvs => ?_⟩
  refine call_ok r2 (ds := .loc k :: xs) (hnp _ _ _ hF) ⟨_, vs ++ [], rfl, r1.rep f2 hv, by rw [List.append_nil]; exact hvs⟩ hF fun ρ3 w H3 f3 h3' => ?_
  obtain ⟨r3, hw⟩ := fr_any r2 h3'
  exact q ρ3 w H3 ((f1.trans f2).trans f3) r3 hw ⟨ρ2, H2, r2, f1.trans f2, f3⟩
theorem lookup_mem {c f : Nat} : ∀ {dm : List (Nat × Nat)}, dm.lookup c = some f → (c, f) ∈ dm
  | [], h => by cases h
  | (a, b) :: dm, h => by
    simp only [List.lookup] at h
    split at h
    · rename_i hc
      have := eq_of_beq hc
      cases h; subst this
      exact List.mem_cons_self
    · exact List.mem_cons_of_mem _ (lookup_mem h)
theorem d_mcall {o : E} {es : List E} {m : Str} {dm : List (Nat × Nat)} {E0' : XK} (hm : ∀ i, Cfg.aN i ≠ m)
    (hall : ∀ p ∈ dm, ∃ np fr, (∀ ds S r, cl p.2 ds S = some r → ds.length = np) ∧ PE X z (tMeth (Cfg.cA p.1) m (spF X.K (cl p.2) np fr) [] E0' (tD X.K fun st => lk (evT cl o st)) (tDs X.K (evEs cl es)))) :
    PE X z (tT X.K (evT cl (.mcall o m es dm))) := ⟨fun pins s σ H Q I ⟨A, ρ, st, t, s4, r, ef, q⟩ => by
  obtain ⟨u, s1, e1, ef⟩ := Out.bind_ok (show (lk (evT cl o st)).bind _ = _ from ef)
  split at ef
  · rename_i k c ns ds hi
    split at ef
    · rename_i f hf
      obtain ⟨xs, s2, e2, ef⟩ := Out.bind_ok ef
      unfold callO at ef
      split at ef
      · rename_i d S' hF
        cases ef
        obtain ⟨np, fr, hnp, hp⟩ := hall _ (lookup_mem hf)
        exact hp.run pins s σ H Q I (mcall_ok hm hnp r e1 hi e2 hF fun ρ' v H' f' r' hv _ => q ρ' v H' f' r' hv)
      · cases ef
    · cases ef
  · cases ef⟩
theorem tcallO_ok {f : Nat} {xs : List D} {st s1 : Sta} {t : T} (h : tcallO cl f xs st = .ok t s1) : ∃ d S', cl f xs st.S = some (d, S') ∧ S'.take st.S.length = st.S ∧ d.bel st.S.length = true ∧ t = .v d ∧ s1 = st := by
  unfold tcallO at h
  split at h
  · rename_i d S' hF
    split at h
    · rename_i hc
      cases h
      exact ⟨d, S', hF, storeB_eq hc.1, hc.2, rfl, rfl⟩
    · cases h
  · cases h
theorem d_tmcall {o : E} {es : List E} {m : Str} {dm : List (Nat × Nat)} {E0' : XK} (hm : ∀ i, Cfg.aN i ≠ m)
    (hall : ∀ p ∈ dm, ∃ np fr, (∀ ds S r, cl p.2 ds S = some r → ds.length = np) ∧ PE X z (tMeth (Cfg.cA p.1) m (spF X.K (cl p.2) np fr) [] E0' (tD X.K fun st => lk (evT cl o st)) (tDs X.K (evEs cl es)))) :
    PE X z (tT X.K (evT cl (.tmcall o m es dm))) := ⟨fun pins s σ H Q I ⟨A, ρ, st, t, s4, r, ef, q⟩ => by
  obtain ⟨u, s1, e1, ef⟩ := Out.bind_ok (show (lk (evT cl o st)).bind _ = _ from ef)
  split at ef
  · rename_i k c ns ds hi
    split at ef
    · rename_i f hf
      obtain ⟨xs, s2, e2, ef⟩ := Out.bind_ok ef
      obtain ⟨d, S', hF, hS, hb, rfl, rfl⟩ := tcallO_ok ef
      obtain ⟨np, fr, hnp, hp⟩ := hall _ (lookup_mem hf)
      refine hp.run pins s σ H Q I (mcall_ok hm hnp r e1 hi e2 hF fun ρ' v H' f' r' hv ⟨ρ1, H1, r1, f1, f2⟩ => ?_)
      obtain ⟨f3, r3, h3⟩ := r1.trim r' f2 hS
      exact q ρ' v H' (f1.trans f3) r3 (h3 hv hb)
    · cases ef
  · cases ef⟩
theorem d_tcall {f : Nat} {es : List E} {np : Nat} {fr : Bool} {E0' : XK} (hnp : ∀ ds S r, cl f ds S = some r → ds.length = np) (hcall : PE X z (tCall (spF X.K (cl f) np fr) [] E0' (tDs X.K (evEs cl es)))) :
    PE X z (tT X.K (evT cl (.tcall f es))) := hcall.imp fun σ H Q ⟨A, ρ, st, t, s4, r, ef, q⟩ => by
  obtain ⟨xs, s2, e2, ef⟩ := Out.bind_ok (show (evEs cl es st).bind _ = _ from ef)
  obtain ⟨d, S', hF, hS, hb, rfl, rfl⟩ := tcallO_ok ef
  refine ⟨A, ρ, st, xs, s4, r, e2, fun ρ1 vs H1 f1 r1 hv => ?_⟩
  refine call_ok r1 (hnp _ _ _ hF) (by rw [List.append_nil]; exact hv) hF fun ρ2 v H2 f2 h2 => ?_
  obtain ⟨r2, hv2⟩ := fr_any r1 h2
  obtain ⟨f3, r3, h3⟩ := r1.trim r2 f2 hS
  exact q ρ2 v H2 (f1.trans f3) r3 (h3 hv2 hb)
/-- max(o, default=d), min -/
theorem d_mmd {mx : Bool} {a d : E} (hcall : PE X z (tCKw (rMm X.K mx) (tCons (tT X.K (evT cl a)) tNil) (tCons (tD X.K fun st => lk (evT cl d st)) tNil))) : PE X z (tT X.K (evT cl (.mmd mx a d))) :=
  hcall.imp fun σ H Q ⟨A, ρ, st, u, s4, r, ef, q⟩ => by
    obtain ⟨t, s1, e1, ef⟩ := Out.bind_ok (show (evT cl a st).bind _ = _ from ef)
    obtain ⟨y, s2, e2, ef⟩ := Out.bind_ok ef
    split at ef
    · rename_i c hc
      obtain ⟨zz, hz, rfl, rfl⟩ := vF_ok ef
      exact ⟨A, ρ, st, t, s1, r, e1, fun ρ1 v H1 f1 r1 hv => ⟨A, ρ1, s1, y, s4, r1, e2, fun ρ2 w H2 f2 r2 hw => ⟨A, ρ2, σ, s4, c, y, zz, v, w, rfl, rfl, r2, r2.look (r1.repT f2 hv) hc, hw, hz, fun u hu => q ρ2 u H2 (f1.trans f2) r2 hu⟩⟩⟩
    · cases ef
/-- {k: v, ..} -/
def trE (K : PySem.W.Frag) (cl : CallF) : List E → List (TE × TE)
  | k :: v :: r => (tD K fun st => lk (evT cl k st), tD K fun st => lk (evT cl v st)) :: trE K cl r
  | _ => []
def evenB : List E → Bool
  | [] => true
  | _ :: _ :: r => evenB r
  | [_] => false
def flatV : List (V × V) → List V
  | [] => []
  | p :: ps => p.1 :: p.2 :: flatV ps
theorem pairs_ok {K : PySem.W.Frag} {A : Addr → Prop} {σ : L2.St} : ∀ {es : List E} {ρ : Nat → Addr} {H : Hp} {st s1 : Sta} {xs : List D} {Q : List (V × V) → Hp → Prop}, evenB es = true → Rel K A ρ σ H st → evEs cl es st = .ok xs s1 →
    (∀ ρ' ps H', Fr A ρ σ H st ρ' σ H' s1 → Rel K A ρ' σ H' s1 → Reps K ρ' s1.S.length (Ch A ρ' σ s1) H' xs (flatV ps) → ps.length * 2 = es.length → Q ps H') → tPairs (trE K cl es) σ H Q
  | [], ρ, H, st, s1, xs, Q, _, r, ef, q => by
    cases ef
    exact q ρ [] H Fr.refl r rfl rfl
  | k :: v :: es, ρ, H, st, s1, xs, Q, he, r, ef, q => by
    obtain ⟨d1, s2, e1, ef⟩ := Out.bind_ok (show (lk (evT cl k st)).bind _ = _ from ef)
    obtain ⟨ds, s3, e2, ef⟩ := Out.bind_ok ef
    cases ef
    obtain ⟨d2, s4, e3, e2⟩ := Out.bind_ok (show (lk (evT cl v s2)).bind _ = _ from e2)
    obtain ⟨ds', s5, e4, e2⟩ := Out.bind_ok e2
    cases e2
    refine ⟨A, ρ, st, d1, s2, r, e1, fun ρ1 x H1 f1 r1 hx => ⟨A, ρ1, s2, d2, s4, r1, e3, fun ρ2 y H2 f2 r2 hy => ?_⟩⟩
    refine pairs_ok he r2 e4 fun ρ3 ps H3 f3 r3 hps hl => q ρ3 ((x, y) :: ps) H3 ((f1.trans f2).trans f3) r3 ⟨x, _, rfl, r2.rep f3 (r1.rep f2 hx), y, _, rfl, r2.rep f3 hy, hps⟩ (by simp only [List.length_cons]; omega)
  | [_], _, _, _, _, _, _, he, _, _, _ => by cases he
theorem dpairs_val {K : PySem.W.Frag} {ρ : Nat → Addr} {n : Nat} {L : Addr → Prop} {H : Hp} : ∀ {ps : List (V × V)} {xs : List D} {acc : List D × List D} {z : D} {kv0 : List (Key × V)}, Reps K ρ n L H xs (flatV ps) → (acc.1 = kv0.map (fun q => kD q.1) ∧ Reps K ρ n L H acc.2 (kv0.map (·.2))) → dpairs xs acc = some z →
    ∃ kvs : List (Key × V), ps = kvs.map (fun kv => (kV kv.1, kv.2)) ∧ ∃ vs, z = .dct 0 ((mergeK kv0 kvs).map fun q => kD q.1) vs ∧ Reps K ρ n L H vs ((mergeK kv0 kvs).map (·.2))
  | [], xs, acc, z, kv0, h, ha, e => by
    cases xs with
    | nil =>
      cases e
      exact ⟨[], rfl, acc.2, by rw [ha.1]; rfl, ha.2⟩
    | cons x xs => obtain ⟨_, _, h, _⟩ := h; cases h
  | p :: ps, xs, acc, z, kv0, h, ha, e => by
    match xs, h, e with
    | k :: w :: xs, h, e =>
      obtain ⟨x, r1, e1, hx, y, r2, e2, hy, hr⟩ := h
      cases e1
      cases e2
      have e : (if keyOk 0 k then dpairs xs (dputL acc.1 acc.2 k w) else none) = some z := e
      split at e
      · rename_i hk
        obtain ⟨key, rfl⟩ := kD_of hk
        obtain ⟨a1, a2⟩ := ha
        have hput := dputL_val kD (fun _ _ => kD_inj) key hy (kvs := kv0) (ds := acc.2) a2
        rw [← a1] at hput
        obtain ⟨kvs, e1, e2⟩ := dpairs_val (kv0 := putK kv0 key p.2) hr hput e
        refine ⟨(key, p.2) :: kvs, ?_, e2⟩
        rw [List.map_cons, ← e1]
        exact congrArg (fun v => (v, p.2) :: ps) (Rep.kD hx)
      · cases e
    | [_], h, e => cases e
    | [], h, _ => cases (show _ = [] from h)
theorem Rel.updO {K : PySem.W.Frag} {A : Addr → Prop} {ρ : Nat → Addr} {σ : L2.St} {H : Hp} {st : Sta} (r : Rel K A ρ σ H st) {p : Addr} {o : HO} (hp : A p) (ho : ¬ Imm o) : Rel K A ρ σ (upd H p o) st where
  len := r.len
  val := fun i d e => by
    obtain ⟨v, e1, q⟩ := r.val i d e
    exact ⟨v, e1, Rep.keep (Keep.updA r hp) q⟩
  own := fun i d e => by
    obtain ⟨a, e1, na, c⟩ := r.own i d e
    exact ⟨a, e1, na, c.keep (Keep.updA r hp) fun o z => by rw [upd_ne (fun y => na (by rw [y]; exact hp))]; exact z⟩
  cell := fun m xs e => by
    obtain ⟨na, c⟩ := r.cell m xs e
    exact ⟨na, c.keep (Keep.updA r hp) fun o z => by rw [upd_ne (fun y => na (by rw [y]; exact hp))]; exact z⟩
  tr := fun a ha => by
    by_cases e : a = p
    · rw [e]; exact ⟨_, upd_same, ho⟩
    · obtain ⟨o, e1, q⟩ := r.tr a ha
      exact ⟨o, by rw [upd_ne e]; exact e1, q⟩
  oo := r.oo
  cc := r.cc
  oc := r.oc
  ob := r.ob
theorem d_dctl {es : List E} {keys : List (Option Expr)} {values : List Expr} (he : evenB es = true) (hp : PPs X pos keys values (trE X.K cl es)) (hall : keys.all (·.isSome) = true) (hl : keys.length = values.length) (h0 : keys ≠ []) (h15 : keys.length ≤ 15) (hes : es.length ≤ 30) :
    PE X (.Dict keys values pos) (tF X.K (evT cl (.dctl es))) :=
  (pe_disp hp hall hl h0 h15).imp fun σ H Q ⟨A, ρ, st, t, s2, r, ef, q⟩ => by
    obtain ⟨xs, s1, e1, ef⟩ := Out.bind_ok (show (evEs cl es st).bind _ = _ from ef)
    obtain ⟨z, hz, rfl, rfl⟩ := vF_ok ef
    intro p hp
    have im : ¬ Imm (.dK []) := by rintro (⟨_, h⟩ | ⟨_, _, h⟩ | ⟨_, h⟩) <;> cases h
    have rn := r.new (o := .dK []) hp im
    refine pairs_ok he rn e1 fun ρ' ps H' f r' hps hlen => ?_
    have hpH : H' p = some (.dK []) := f.at_ p _ upd_same (fun ⟨m, d, h1, h2⟩ => (rn.cell m d h1).1 (.inr h2)) fun ⟨i, d, h1, h2⟩ => by
      obtain ⟨b, h3, nb, _⟩ := rn.own i d h1
      rw [h2] at h3; cases h3
      exact nb (.inr rfl)
    obtain ⟨kvs, e2, vs, rfl, hr⟩ := dpairs_val (kv0 := []) (acc := ([], [])) hps ⟨rfl, rfl⟩ hz
    refine ⟨hpH, kvs, e2, by
      have := congrArg List.length e2
      rw [List.length_map] at this
      omega, ?_⟩
    have im2 : ¬ Imm (.dK (mergeK [] kvs)) := by rintro (⟨_, h⟩ | ⟨_, _, h⟩ | ⟨_, h⟩) <;> cases h
    have nD : ∀ a o, H a = some o → a ≠ p := fun a o z y => by rw [y, hp] at z; cases z
    refine q ρ' _ _ ⟨f.rho, f.sz, fun a o z h1 h2 => by
      rw [upd_ne (nD a o z)]
      exact f.at_ a o (by rw [upd_ne (nD a o z)]; exact z) h1 h2, fun a z => ?_, fun a z => ?_, fun a z => ?_, f.busy⟩ (.inl ⟨_, p, rfl, rfl, rfl, .inl hp, r'.updO (.inr rfl) im2, _, upd_same, _, ⟨mergeK [] kvs, rfl, rfl, rfl⟩, Reps.keep (Keep.updA r' (.inr rfl)) hr⟩)
    · by_cases y : a = p
      · rw [y]; exact hp
      · rw [upd_ne y] at z
        have := f.free a z
        rwa [upd_ne y] at this
    · refine (f.live a z).imp id fun z => z.imp id fun z => ?_
      by_cases y : a = p
      · rw [y]; exact hp
      · rwa [upd_ne y] at z
    · refine (f.own a z).imp id fun z => ?_
      by_cases y : a = p
      · rw [y]; exact hp
      · rwa [upd_ne y] at z
end
end Gp

/-! Gp, part K: a text of Python is one of the small language: a decision, and what it shows. -/
namespace Gp
open PySem L2

/-- the attributes' names; the classes' names and their __init__; the methods: name, class, def; the module's constants -/
structure Tb where
  at_ : List Str
  cs : List Str
  ini : List Nat
  ms : List (Str × Nat × Nat)
  gl : List (Str × D)
def Tb.isM (T : Tb) (f : Nat) : Bool := T.ini.contains f || T.ms.any fun p => p.2.2 == f
def qB (f : Str) : Bool := f.cps.toList.all (· == 63)
def aName (as : List Str) (i : Nat) : Str := match as[i]? with
  | some f => f
  | none => ⟨(List.replicate (i + 1) 63).toArray⟩
def namesB (as : List Str) : Bool := decide as.Nodup && as.all fun f => !qB f
theorem qB_q (i : Nat) : qB ⟨(List.replicate (i + 1) 63).toArray⟩ = true := by
  unfold qB
  simp
theorem aName_inj {as : List Str} (h : namesB as = true) : ∀ i j, aName as i = aName as j → i = j := by
  obtain ⟨h1, h2⟩ := Bool.and_eq_true_iff.mp h
  have h1 := of_decide_eq_true h1
  have nq : ∀ f ∈ as, qB f = false := fun f hf => by simpa using List.all_eq_true.mp h2 f hf
  intro i j e
  unfold aName at e
  cases e1 : as[i]? with
  | some f =>
    cases e2 : as[j]? with
    | some g =>
      rw [e1, e2] at e
      have e : f = g := e
      subst e
      obtain ⟨hi, q1⟩ := List.getElem?_eq_some_iff.mp e1
      obtain ⟨hj, q2⟩ := List.getElem?_eq_some_iff.mp e2
      exact (List.getElem_inj h1).mp (q1.trans q2.symm)
    | none =>
      rw [e1, e2] at e
      have e : f = _ := e
      have := nq f (List.mem_of_getElem? e1)
      rw [e, qB_q] at this; cases this
  | none =>
    cases e2 : as[j]? with
    | some g =>
      rw [e1, e2] at e
      have e : _ = g := e
      have := nq g (List.mem_of_getElem? e2)
      rw [← e, qB_q] at this; cases this
    | none =>
      rw [e1, e2] at e
      have e : (⟨(List.replicate (i + 1) 63).toArray⟩ : Str) = ⟨(List.replicate (j + 1) 63).toArray⟩ := e
      injection e with e
      have := congrArg Array.size e
      simpa using this
theorem aName_ne {as : List Str} {m : Str} (h : (!(as.contains m) && !(qB m)) = true) (i : Nat) : aName as i ≠ m := fun e => by
  obtain ⟨h1, h2⟩ := Bool.and_eq_true_iff.mp h
  unfold aName at e
  cases e1 : as[i]? with
  | some f =>
    rw [e1] at e
    have e : f = m := e
    have : as.contains m = true := by rw [← e]; exact List.contains_iff_mem.mpr (List.mem_of_getElem? e1)
    rw [this] at h1; cases h1
  | none =>
    rw [e1] at e
    have e : _ = m := e
    rw [← e, qB_q] at h2; cases h2
/-- where a text stands: the def's names by slot, the scope, the block's own scope, the defs -/
structure Ce where
  N : List Str
  sc : Scope
  ow : Scope
  tab : List Def
  T : Tb

def visB (sc : Scope) (x : Str) : Bool := match sc.names.lookup x with
  | some .local => true
  | some .cell => true
  | some .free => true
  | _ => false
def locB (sc : Scope) (x : Str) : Bool := match sc.names.lookup x with
  | some .local => true
  | some .cell => true
  | _ => false
def glB (sc : Scope) (x : Str) : Bool := match sc.names.lookup x with
  | some .globalImplicit => !(x == ("__debug__" : Str)) && decide (x ≠ ("__name__" : Str))
  | _ => false
def okName (x : Str) : Bool := !(x == ("__debug__" : Str)) && !(x == ("__classdict__" : Str))
def notStar : Expr → Bool
  | .Starred .. => false
  | _ => true
def notSlice : Expr → Bool
  | .Slice .. => false
  | _ => true
def notCall : Expr → Bool
  | .Call .. => false
  | _ => true
def notSet : Expr → Bool
  | .Set .. => false
  | _ => true
def notComp : Expr → Bool
  | .ListComp .. => false
  | .SetComp .. => false
  | .DictComp .. => false
  | _ => true
def plainTest : Expr → Bool
  | .UnaryOp .Not _ _ => false
  | .BoolOp .. => false
  | .IfExp .. => false
  | .Compare .. => false
  | _ => true
def COp.plain : COp → Bool
  | .inn => false
  | .notin => false
  | _ => true
def cstB : D → Const → Bool
  | .non, .none => true
  | .bl b, .bool c => b == c
  | .int i, .int j => i == j
  | .str x, .str y => x == y
  | _, _ => false
def tabName (tab : List Def) (f : Nat) (x : Str) : Bool := match tab[f]? with
  | some df => df.name == x
  | none => false
mutual
def G.slots : G → List Nat
  | .name i => [i]
  | .tup gs => G.slotss gs
  | .sub _ _ => []
def G.slotss : List G → List Nat
  | [] => []
  | g :: gs => g.slots ++ G.slotss gs
end
mutual
def G.plain : G → Bool
  | .name _ => true
  | .tup gs => G.plains gs
  | .sub _ _ => false
def G.plains : List G → Bool
  | [] => true
  | g :: gs => g.plain && G.plains gs
end
def isFresh (tab : List Def) : E → Bool
  | .mv _ => true
  | .bin _ _ _ => true
  | .cut _ _ _ => true
  | .back _ => true
  | .lst _ => true
  | .rep _ _ => true
  | .b1 _ _ => true
  | .lrange _ _ => true
  | .lrange1 _ => true
  | .comp _ _ _ _ _ => true
  | .dct0 _ => true
  | .dctl _ => true
  | .call f _ => (match tab[f]? with
    | some df => df.fr
    | none => false)
  | .pcall f _ => (match tab[f]? with
    | some df => df.fr
    | none => false)
  | _ => false
def ownNames (N : List Str) (own : List Nat) : List (Str × Nat) := own.map fun i => (N.getD i Str.empty, i)
def cmpTest : Expr → E → Bool
  | .Compare .., .cmp .. => true
  | .Compare .., .chain .. => true
  | _, _ => false
def asName : Expr → Option (Str × Pos)
  | .Name x p => some (x, p)
  | _ => none
theorem asName_eq {e : Expr} {x : Str} {p : Pos} (h : asName e = some (x, p)) : e = .Name x p := by
  unfold asName at h
  split at h
  · cases h; rfl
  · cases h
def asBin : Expr → Option (Expr × Operator × Expr × Pos)
  | .BinOp x o y p => some (x, o, y, p)
  | _ => none
theorem asBin_eq {e : Expr} {x y : Expr} {o : Operator} {p : Pos} (h : asBin e = some (x, o, y, p)) : e = .BinOp x o y p := by
  unfold asBin at h
  split at h
  · cases h; rfl
  · cases h
def asUn : Expr → Option (UnaryOp × Expr × Pos)
  | .UnaryOp o x p => some (o, x, p)
  | _ => none
theorem asUn_eq {e : Expr} {x : Expr} {o : UnaryOp} {p : Pos} (h : asUn e = some (o, x, p)) : e = .UnaryOp o x p := by
  unfold asUn at h
  split at h
  · cases h; rfl
  · cases h
def asCmp1 : Expr → Option (Expr × CmpOp × Expr × Pos)
  | .Compare x [o] [y] p => some (x, o, y, p)
  | _ => none
theorem asCmp1_eq {e : Expr} {x y : Expr} {o : CmpOp} {p : Pos} (h : asCmp1 e = some (x, o, y, p)) : e = .Compare x [o] [y] p := by
  unfold asCmp1 at h
  split at h
  · cases h; rfl
  · cases h
def asCmp2 : Expr → Option (Expr × CmpOp × CmpOp × Expr × Expr × Pos)
  | .Compare x [o, o'] [y, z] p => some (x, o, o', y, z, p)
  | _ => none
theorem asCmp2_eq {e : Expr} {x y z : Expr} {o o' : CmpOp} {p : Pos} (h : asCmp2 e = some (x, o, o', y, z, p)) : e = .Compare x [o, o'] [y, z] p := by
  unfold asCmp2 at h
  split at h
  · cases h; rfl
  · cases h
def asBool : Expr → Option (BoolOp × Expr × Expr × List Expr × Pos)
  | .BoolOp o (x :: y :: r) p => some (o, x, y, r, p)
  | _ => none
theorem asBool_eq {e : Expr} {x y : Expr} {o : BoolOp} {r : List Expr} {p : Pos} (h : asBool e = some (o, x, y, r, p)) : e = .BoolOp o (x :: y :: r) p := by
  unfold asBool at h
  split at h
  · cases h; rfl
  · cases h
def asIfE : Expr → Option (Expr × Expr × Expr × Pos)
  | .IfExp z x y p => some (z, x, y, p)
  | _ => none
theorem asIfE_eq {e : Expr} {x y z : Expr} {p : Pos} (h : asIfE e = some (z, x, y, p)) : e = .IfExp z x y p := by
  unfold asIfE at h
  split at h
  · cases h; rfl
  · cases h
def asSub : Expr → Option (Expr × Expr × Pos)
  | .Subscript x y p => some (x, y, p)
  | _ => none
theorem asSub_eq {e : Expr} {x y : Expr} {p : Pos} (h : asSub e = some (x, y, p)) : e = .Subscript x y p := by
  unfold asSub at h
  split at h
  · cases h; rfl
  · cases h
def asSlice : Expr → Option (Option Expr × Option Expr × Option Expr × Pos)
  | .Slice l u t p => some (l, u, t, p)
  | _ => none
theorem asSlice_eq {e : Expr} {l u t : Option Expr} {p : Pos} (h : asSlice e = some (l, u, t, p)) : e = .Slice l u t p := by
  unfold asSlice at h
  split at h
  · cases h; rfl
  · cases h
def asTup : Expr → Option (List Expr × Nat × Pos)
  | .Tuple xs k p => some (xs, k, p)
  | _ => none
theorem asTup_eq {e : Expr} {xs : List Expr} {k : Nat} {p : Pos} (h : asTup e = some (xs, k, p)) : e = .Tuple xs k p := by
  unfold asTup at h
  split at h
  · cases h; rfl
  · cases h
def asLst : Expr → Option (List Expr × Pos)
  | .List xs p => some (xs, p)
  | _ => none
theorem asLst_eq {e : Expr} {xs : List Expr} {p : Pos} (h : asLst e = some (xs, p)) : e = .List xs p := by
  unfold asLst at h
  split at h
  · cases h; rfl
  · cases h
def asCall : Expr → Option (Str × Pos × List Expr × Pos)
  | .Call (.Name x px) xs [] p => some (x, px, xs, p)
  | _ => none
theorem asCall_eq {e : Expr} {x : Str} {px : Pos} {xs : List Expr} {p : Pos} (h : asCall e = some (x, px, xs, p)) : e = .Call (.Name x px) xs [] p := by
  unfold asCall at h
  split at h
  · cases h; rfl
  · cases h
def asMeth : Expr → Option (Expr × Str × Pos × List Expr × Pos)
  | .Call (.Attribute x f ap) xs [] p => some (x, f, ap, xs, p)
  | _ => none
theorem asMeth_eq {e : Expr} {x : Expr} {f : Str} {ap : Pos} {xs : List Expr} {p : Pos} (h : asMeth e = some (x, f, ap, xs, p)) : e = .Call (.Attribute x f ap) xs [] p := by
  unfold asMeth at h
  split at h
  · cases h; rfl
  · cases h
def asFld : Expr → Option (Expr × Str × Pos)
  | .Attribute x f p => some (x, f, p)
  | _ => none
theorem asFld_eq {e x : Expr} {f : Str} {p : Pos} (h : asFld e = some (x, f, p)) : e = .Attribute x f p := by
  unfold asFld at h
  split at h
  · cases h; rfl
  · cases h
def asD0 : Expr → Option Pos
  | .Dict [] [] p => some p
  | _ => none
theorem asD0_eq {e : Expr} {p : Pos} (h : asD0 e = some p) : e = .Dict [] [] p := by
  unfold asD0 at h
  split at h
  · cases h; rfl
  · cases h
def asMm : Expr → Option (Str × Pos × Expr × Option Str × Expr × Pos × Pos)
  | .Call (.Name x px) [y] [⟨k, d, kp⟩] p => some (x, px, y, k, d, kp, p)
  | _ => none
theorem asMm_eq {e y d : Expr} {x : Str} {px kp p : Pos} {k : Option Str} (h : asMm e = some (x, px, y, k, d, kp, p)) : e = .Call (.Name x px) [y] [⟨k, d, kp⟩] p := by
  unfold asMm at h
  split at h
  · cases h; rfl
  · cases h
def asDct : Expr → Option (List (Option Expr) × List Expr × Pos)
  | .Dict ks vs p => some (ks, vs, p)
  | _ => none
theorem asDct_eq {e : Expr} {ks : List (Option Expr)} {vs : List Expr} {p : Pos} (h : asDct e = some (ks, vs, p)) : e = .Dict ks vs p := by
  unfold asDct at h
  split at h
  · cases h; rfl
  · cases h
def asLc : Expr → Option (Expr × Expr × Expr × List Expr × Scope × Pos)
  | .ListComp elt [⟨tg, iter, ifs, 0⟩] scope p => some (elt, tg, iter, ifs, scope, p)
  | _ => none
theorem asLc_eq {e : Expr} {elt tg iter : Expr} {ifs : List Expr} {scope : Scope} {p : Pos} (h : asLc e = some (elt, tg, iter, ifs, scope, p)) : e = .ListComp elt [⟨tg, iter, ifs, 0⟩] scope p := by
  unfold asLc at h
  split at h
  · cases h; rfl
  · cases h
def asCst : Expr → Option (Const × Nat × Pos)
  | .Constant k a p => some (k, a, p)
  | _ => none
theorem asCst_eq {e : Expr} {k : Const} {a : Nat} {p : Pos} (h : asCst e = some (k, a, p)) : e = .Constant k a p := by
  unfold asCst at h
  split at h
  · cases h; rfl
  · cases h
/-- -1 as it stands in a slice -/
def isNeg1 (t : Expr) : Bool := match asUn t with
  | some (.USub, y, _) => (match asCst y with
    | some (.int 1, _, _) => true
    | _ => false)
  | _ => false
theorem isNeg1_eq {t : Expr} (h : isNeg1 t = true) : ∃ k p1 p2, t = .UnaryOp .USub (.Constant (.int 1) k p1) p2 := by
  unfold isNeg1 at h
  split at h
  · rename_i y p ex
    split at h
    · rename_i k p1 ey
      exact ⟨k, p1, p, by rw [asUn_eq ex, asCst_eq ey]⟩
    · cases h
  · cases h
mutual
def ckE (c : Ce) : E → Expr → Bool
  | .var i, s => (match asName s with
    | some (x, _) => decide (c.N[i]? = some x) && visB c.sc x && okName x
    | none => false)
  | .mv i, s => (match asName s with
    | some (x, _) => decide (c.N[i]? = some x) && visB c.sc x && okName x
    | none => false)
  | .cst d, s => (match asCst s with
    | some (k, _, _) => cstB d k
    | none => false)
  | .bin op a b, s => (match asBin s with
    | some (x, o, y, _) => decide (o = op.py) && ckE c a x && ckE c b y
    | none => false)
  | .neg a, s => (match asUn s with
    | some (.USub, x, _) => ckE c a x
    | _ => false)
  | .cmp op a b, s => (match asCmp1 s with
    | some (x, o, y, _) => decide (o = op.py) && notSet y && ckE c a x && ckE c b y
    | none => false)
  | .chain p q a b d, s => (match asCmp2 s with
    | some (x, o, o', y, z, _) => decide (o = p.py) && decide (o' = q.py) && notSet z && ckE c a x && ckE c b y && ckE c d z
    | none => false)
  | .and a b, s => (match asBool s with
    | some (.And, x, y, [], _) => ckE c a x && ckE c b y
    | some (.And, x, y, z :: r, p) => ckE c a x && ckE c b (.BoolOp .And (y :: z :: r) p)
    | _ => false)
  | .or a b, s => (match asBool s with
    | some (.Or, x, y, [], _) => ckE c a x && ckE c b y
    | some (.Or, x, y, z :: r, p) => ckE c a x && ckE c b (.BoolOp .Or (y :: z :: r) p)
    | _ => false)
  | .not a, s => (match asUn s with
    | some (.Not, x, _) => ckE c a x
    | _ => false)
  | .ife d a b, s => (match asIfE s with
    | some (z, x, y, _) => ckC c d z && ckE c a x && ckE c b y
    | none => false)
  | .sub a b, s => (match asSub s with
    | some (x, y, _) => notSlice y && ckE c a x && ckE c b y
    | none => false)
  | .cut a lo hi, s => (match asSub s with
    | some (x, y, _) => (match asSlice y with
      | some (l, h, none, _) => ckE c a x && ckP c lo l && ckP c hi h
      | _ => false)
    | none => false)
  | .back a, s => (match asSub s with
    | some (x, y, _) => (match asSlice y with
      | some (none, none, some t, _) => isNeg1 t && ckE c a x
      | _ => false)
    | none => false)
  | .tup es, s => (match asTup s with
    | some (xs, _, _) => ckEs c es xs
    | none => false)
  | .lst es, s => (match asLst s with
    | some (xs, _) => ckEs c es xs
    | none => false)
  | .rep es k, s => (match asBin s with
    | some (x, .Mult, y, _) => (match asLst x with
      | some (xs, _) => ckEs c es xs && ckE c k y
      | none => false)
    | _ => false)
  | .call f es, s => (match asCall s with
    | some (x, _, xs, _) => tabName c.tab f x && !c.T.isM f && glB c.sc x && ckEs c es xs
    | none => false)
  | .pcall f es, s => (match asCall s with
    | some (x, _, xs, _) => tabName c.tab f x && !c.T.isM f && glB c.sc x && ckEs c es xs
    | none => false)
  | .b1 b a, s => (match asCall s with
    | some (x, _, [y], _) => decide (x = b.py.1) && glB c.sc x && notStar y && ckE c a y
    | _ => false)
  | .b2 b a d, s => (match asCall s with
    | some (x, _, [y, z], _) => decide (x = b.py.1) && glB c.sc x && notStar y && notStar z && ckE c a y && ckE c d z
    | _ => false)
  | .lrange a b, s => (match asCall s with
    | some (x, _, [w], _) => (match asCall w with
      | some (x', _, [y, z], _) => decide (x = ("list" : Str)) && decide (x' = ("range" : Str)) && glB c.sc x && glB c.sc x' && notStar y && notStar z && ckE c a y && ckE c b z
      | _ => false)
    | _ => false)
  | .lrange1 a, s => (match asCall s with
    | some (x, _, [w], _) => (match asCall w with
      | some (x', _, [y], _) => decide (x = ("list" : Str)) && decide (x' = ("range" : Str)) && glB c.sc x && glB c.sc x' && notStar y && ckE c a y
      | _ => false)
    | _ => false)
  | .isi t a, s => (match asCall s with
    | some (x, _, [y, w], _) => (match asName w with
      | some (u, _) => decide (x = ("isinstance" : Str)) && decide (u = Str.ofString t.py) && glB c.sc x && glB c.sc u && notStar y && ckE c a y
      | none => false)
    | _ => false)
  | .meth m o es, s => (match asMeth s with
    | some (x, name, apos, ys, cpos) => decide (name = m.py.1) && (apos.endLine == cpos.line) && notCall x && decide (ys.length ≤ 2) && ckE c o x && ckEs c es ys
    | none => false)
  | .ext o e, s => (match asMeth s with
    | some (x, name, apos, [y], cpos) => decide (name = ("extend" : Str)) && (apos.endLine == cpos.line) && notCall x && notStar y && isFresh c.tab e && ckE c o x && ckE c e y
    | _ => false)
  | .comp e g it cs own, s => (match asLc s with
    | some (elt, tg, iter, ifs, scope, _) => blkC c.N c.sc scope (ownNames c.N own) && notSet iter && g.plain && g.slots.all (fun i => own.contains i) && decide (ifs.length ≤ 1) && ckI c it tg iter &&
      ckG ⟨c.N, relS scope c.sc, scope, c.tab, c.T⟩ g tg && ckCs ⟨c.N, relS scope c.sc, scope, c.tab, c.T⟩ cs ifs && ckE ⟨c.N, relS scope c.sc, scope, c.tab, c.T⟩ e elt
    | none => false)
  | .glob n d, s => (match asName s with
    | some (x, _) => decide (x = n) && glB c.sc x && c.T.gl.any fun p => decide (p.1 = n) && D.beq p.2 d
    | none => false)
  | .new e, s => isFresh c.tab e && ckE c e s
  | .dct0 _, s => (asD0 s).isSome
  | .dget o k, s => (match asMeth s with
    | some (x, name, apos, [y], cpos) => decide (name = ("get" : Str)) && (apos.endLine == cpos.line) && notCall x && notStar y && ckE c o x && ckE c k y
    | _ => false)
  | .dgetd o k d, s => (match asMeth s with
    | some (x, name, apos, [y, z], cpos) => decide (name = ("get" : Str)) && (apos.endLine == cpos.line) && notCall x && notStar y && notStar z && ckE c o x && ckE c k y && ckE c d z
    | _ => false)
  | .fld o n cs, s => (match asFld s with
    | some (x, f, _) => decide (c.T.at_[n]? = some f) && notCall x && cs.all (fun k => decide (k < c.T.cs.length)) && ckE c o x
    | none => false)
  | .make k f es, s => (match asCall s with
    | some (x, _, xs, _) => decide (c.T.cs[k]? = some x) && decide (c.T.ini[k]? = some f) && (c.tab[f]?).isSome && glB c.sc x && ckEs c es xs
    | none => false)
  | .mcall o m es dm, s => (match asMeth s with
    | some (x, name, apos, ys, cpos) => decide (name = m) && notCall x && ((apos.endLine == cpos.line) && decide (ys.length < 25)) && (!(c.T.at_.contains m) && !(qB m)) && dm.all (fun p => c.T.ms.any (fun q => decide (q = (m, p.1, p.2))) && decide (p.1 < c.T.cs.length) && (c.tab[p.2]?).isSome) && ckE c o x && ckEs c es ys
    | none => false)
  | .tcall f es, s => (match asCall s with
    | some (x, _, xs, _) => tabName c.tab f x && !c.T.isM f && glB c.sc x && ckEs c es xs
    | none => false)
  | .tmcall o m es dm, s => (match asMeth s with
    | some (x, name, apos, ys, cpos) => decide (name = m) && notCall x && ((apos.endLine == cpos.line) && decide (ys.length < 25)) && (!(c.T.at_.contains m) && !(qB m)) && dm.all (fun p => c.T.ms.any (fun q => decide (q = (m, p.1, p.2))) && decide (p.1 < c.T.cs.length) && (c.tab[p.2]?).isSome) && ckE c o x && ckEs c es ys
    | none => false)
  | .mmd mx a d, s => (match asMm s with
    | some (x, _, y, k, z, _, _) => decide (x = Str.ofString (mmName mx)) && decide (k = some ("default" : Str)) && glB c.sc x && notStar y && ckE c a y && ckE c d z
    | none => false)
  | .dctl es, s => (match asDct s with
    | some (ks, vs, _) => evenB es && decide (ks.length ≤ 15) && decide (0 < ks.length) && decide (es.length ≤ 30) && ckKVs c es ks vs
    | none => false)
def ckC (c : Ce) : C → Expr → Bool
  | .and a b, s => (match asBool s with
    | some (.And, x, y, [], _) => ckC c a x && ckC c b y
    | some (.And, x, y, z :: r, p) => ckC c a x && ckC c b (.BoolOp .And (y :: z :: r) p)
    | _ => false)
  | .or a b, s => (match asBool s with
    | some (.Or, x, y, [], _) => ckC c a x && ckC c b y
    | some (.Or, x, y, z :: r, p) => ckC c a x && ckC c b (.BoolOp .Or (y :: z :: r) p)
    | _ => false)
  | .not a, s => (match asUn s with
    | some (.Not, x, _) => ckC c a x
    | _ => false)
  | .val e, s => (plainTest s || cmpTest s e) && ckE c e s
def ckP (c : Ce) : Option E → Option Expr → Bool
  | none, x => x.isNone
  | some e, x => (match x with
    | some x => ckE c e x
    | none => false)
def ckEs (c : Ce) : List E → List Expr → Bool
  | [], xs => xs.isEmpty
  | e :: es, xs => (match xs with
    | x :: xs => notStar x && ckE c e x && ckEs c es xs
    | [] => false)
def ckKVs (c : Ce) : List E → List (Option Expr) → List Expr → Bool
  | [], ks, vs => ks.isEmpty && vs.isEmpty
  | k :: es, ks, vs => (match es, ks, vs with
    | v :: es, some k' :: ks, v' :: vs => ckE c k k' && ckE c v v' && ckKVs c es ks vs
    | _, _, _ => false)
def ckCs (c : Ce) : List C → List Expr → Bool
  | [], xs => xs.isEmpty
  | e :: es, xs => (match xs with
    | x :: xs => ckC c e x && ckCs c es xs
    | [] => false)
def ckI (c : Ce) : I → Expr → Expr → Bool
  | .seq e, _, s => ckE c e s
  | .range1 a, _, s => (match asCall s with
    | some (x, _, [y], _) => decide (x = ("range" : Str)) && glB c.sc x && notStar y && ckE c a y
    | _ => false)
  | .range a b, _, s => (match asCall s with
    | some (x, _, [y, z], _) => decide (x = ("range" : Str)) && glB c.sc x && notStar y && notStar z && ckE c a y && ckE c b z
    | _ => false)
  | .enum e, tg, s => (match asTup tg, asCall s with
    | some (_, _, _), some (x, _, [y], _) => decide (x = ("enumerate" : Str)) && glB c.sc x && notStar y && ckE c e y
    | _, _ => false)
  | .zip a b, tg, s => (match asTup tg, asCall s with
    | some (_, _, _), some (x, _, [y, z], _) => decide (x = ("zip" : Str)) && glB c.sc x && notStar y && notStar z && ckE c a y && ckE c b z
    | _, _ => false)
  | .rev e, _, s => (match asCall s with
    | some (x, _, [y], _) => decide (x = ("reversed" : Str)) && glB c.sc x && notStar y && ckE c e y
    | _ => false)
def ckG (c : Ce) : G → Expr → Bool
  | .name i, s => (match asName s with
    | some (x, _) => decide (c.N[i]? = some x) && locB c.ow x
    | none => false)
  | .tup gs, s => (match asTup s with
    | some (xs, _, _) => ckGs c gs xs
    | none => false)
  | .sub o i, s => (match asSub s with
    | some (x, y, _) => notSlice y && ckE c o x && ckE c i y
    | none => false)
def ckGs (c : Ce) : List G → List Expr → Bool
  | [], xs => xs.isEmpty
  | g :: gs, xs => (match xs with
    | x :: xs => notStar x && ckG c g x && ckGs c gs xs
    | [] => false)
end

/-- the built-ins' names -/
def bNames : List Str := ["len", "all", "any", "list", "sum", "int", "abs", "min", "max", "range", "isinstance", "bool", "str", "tuple", "enumerate", "zip", "reversed", "sorted", "dict"]
structure Okx [Cfg] (c : Ce) (n : Nat) (cl : CallF) (X : Cx) : Prop where
  N : X.N = c.N
  nd : c.N.Nodup
  sc : X.env.scope = c.sc
  st : ∀ x, locB c.ow x = true → Loc X.env.scope x ∧ (X.fn x = true ∨ X.env.scope.names.lookup x = some .local)
  calm : X.calm = true
  room : Room (n + 1) X.A
  none : ∀ x ∈ bNames, X.mg x = none
  fn : ∀ f df, c.tab[f]? = some df → ∃ fd ps, FnOk X.prog X.w X.K X.mg X.base CX0 n (Cfg.fA f) fd ps (spF X.K (cl f) df.np df.fr) ∧ PySem.W.keepIn X.K (.ref (Cfg.fA f)) = true ∧ Binds X.K fd ps []
  gfn : ∀ f df, c.tab[f]? = some df → c.T.isM f = false → X.mg df.name = some (.ref (Cfg.fA f))
  np : ∀ f df ds S r, c.tab[f]? = some df → cl f ds S = some r → ds.length = df.np
  at_ : ∀ i, Cfg.aN i = aName c.T.at_ i
  cls : ∀ k x, c.T.cs[k]? = some x → Cls X.K (Cfg.cA k) ∧ (∀ f ∈ c.T.at_, NoAttr X.K (Cfg.cA k) f) ∧ X.mg x = some (.ref (Cfg.cA k))
  ini : ∀ k f, c.T.ini[k]? = some f → Mk X.K (Cfg.cA k) (Cfg.fA f)
  ms : ∀ m k f, (m, k, f) ∈ c.T.ms → Meth X.K (Cfg.cA k) m (Cfg.fA f)
  gl : ∀ x d, (x, d) ∈ c.T.gl → ∃ v u, X.mg x = some u ∧ RelV v u ∧ ∀ (K : PySem.W.Frag) (ρ : Nat → Addr) (n : Nat) (L : Addr → Prop) (H : Hp), Rep K ρ n L H d v

section
variable [Cfg] {c : Ce} {n : Nat} {cl : CallF} {X : Cx} {x y z : Expr} {pos : Pos}
theorem vis_of (ok : Okx c n cl X) {x : Str} (h : visB c.sc x = true) : Vis X.env.scope x := by
  rw [ok.sc]
  unfold visB at h
  split at h
  · rename_i e; exact .inl e
  · rename_i e; exact .inr (.inl e)
  · rename_i e; exact .inr (.inr e)
  · cases h
theorem gl_of (ok : Okx c n cl X) {x : Str} (h : glB c.sc x = true) : Gl X x ∧ (x == ("__debug__" : Str)) = false ∧ x ≠ ("__name__" : Str) := by
  unfold glB at h
  split at h
  · rename_i e
    obtain ⟨h1, h2⟩ := Bool.and_eq_true_iff.mp h
    refine ⟨?_, by simpa using h1, of_decide_eq_true h2⟩
    show X.env.scope.names.lookup x = _
    rw [ok.sc]; exact e
  · cases h
theorem star1 {xs : List Expr} {env : PySem.Env} (h : notStar x = true) : starEach (x :: xs) env = (false, eval x env) :: starEach xs env := by
  cases x <;> first | rfl | cases h
def notStars : List Expr → Bool
  | [] => true
  | x :: xs => notStar x && notStars xs
theorem stars {env : PySem.Env} {pos : Pos} : ∀ {xs : List Expr}, notStars xs = true → (backTo pos (starEach xs env)).any (·.1) = false
  | [], _ => rfl
  | x :: xs, h => by
    obtain ⟨h1, h2⟩ := Bool.and_eq_true_iff.mp (show (notStar x && notStars xs) = true from h)
    rw [star1 h1]
    show (false || (backTo pos (starEach xs env)).any (·.1)) = false
    rw [stars h2]; rfl
theorem ck_stars : ∀ {es : List E} {xs : List Expr}, ckEs c es xs = true → notStars xs = true
  | [], [], _ => rfl
  | [], _ :: _, h => by unfold ckEs at h; cases h
  | _ :: _, [], h => by unfold ckEs at h; cases h
  | e :: es, x :: xs, h => by
    unfold ckEs at h
    have h : (notStar x && ckE c e x && ckEs c es xs) = true := h
    obtain ⟨h, h3⟩ := Bool.and_eq_true_iff.mp h
    obtain ⟨h1, h2⟩ := Bool.and_eq_true_iff.mp h
    show (notStar x && notStars xs) = true
    rw [h1, ck_stars h3]; rfl
theorem ck_len : ∀ {es : List E} {xs : List Expr}, ckEs c es xs = true → es.length = xs.length
  | [], [], _ => rfl
  | [], _ :: _, h => by unfold ckEs at h; cases h
  | _ :: _, [], h => by unfold ckEs at h; cases h
  | e :: es, x :: xs, h => by
    unfold ckEs at h
    have h : (notStar x && ckE c e x && ckEs c es xs) = true := h
    rw [List.length_cons, List.length_cons, ck_len (Bool.and_eq_true_iff.mp h).2]
theorem plainIx_of (h : notSlice y = true) : PlainIx y := by
  intro o i
  cases y <;> first | rfl | cases h
theorem nomark_of {op : CmpOp} {b : Expr} (h : notSet b = true) : behindInMarks op b = false := by
  cases b <;> first | rfl | cases h
theorem base_of {f : Str} {env : PySem.Env} {whole : Sem Value} (h : notCall x = true) : attributeBase x f env whole = whole := by
  cases x <;> first | rfl | cases h
theorem stars_all {env : PySem.Env} {pos : Pos} : ∀ {xs : List Expr}, notStars xs = true → (backTo pos (starEach xs env)).all (fun x => !x.1) = true
  | [], _ => rfl
  | x :: xs, h => by
    obtain ⟨h1, h2⟩ := Bool.and_eq_true_iff.mp (show (notStar x && notStars xs) = true from h)
    rw [star1 h1]
    show (true && (backTo pos (starEach xs env)).all (fun x => !x.1)) = true
    rw [stars_all h2]; rfl
theorem meth_eval {env : PySem.Env} {m : Str} {ys : List Expr} {apos cpos : Pos} (hn : notCall x = true) (hl : ((apos.endLine == cpos.line) && decide (ys.length < 25)) = true) (hs : notStars ys = true) :
    eval (.Call (.Attribute x m apos) ys [] cpos) env = (do
      let ov ← eval x env
      standAt apos.atName
      let (f, first) ← holding [ov] (getMethod ov m (do return (← importBound x env).getD true))
      callWith cpos f first (backTo cpos (starEach ys env)) (backToKw cpos (keywordEach [] env))) := by
  obtain ⟨h1, h2⟩ := Bool.and_eq_true_iff.mp hl
  have h2 := of_decide_eq_true h2
  have hf : methodCallForm (ys.length + ([] : List Keyword).length) (backTo cpos (starEach ys env)) (backToKw cpos (keywordEach [] env)) = true := by
    unfold methodCallForm
    rw [stars_all hs]
    simp [keywordEach, backToKw]
    omega
  show (do
      let ov ← attributeBase x m env (eval x env)
      standAt apos.atName
      methodCall x m apos cpos env ov (ys.length + ([] : List Keyword).length) (backTo cpos (starEach ys env)) (backToKw cpos (keywordEach [] env))) = _
  rw [base_of hn]
  unfold methodCall calleeOf methodCallPos
  rw [hf, h1]
  rfl
theorem test_of {env : PySem.Env} (h : plainTest x = true) : ∀ whole, isTrue x env whole = (do let v ← whole; standAt x.pos; holding [v] (truthy v)) := by
  intro whole
  cases x with
  | UnaryOp op a p => cases op <;> first | rfl | cases h
  | BoolOp => cases h
  | IfExp => cases h
  | Compare => cases h
  | _ => rfl
theorem set_of {env : PySem.Env} (h : notSet x = true) : ∀ v, foldedSetIterable x env v = pure v := by
  intro v
  cases x <;> first | rfl | cases h
theorem swap_of {t : Option Expr} {l : Nat} {env : PySem.Env} (h : notComp x = true) : swapsWith x t l env = pure false := by
  cases x <;> first | rfl | cases h
theorem boot_b1 : ∀ b : B1, bootBuiltins b.py.1 = some b.py.2 := by intro b; cases b <;> decide +kernel
theorem boot_b2 : ∀ b : B2, bootBuiltins b.py.1 = some b.py.2 := by intro b; cases b <;> decide +kernel
theorem boot_ty : ∀ t : Ty, bootBuiltins (Str.ofString t.py) = some (.type t.py) := by intro t; cases t <;> decide +kernel
theorem boot_isi : bootBuiltins ("isinstance" : Str) = some (.builtin "isinstance") := by decide +kernel
theorem b1_names : ∀ b : B1, b.py.1 ∈ bNames := by intro b; cases b <;> decide +kernel
theorem b2_names : ∀ b : B2, b.py.1 ∈ bNames := by intro b; cases b <;> decide +kernel
theorem ty_names : ∀ t : Ty, Str.ofString t.py ∈ bNames := by intro t; cases t <;> decide +kernel
end
end Gp

/-! Gp, part L: what the decision shows of expressions. -/
namespace Gp
open PySem L2

theorem and_t {a b : Bool} (h : (a && b) = true) : a = true ∧ b = true := Bool.and_eq_true_iff.mp h
theorem evT_v [Cfg] {cl : CallF} {tab : List Def} {e : E} (h : isFresh tab e = true) : ∀ st t s1, evT cl e st = .ok t s1 → ∃ d, t = .v d := by
  intro st t s1 ef
  cases e with
  | mv i =>
    unfold evT at ef
    cases e0 : st.env[i]? with
    | none => simp only [e0] at ef; cases ef
    | some s => cases s <;> simp only [e0] at ef <;> cases ef; exact ⟨_, rfl⟩
  | bin op a b => obtain ⟨_, _, _, _, _, z, _, _, _, _, _, rfl⟩ := two_ok (show two (evT cl a) (evT cl b) (binF op) st = _ from ef); exact ⟨z, rfl⟩
  | cut a lo hi =>
    obtain ⟨_, _, _, ef⟩ := Out.bind_ok (show (evT cl a st).bind _ = _ from ef)
    obtain ⟨_, _, _, ef⟩ := Out.bind_ok ef
    obtain ⟨_, _, _, ef⟩ := Out.bind_ok ef
    split at ef
    · unfold vF at ef; split at ef <;> cases ef; exact ⟨_, rfl⟩
    · cases ef
  | back a =>
    obtain ⟨_, _, _, ef⟩ := Out.bind_ok (show (evT cl a st).bind _ = _ from ef)
    split at ef <;> cases ef; exact ⟨_, rfl⟩
  | lst es =>
    obtain ⟨_, _, _, ef⟩ := Out.bind_ok (show (evEs cl es st).bind _ = _ from ef)
    split at ef <;> cases ef; exact ⟨_, rfl⟩
  | rep es k =>
    obtain ⟨_, _, _, ef⟩ := Out.bind_ok (show (evEs cl es st).bind _ = _ from ef)
    obtain ⟨_, _, _, ef⟩ := Out.bind_ok ef
    split at ef
    · unfold vF at ef; split at ef <;> cases ef; exact ⟨_, rfl⟩
    · cases ef
  | b1 b a =>
    obtain ⟨_, _, _, ef⟩ := Out.bind_ok (show (evT cl a st).bind _ = _ from ef)
    split at ef
    · unfold vF at ef; split at ef <;> cases ef; exact ⟨_, rfl⟩
    · cases ef
  | lrange a b =>
    obtain ⟨_, _, _, ef⟩ := Out.bind_ok (show (intO (lk (evT cl a st))).bind _ = _ from ef)
    obtain ⟨_, _, _, ef⟩ := Out.bind_ok ef
    split at ef <;> cases ef; exact ⟨_, rfl⟩
  | lrange1 b =>
    obtain ⟨_, _, _, ef⟩ := Out.bind_ok (show (intO (lk (evT cl b st))).bind _ = _ from ef)
    split at ef <;> cases ef; exact ⟨_, rfl⟩
  | comp e g it cs own =>
    obtain ⟨_, _, _, ef⟩ := Out.bind_ok (show (evI cl true it st).bind _ = _ from ef)
    obtain ⟨_, _, _, ef⟩ := Out.bind_ok ef
    cases ef; exact ⟨_, rfl⟩
  | call f es =>
    obtain ⟨_, _, _, ef⟩ := Out.bind_ok (show (evEs cl es st).bind _ = _ from ef)
    unfold callO at ef
    split at ef <;> cases ef; exact ⟨_, rfl⟩
  | pcall f es =>
    obtain ⟨_, _, _, ef⟩ := Out.bind_ok (show (evTs cl es st).bind _ = _ from ef)
    unfold pcallO at ef
    split at ef
    · split at ef
      · split at ef <;> cases ef; exact ⟨_, rfl⟩
      · cases ef
    · cases ef
  | dct0 k =>
    have ef : (if k < 2 then vO (.dct k [] []) st else .bad) = .ok t s1 := ef
    split at ef <;> cases ef; exact ⟨_, rfl⟩
  | dctl es =>
    obtain ⟨_, _, _, ef⟩ := Out.bind_ok (show (evEs cl es st).bind _ = _ from ef)
    unfold vF at ef; split at ef <;> cases ef; exact ⟨_, rfl⟩
  | _ => cases h

mutual
theorem evG_len {cl : CallF} : ∀ {g : G} {d : D} {st s1 : Sta}, g.plain = true → evG cl g d st = .ok () s1 → s1.env.length = st.env.length
  | .name i, d, st, s1, _, h => by
    have h : (if i < st.env.length then Out.ok () (setName i d st) else .bad) = .ok () s1 := h
    split at h <;> cases h
    exact List.length_set
  | .tup gs, d, st, s1, hp, h => by
    cases d with
    | tup ds => exact evGs_envlen hp (show evGs cl gs ds st = _ from h)
    | lst ds => exact evGs_envlen hp (show evGs cl gs ds st = _ from h)
    | _ => cases h
  | .sub _ _, _, _, _, hp, _ => by cases hp
theorem evGs_envlen {cl : CallF} : ∀ {gs : List G} {ds : List D} {st s1 : Sta}, G.plains gs = true → evGs cl gs ds st = .ok () s1 → s1.env.length = st.env.length
  | [], ds, st, s1, _, h => by
    have h : (if ds.isEmpty then Out.ok () st else .bad) = .ok () s1 := h
    split at h <;> cases h
    rfl
  | g :: gs, [], st, s1, _, h => by cases h
  | g :: gs, d :: ds, st, s1, hp, h => by
    obtain ⟨h1, h2⟩ := and_t (show (g.plain && G.plains gs) = true from hp)
    obtain ⟨_, s2, e1, h⟩ := Out.bind_ok (show (evG cl g d st).bind _ = _ from h)
    rw [evGs_envlen h2 h, evG_len h1 e1]
end

section
variable [Cfg] {c : Ce} {n : Nat} {cl : CallF} {X : Cx} {x y z : Expr} {pos : Pos}
/-- a block's context -/
theorem Okx.blk (ok : Okx c n cl X) {s : Shared} {H : Hp} {scope : Scope} {C : Addr} {cells : List (Str × Addr)} {fp : List Addr} : Okx ⟨c.N, relS scope c.sc, scope, c.tab, c.T⟩ n cl (X.blk s H scope (compEnvC scope cells C X.env) fp) where
  N := ok.N
  nd := ok.nd
  sc := by
    show relS scope X.env.scope = relS scope c.sc
    rw [ok.sc]
  st := fun x h => by
    unfold locB at h
    split at h
    · rename_i e
      have e' := lookup_relS_keep (sc := X.env.scope) (by decide) e
      exact ⟨.inl e', .inr e'⟩
    · rename_i e
      have e' := lookup_relS_keep (sc := X.env.scope) (by decide) e
      refine ⟨.inr e', .inl ?_⟩
      show (scope.names.lookup x == some .cell) = true
      rw [e]; rfl
    · cases h
  calm := ok.calm
  room := ok.room
  none := ok.none
  fn := ok.fn
  gfn := ok.gfn
  np := ok.np
  at_ := ok.at_
  cls := ok.cls
  ini := ok.ini
  ms := ok.ms
  gl := ok.gl
theorem Okx.u66 (ok : Okx c n cl X) : X.A.units + 66 < cLine := by have := ok.room.un; omega
theorem Okx.u1 (ok : Okx c n cl X) : X.A.units + 1 < cLine := by have := ok.room.un; omega
theorem Okx.rm (ok : Okx c n cl X) : Room n X.A := ok.room.mono (Nat.le_succ n)
theorem Okx.fldK (ok : Okx c n cl X) {i : Nat} {f : Str} (h : c.T.at_[i]? = some f) : Cfg.aN i = f := by
  rw [ok.at_]; unfold aName; rw [h]
theorem Okx.attr (ok : Okx c n cl X) {i : Nat} {f : Str} (h : c.T.at_[i]? = some f) {cs : List Nat} (hc : cs.all (fun k => decide (k < c.T.cs.length)) = true) : ∀ k ∈ cs, Cls X.K (Cfg.cA k) ∧ NoAttr X.K (Cfg.cA k) (Cfg.aN i) := fun k hk => by
  have hk := of_decide_eq_true (List.all_eq_true.mp hc k hk)
  obtain ⟨h1, h2, _⟩ := ok.cls k _ (List.getElem?_eq_getElem hk)
  exact ⟨h1, by rw [ok.fldK h]; exact h2 f (List.mem_of_getElem? h)⟩
theorem not_isM {b : Bool} (h : (!b) = true) : b = false := by simpa using h
theorem swap_attr {x o : Expr} {f : Str} {p : Pos} {l : Nat} {env : PySem.Env} : swapsWith x (some (.Attribute o f p)) l env = pure false := by
  cases x <;> rfl
/-- the end of a fresh one -/
theorem both {e : E} (h : PE X x (tF X.K (evT cl e))) : PE X x (tT X.K (evT cl e)) ∧ (isFresh c.tab e = true → PE X x (tF X.K (evT cl e))) := ⟨tF.toT h, fun _ => h⟩
theorem plainV {e : E} (h : PE X x (tT X.K (evT cl e))) (hf : isFresh c.tab e = false) : PE X x (tT X.K (evT cl e)) ∧ (isFresh c.tab e = true → PE X x (tF X.K (evT cl e))) := ⟨h, fun z => by rw [hf] at z; cases z⟩
theorem callable (ok : Okx c n cl X) {f : Nat} {x : Str} (h : tabName c.tab f x = true) (hM : (!c.T.isM f) = true) : ∃ df fd ps, c.tab[f]? = some df ∧ FnOk X.prog X.w X.K X.mg X.base CX0 n (Cfg.fA f) fd ps (spF X.K (cl f) df.np df.fr) ∧ X.mg x = some (.ref (Cfg.fA f)) ∧ PySem.W.keepIn X.K (.ref (Cfg.fA f)) = true ∧ Binds X.K fd ps [] := by
  unfold tabName at h
  split at h
  · rename_i df e
    have hx : df.name = x := by simpa using h
    obtain ⟨fd, ps, h1, h3, h4⟩ := ok.fn f df e
    exact ⟨df, fd, ps, e, h1, by rw [← hx]; exact ok.gfn f df e (not_isM hM), h3, h4⟩
  · cases h
theorem d_call0 {sp : Sp} {E' : XK} (h : PE X z (tCall sp [] E' tNil)) : PE X z (tCall sp [] E' (tDs X.K (evEs cl []))) := h.imp fun σ H Q ⟨A, ρ, st, ds, s1, r, ef, q⟩ => by
  cases ef
  exact q ρ [] H Fr.refl r rfl
theorem d_pcall0 {sp : Sp} {E' : XK} (h : PE X z (tCall sp [] E' tNil)) : PE X z (tCall sp [] E' (tTs X.K (evTs cl []))) := h.imp fun σ H Q ⟨A, ρ, st, ds, s1, r, ef, q⟩ => by
  cases ef
  exact q ρ [] H Fr.refl r rfl
theorem one_arg_of {es : List E} {ys : List Expr} (h : ckEs c es ys = true) (hl : ys.length ≤ 1) : (es = [] ∧ ys = []) ∨ ∃ e y, es = [e] ∧ ys = [y] ∧ notStar y = true := by
  have h2 := ck_len h
  match es, ys, h, hl, h2 with
  | [], [], _, _, _ => exact .inl ⟨rfl, rfl⟩
  | [e], [y], h, _, _ => exact .inr ⟨e, y, rfl, rfl, (and_t (and_t (show (notStar y && ckE c e y && ckEs c [] []) = true by unfold ckEs at h; exact h)).1).1⟩
  | _, _ :: _ :: _, _, hl, _ => exact absurd hl (by simp)
  | [], _ :: _, _, _, h2 => cases h2
  | _ :: _, [], _, _, h2 => cases h2
  | _ :: _ :: _, [_], _, _, h2 => simp at h2
theorem own_map (N : List Str) (own : List Nat) : (ownNames N own).map (·.2) = own := by
  unfold ownNames
  rw [List.map_map]
  exact List.map_id own
theorem d_make0 {C : Addr} {sp : Sp} {E' : XK} (h : PE X z (tMake C sp [] E' tNil)) : PE X z (tMake C sp [] E' (tDs X.K (evEs cl []))) := h.imp fun σ H Q ⟨A, ρ, st, ds, s1, r, ef, q⟩ => by
  cases ef
  exact q ρ [] H Fr.refl r rfl
theorem d_meth00 {C : Addr} {m : Str} {sp : Sp} {E' : XK} {ta : TE} (h : PE X z (tMeth C m sp [] E' ta tNil)) (hta : ∀ σ H (Q Q' : VK), (∀ v H, Q v H → Q' v H) → ta σ H Q → ta σ H Q') : PE X z (tMeth C m sp [] E' ta (tDs X.K (evEs cl []))) := h.imp fun σ H Q hq => hta σ H _ _ (fun x H1 ⟨a, dx, fs, e1, e2, e3, A, ρ, st, ds, s1, r, ef, q⟩ => ⟨a, dx, fs, e1, e2, e3, by
  cases ef
  exact q ρ [] H1 Fr.refl r rfl⟩) hq
theorem tD_mono {K : PySem.W.Frag} {f : Sta → Out D} : ∀ σ H (Q Q' : VK), (∀ v H, Q v H → Q' v H) → tD K f σ H Q → tD K f σ H Q' := fun σ H Q Q' hQ ⟨A, ρ, st, d, s1, r, ef, q⟩ => ⟨A, ρ, st, d, s1, r, ef, fun ρ1 v H1 f1 r1 hv => hQ _ _ (q ρ1 v H1 f1 r1 hv)⟩
theorem okM {o : E} {es : List E} {ys : List Expr} {m : Str} {apos cpos : Pos} {p : Nat × Nat} (ok : Okx c n cl X) (hn : notCall x = true) (hl : ((apos.endLine == cpos.line) && decide (ys.length < 25)) = true)
    (hp : (c.T.ms.any (fun q => decide (q = (m, p.1, p.2))) && decide (p.1 < c.T.cs.length) && (c.tab[p.2]?).isSome) = true) (ho : PE X x (tT X.K (evT cl o))) (h6 : ckEs c es ys = true) (hes : PA X ys (tDs X.K (evEs cl es))) :
    ∃ np fr, (∀ ds S r, cl p.2 ds S = some r → ds.length = np) ∧ PE X (.Call (.Attribute x m apos) ys [] cpos) (tMeth (Cfg.cA p.1) m (spF X.K (cl p.2) np fr) [] E0 (tD X.K fun st => lk (evT cl o st)) (tDs X.K (evEs cl es))) := by
  obtain ⟨hp, h3⟩ := and_t hp
  obtain ⟨h1, h2⟩ := and_t hp
  obtain ⟨q, hq, e⟩ := List.any_eq_true.mp h1
  have e := of_decide_eq_true e
  subst e
  obtain ⟨df, e⟩ := Option.isSome_iff_exists.mp h3
  obtain ⟨fd, ps, F, _, hb⟩ := ok.fn p.2 df e
  obtain ⟨hc, _, _⟩ := ok.cls p.1 _ (List.getElem?_eq_getElem (of_decide_eq_true h2))
  have M := ok.ms m p.1 p.2 hq
  refine ⟨df.np, df.fr, fun ds S r hr => ok.np p.2 df ds S r e hr, ?_⟩
  have hbase : eval x X.env = eval x X.env := rfl
  have hst := ck_stars h6
  match es, ys, h6, hes, hl, hst with
  | [], [], _, _, hl, hst => exact d_meth00 (pe_meth0 (pe_lk ho) hc M F ok.rm hb .nil pass0 (meth_eval hn hl hst)) tD_mono
  | e :: es, y :: ys, h6, hes, hl, hst =>
    obtain ⟨hs1, hs2⟩ := and_t (show (notStar y && notStars ys) = true from hst)
    exact pe_meth (pe_lk ho) hc M F ok.rm hb .nil pass0 hes (star1 hs1) (stars hs2) (meth_eval hn hl hst)
  | [], _ :: _, h6, _, _, _ => exact absurd (ck_len h6) (by simp)
  | _ :: _, [], h6, _, _, _ => exact absurd (ck_len h6) (by simp)
mutual
theorem okE : ∀ (e : E) (c : Ce) (X : Cx) (x : Expr), Okx c n cl X → ckE c e x = true → PE X x (tT X.K (evT cl e)) ∧ (isFresh c.tab e = true → PE X x (tF X.K (evT cl e)))
  | .var i, c, X, x, ok, h => by
    unfold ckE at h
    split at h
    · rename_i n pos ex
      rw [asName_eq ex]
      obtain ⟨h, h3⟩ := and_t h
      obtain ⟨h1, h2⟩ := and_t h
      obtain ⟨h3, h4⟩ := and_t h3
      exact plainV (d_var (by rw [ok.N]; exact of_decide_eq_true h1) (vis_of ok h2) (by simpa using h3) (by simpa using h4)) rfl
    · cases h
  | .mv i, c, X, x, ok, h => by
    unfold ckE at h
    split at h
    · rename_i n pos ex
      rw [asName_eq ex]
      obtain ⟨h, h3⟩ := and_t h
      obtain ⟨h1, h2⟩ := and_t h
      obtain ⟨h3, h4⟩ := and_t h3
      exact both (d_mv (by rw [ok.N]; exact of_decide_eq_true h1) (vis_of ok h2) (by simpa using h3) (by simpa using h4))
    · cases h
  | .cst d, c, X, x, ok, h => by
    unfold ckE at h
    split at h
    · rename_i k _ _ ex
      rw [asCst_eq ex]
      have h : cstB d k = true := h
      refine plainV ?_ rfl
      cases d <;> cases k <;> first | (cases h; done) | skip
      · exact d_c pe_non fun _ _ _ _ _ => rfl
      · have e := eq_of_beq h; subst e; exact d_c pe_bl fun _ _ _ _ _ => rfl
      · have e := eq_of_beq h; subst e; exact d_c pe_int fun _ _ _ _ _ => rfl
      · have e := eq_of_beq h; subst e; exact d_c pe_str fun _ _ _ _ _ => rfl
    · cases h
  | .bin op a b, c, X, x, ok, h => by
    unfold ckE at h
    split at h
    · rename_i x o y p ex
      rw [asBin_eq ex]
      obtain ⟨h, h3⟩ := and_t h
      obtain ⟨h1, h2⟩ := and_t h
      have e := of_decide_eq_true h1
      subst e
      exact both (d_bin (okE a c X _ ok h2).1 (okE b c X _ ok h3).1)
    · cases h
  | .neg a, c, X, x, ok, h => by
    unfold ckE at h
    split at h
    · rename_i x p ex
      rw [asUn_eq ex]
      exact plainV (d_neg (okE a c X _ ok h).1) rfl
    · cases h
  | .cmp op a b, c, X, x, ok, h => by
    unfold ckE at h
    split at h
    · rename_i x o y p ex
      rw [asCmp1_eq ex]
      obtain ⟨h, h4⟩ := and_t h
      obtain ⟨h, h3⟩ := and_t h
      obtain ⟨h1, h2⟩ := and_t h
      have e := of_decide_eq_true h1
      subst e
      exact plainV (tF.toT (d_cmp ok.u66 (okE a c X _ ok h3).1 (okE b c X _ ok h4).1 (nomark_of h2))) rfl
    · cases h
  | .chain p q a b d, c, X, x, ok, h => by
    unfold ckE at h
    split at h
    · rename_i x o o' y z p' ex
      rw [asCmp2_eq ex]
      obtain ⟨h, h6⟩ := and_t h
      obtain ⟨h, h5⟩ := and_t h
      obtain ⟨h, h4⟩ := and_t h
      obtain ⟨h, h3⟩ := and_t h
      obtain ⟨h1, h2⟩ := and_t h
      have e := of_decide_eq_true h1
      have e' := of_decide_eq_true h2
      subst e e'
      exact plainV (d_chain ok.u66 (okE a c X _ ok h4).1 (okE b c X _ ok h5).1 (okE d c X _ ok h6).1 (show behindInMarks q.py z = false from nomark_of h3)) rfl
    · cases h
  | .and a b, c, X, x, ok, h => by
    unfold ckE at h
    split at h
    · rename_i x y p ex
      rw [asBool_eq ex]
      obtain ⟨h1, h2⟩ := and_t h
      exact plainV (d_and (okE a c X _ ok h1).1 (d_one (okE b c X _ ok h2).1)) rfl
    · rename_i x y z r p ex
      rw [asBool_eq ex]
      obtain ⟨h1, h2⟩ := and_t h
      exact plainV (d_and (okE a c X _ ok h1).1 (okE b c X _ ok h2).1) rfl
    · cases h
  | .or a b, c, X, x, ok, h => by
    unfold ckE at h
    split at h
    · rename_i x y p ex
      rw [asBool_eq ex]
      obtain ⟨h1, h2⟩ := and_t h
      exact plainV (d_or (okE a c X _ ok h1).1 (d_one (okE b c X _ ok h2).1)) rfl
    · rename_i x y z r p ex
      rw [asBool_eq ex]
      obtain ⟨h1, h2⟩ := and_t h
      exact plainV (d_or (okE a c X _ ok h1).1 (okE b c X _ ok h2).1) rfl
    · cases h
  | .not a, c, X, x, ok, h => by
    unfold ckE at h
    split at h
    · rename_i x p ex
      rw [asUn_eq ex]
      exact plainV (d_not (okE a c X _ ok h).1) rfl
    · cases h
  | .ife d a b, c, X, x, ok, h => by
    unfold ckE at h
    split at h
    · rename_i z x y p ex
      rw [asIfE_eq ex]
      obtain ⟨h, h3⟩ := and_t h
      obtain ⟨h1, h2⟩ := and_t h
      exact plainV (d_ife (okC d c X _ ok h1).1 (okE a c X _ ok h2).1 (okE b c X _ ok h3).1) rfl
    · cases h
  | .sub a b, c, X, x, ok, h => by
    unfold ckE at h
    split at h
    · rename_i x y p ex
      rw [asSub_eq ex]
      obtain ⟨h, h3⟩ := and_t h
      obtain ⟨h1, h2⟩ := and_t h
      exact plainV (d_sub ok.u1 (okE a c X _ ok h2).1 (okE b c X _ ok h3).1 (plainIx_of h1)) rfl
    · cases h
  | .cut a lo hi, c, X, x, ok, h => by
    unfold ckE at h
    split at h
    · rename_i x y p ex
      rw [asSub_eq ex]
      split at h
      · rename_i l u p2 ey
        rw [asSlice_eq ey]
        obtain ⟨h, h3⟩ := and_t h
        obtain ⟨h1, h2⟩ := and_t h
        exact both (d_cut (okE a c X _ ok h1).1 (okP lo c X _ ok h2) (okP hi c X _ ok h3))
      · cases h
    · cases h
  | .back a, c, X, x, ok, h => by
    unfold ckE at h
    split at h
    · rename_i x y p ex
      rw [asSub_eq ex]
      split at h
      · rename_i t p2 ey
        rw [asSlice_eq ey]
        obtain ⟨h1, h2⟩ := and_t h
        obtain ⟨k, p3, p4, rfl⟩ := isNeg1_eq h1
        exact both (d_back (okE a c X _ ok h2).1)
      · cases h
    · cases h
  | .tup es, c, X, x, ok, h => by
    unfold ckE at h
    split at h
    · rename_i xs k p ex
      rw [asTup_eq ex]
      exact plainV (d_tup (okEs es c X _ ok h)) rfl
    · cases h
  | .lst es, c, X, x, ok, h => by
    unfold ckE at h
    split at h
    · rename_i xs p ex
      rw [asLst_eq ex]
      exact both (d_lst (okEs es c X _ ok h))
    · cases h
  | .rep es k, c, X, x, ok, h => by
    unfold ckE at h
    split at h
    · rename_i x y p ex
      rw [asBin_eq ex]
      split at h
      · rename_i xs p2 ey
        rw [asLst_eq ey]
        obtain ⟨h1, h2⟩ := and_t h
        exact both (d_rep (okEs es c X _ ok h1) (okE k c X _ ok h2).1)
      · cases h
    · cases h
  | .call f es, c, X, x, ok, h => by
    unfold ckE at h
    split at h
    · rename_i x px xs p ex
      rw [asCall_eq ex]
      obtain ⟨h, h3⟩ := and_t h
      obtain ⟨h, h2⟩ := and_t h
      obtain ⟨h1, hM⟩ := and_t h
      obtain ⟨hg, hdb, _⟩ := gl_of ok h2
      obtain ⟨df, fd, ps, e, F, hm, hk, hb⟩ := callable ok h1 hM
      have hcall : PE X (.Call (.Name x px) xs [] p) (tCall (spF X.K (cl f) df.np df.fr) [] E0 (tDs X.K (evEs cl es))) := by
        match es, xs, h3, okEs es c X xs ok h3 with
        | [], [], _, _ => exact d_call0 (pe_call0 F ok.rm hg hm hk hb .nil pass0 hdb)
        | e :: es, y :: ys, h3, hes =>
          have hs := ck_stars h3
          obtain ⟨hs1, hs2⟩ := and_t (show (notStar y && notStars ys) = true from hs)
          exact pe_call F ok.rm hg hm hk hb .nil pass0 hes hdb (star1 hs1) (stars hs2)
      have hr := d_call (fun ds S r hr => ok.np f df ds S r e hr) hcall
      refine ⟨?_, fun hf => ?_⟩
      · cases hfr : df.fr with
        | true => rw [hfr] at hr; exact PE.imp (tF.toT hr) fun _ _ _ z => z
        | false => rw [hfr] at hr; exact hr
      · have : df.fr = true := by
          have hf' : (match c.tab[f]? with | some df => df.fr | none => false) = true := hf
          rw [e] at hf'; exact hf'
        rw [this] at hr
        exact hr
    · cases h
  | .pcall f es, c, X, x, ok, h => by
    unfold ckE at h
    split at h
    · rename_i x px xs p ex
      rw [asCall_eq ex]
      obtain ⟨h, h3⟩ := and_t h
      obtain ⟨h, h2⟩ := and_t h
      obtain ⟨h1, hM⟩ := and_t h
      obtain ⟨hg, hdb, _⟩ := gl_of ok h2
      obtain ⟨df, fd, ps, e, F, hm, hk, hb⟩ := callable ok h1 hM
      have hcall : PE X (.Call (.Name x px) xs [] p) (tCall (spF X.K (cl f) df.np df.fr) [] E0 (tTs X.K (evTs cl es))) := by
        match es, xs, h3, okTs es c X xs ok h3 with
        | [], [], _, _ => exact d_pcall0 (pe_call0 F ok.rm hg hm hk hb .nil pass0 hdb)
        | e :: es, y :: ys, h3, hes =>
          have hs := ck_stars h3
          obtain ⟨hs1, hs2⟩ := and_t (show (notStar y && notStars ys) = true from hs)
          exact pe_call F ok.rm hg hm hk hb .nil pass0 hes hdb (star1 hs1) (stars hs2)
      have hr := d_pcall (fun ds S r hr => ok.np f df ds S r e hr) hcall
      refine ⟨?_, fun hf => ?_⟩
      · cases hfr : df.fr with
        | true => rw [hfr] at hr; exact PE.imp (tF.toT hr) fun _ _ _ z => z
        | false => rw [hfr] at hr; exact hr
      · have : df.fr = true := by
          have hf' : (match c.tab[f]? with | some df => df.fr | none => false) = true := hf
          rw [e] at hf'; exact hf'
        rw [this] at hr
        exact hr
    · cases h
  | .b1 b a, c, X, x, ok, h => by
    unfold ckE at h
    split at h
    · rename_i x px y p ex
      rw [asCall_eq ex]
      obtain ⟨h, h4⟩ := and_t h
      obtain ⟨h, h3⟩ := and_t h
      obtain ⟨h1, h2⟩ := and_t h
      have e := of_decide_eq_true h1
      subst e
      obtain ⟨hg, hdb, hn⟩ := gl_of ok h2
      have hm := ok.none _ (b1_names b)
      refine both (d_b1 (r0 := fun _ _ _ => True) (p := p) ok.calm (fun hpa => ?_) (okE a c X _ ok h4).1 (star1 h3))
      have hb := boot_b1 b
      have hk := b1_ok (X := X) ok.calm b
      cases b <;> first
        | exact pe_callB hk hg hm hb hpa hn hdb (star1 h3) rfl
        | exact pe_callTy hk hg hm hb hpa hn hdb (star1 h3) rfl
    · cases h
  | .b2 b a d, c, X, x, ok, h => by
    unfold ckE at h
    split at h
    · rename_i x px y z p ex
      rw [asCall_eq ex]
      obtain ⟨h, h6⟩ := and_t h
      obtain ⟨h, h5⟩ := and_t h
      obtain ⟨h, h4⟩ := and_t h
      obtain ⟨h, h3⟩ := and_t h
      obtain ⟨h1, h2⟩ := and_t h
      have e := of_decide_eq_true h1
      subst e
      obtain ⟨hg, hdb, hn⟩ := gl_of ok h2
      have hm := ok.none _ (b2_names b)
      have := d_b2 (X := X) (cl := cl) (z := .Call (.Name b.py.1 px) [y, z] [] p) (b := b) (a := a) (c := d) (fun hpa => by
        have hb := boot_b2 b
        have hk := b2_ok (X := X) ok.calm b
        have hpl : (backTo p (starEach [z] X.env)).any (·.1) = false := by rw [star1 h4]; rfl
        cases b <;> exact pe_callB hk hg hm hb hpa hn hdb (star1 h3) hpl) (okE a c X _ ok h5).1 (okE d c X _ ok h6).1 (star1 h3) (star1 h4)
      exact plainV (tF.toT this) rfl
    · cases h
  | .lrange a b, c, X, x, ok, h => by
    unfold ckE at h
    split at h
    · rename_i x px w p ex
      rw [asCall_eq ex]
      split at h
      · rename_i x' px' y z p' ey
        rw [asCall_eq ey]
        obtain ⟨h, h8⟩ := and_t h
        obtain ⟨h, h7⟩ := and_t h
        obtain ⟨h, h6⟩ := and_t h
        obtain ⟨h, h5⟩ := and_t h
        obtain ⟨h, h4⟩ := and_t h
        obtain ⟨h, h3⟩ := and_t h
        obtain ⟨h1, h2⟩ := and_t h
        have e := of_decide_eq_true h1
        have e' := of_decide_eq_true h2
        subst e e'
        obtain ⟨hg, _, _⟩ := gl_of ok h3
        obtain ⟨hg', _, _⟩ := gl_of ok h4
        have hpl : (backTo p' (starEach [z] X.env)).any (·.1) = false := by rw [star1 h6]; rfl
        exact both (d_lrange (pe_listRg ok.calm hg (ok.none _ (by decide +kernel)) (prg_2 hg' (ok.none _ (by decide +kernel)) (pe_lk (okE a c X _ ok h7).1) (pe_lk (okE b c X _ ok h8).1) (star1 h5) (star1 h6) hpl) rfl))
      · cases h
    · cases h
  | .lrange1 a, c, X, x, ok, h => by
    unfold ckE at h
    split at h
    · rename_i x px w p ex
      rw [asCall_eq ex]
      split at h
      · rename_i x' px' y p' ey
        rw [asCall_eq ey]
        obtain ⟨h, h6⟩ := and_t h
        obtain ⟨h, h5⟩ := and_t h
        obtain ⟨h, h4⟩ := and_t h
        obtain ⟨h, h3⟩ := and_t h
        obtain ⟨h1, h2⟩ := and_t h
        have e := of_decide_eq_true h1
        have e' := of_decide_eq_true h2
        subst e e'
        obtain ⟨hg, _, _⟩ := gl_of ok h3
        obtain ⟨hg', _, _⟩ := gl_of ok h4
        exact both (d_lrange1 (pe_listRg ok.calm hg (ok.none _ (by decide +kernel)) (prg_1 hg' (ok.none _ (by decide +kernel)) (pe_lk (okE a c X _ ok h6).1) (star1 h5)) rfl))
      · cases h
    · cases h
  | .isi t a, c, X, x, ok, h => by
    unfold ckE at h
    split at h
    · rename_i x px y w p ex
      rw [asCall_eq ex]
      split at h
      · rename_i u pu ey
        rw [asName_eq ey]
        obtain ⟨h, h6⟩ := and_t h
        obtain ⟨h, h5⟩ := and_t h
        obtain ⟨h, h4⟩ := and_t h
        obtain ⟨h, h3⟩ := and_t h
        obtain ⟨h1, h2⟩ := and_t h
        have e := of_decide_eq_true h1
        have e' := of_decide_eq_true h2
        subst e e'
        obtain ⟨hg, hdb, hn⟩ := gl_of ok h3
        obtain ⟨hg', hdb', hn'⟩ := gl_of ok h4
        exact plainV (d_isi (pe_callB (isi_ok t) hg (ok.none _ (by decide +kernel)) boot_isi (pa_cons (okE a c X _ ok h6).1 (pa_cons (pe_bltn hg' (ok.none _ (ty_names t)) (boot_ty t) (show Value.type t.py = Value.type t.py from rfl) hn' hdb') pa_nil rfl) (star1 h5)) hn hdb (star1 h5) rfl)) rfl
      · cases h
    · cases h
  | .meth m o es, c, X, x, ok, h => by
    unfold ckE at h
    split at h
    · rename_i x name apos ys cpos ex
      rw [asMeth_eq ex]
      obtain ⟨h, h6⟩ := and_t h
      obtain ⟨h, h5⟩ := and_t h
      obtain ⟨h, h4⟩ := and_t h
      obtain ⟨h, h3⟩ := and_t h
      obtain ⟨h1, h2⟩ := and_t h
      have e := of_decide_eq_true h1
      subst e
      have ho := (okE o c X _ ok h5).1
      have hlen := of_decide_eq_true h4
      have hes := okEs es c X ys ok h6
      have hst := ck_stars h6
      match es, ys, h6, hlen, hes, hst with
      | [], [], _, _, _, _ =>
        refine plainV (d_meth0 ?_) rfl
        cases m
        · exact pe_bm0 PySem.F.plainAttrs_list PySem.F.slot_list_append PySem.F.type_list_append (meth_ok .append) ho (base_of h3) h2
        · exact pe_bm0 PySem.F.plainAttrs_list PySem.F.slot_list_pop PySem.F.type_list_pop (meth_ok .pop0) ho (base_of h3) h2
        · exact pe_bm0 PySem.F.plainAttrs_list PySem.F.slot_list_pop PySem.F.type_list_pop (meth_ok .pop) ho (base_of h3) h2
        · exact pe_bm0 PySem.F.plainAttrs_list PySem.F.slot_list_index PySem.F.type_list_index (meth_ok .index) ho (base_of h3) h2
        · exact pe_bm0 PySem.F.plainAttrs_list PySem.F.slot_list_clear PySem.F.type_list_clear (meth_ok .clear) ho (base_of h3) h2
        · exact pe_bm0 PySem.F.plainAttrs_list PySem.F.slot_list_insert PySem.F.type_list_insert (meth_ok .insert) ho (base_of h3) h2
        · exact pe_bm0 PySem.F.plainAttrs_list PySem.F.slot_list_reverse PySem.F.type_list_reverse (meth_ok .reverse) ho (base_of h3) h2
      | e :: es, y :: ys, h6, hlen, hes, hst =>
        obtain ⟨hs1, hs2⟩ := and_t (show (notStar y && notStars ys) = true from hst)
        have hst1 : starEach (y :: ys) X.env = (false, eval y X.env) :: starEach ys X.env := star1 hs1
        have hfew : ((backTo cpos (starEach (y :: ys) X.env)).all (fun x => !x.1) && (backToKw cpos (keywordEach [] X.env)).all (fun x => x.1.isSome) && decide ((y :: ys).length + ([] : List Keyword).length + (if ([] : List Keyword).isEmpty then 0 else 1) < 30)) = true := by
          match ys, hlen, hs2, hst1 with
          | [], _, _, hst1 => rw [hst1]; rfl
          | [w], _, hs2, hst1 =>
            have hw := star1 (xs := []) (env := X.env) (and_t (show (notStar w && notStars []) = true from hs2)).1
            rw [hst1, hw]; rfl
          | _ :: _ :: _, hl, _, _ => exact absurd hl (by simp)
        have hpl := stars (env := X.env) (pos := cpos) hs2
        refine plainV (d_meth ?_) rfl
        cases m
        · exact pe_bm PySem.F.plainAttrs_list PySem.F.slot_list_append PySem.F.type_list_append (meth_ok .append) ho hes (base_of h3) hfew h2 hst1 hpl
        · exact pe_bm PySem.F.plainAttrs_list PySem.F.slot_list_pop PySem.F.type_list_pop (meth_ok .pop0) ho hes (base_of h3) hfew h2 hst1 hpl
        · exact pe_bm PySem.F.plainAttrs_list PySem.F.slot_list_pop PySem.F.type_list_pop (meth_ok .pop) ho hes (base_of h3) hfew h2 hst1 hpl
        · exact pe_bm PySem.F.plainAttrs_list PySem.F.slot_list_index PySem.F.type_list_index (meth_ok .index) ho hes (base_of h3) hfew h2 hst1 hpl
        · exact pe_bm PySem.F.plainAttrs_list PySem.F.slot_list_clear PySem.F.type_list_clear (meth_ok .clear) ho hes (base_of h3) hfew h2 hst1 hpl
        · exact pe_bm PySem.F.plainAttrs_list PySem.F.slot_list_insert PySem.F.type_list_insert (meth_ok .insert) ho hes (base_of h3) hfew h2 hst1 hpl
        · exact pe_bm PySem.F.plainAttrs_list PySem.F.slot_list_reverse PySem.F.type_list_reverse (meth_ok .reverse) ho hes (base_of h3) hfew h2 hst1 hpl
      | [], _ :: _, h6, _, _, _ => exact absurd (ck_len h6) (by simp)
      | _ :: _, [], h6, _, _, _ => exact absurd (ck_len h6) (by simp)
    · cases h
  | .ext o e, c, X, x, ok, h => by
    unfold ckE at h
    split at h
    · rename_i x name apos y cpos ex
      rw [asMeth_eq ex]
      obtain ⟨h, h7⟩ := and_t h
      obtain ⟨h, h6⟩ := and_t h
      obtain ⟨h, h5⟩ := and_t h
      obtain ⟨h, h4⟩ := and_t h
      obtain ⟨h, h3⟩ := and_t h
      obtain ⟨h1, h2⟩ := and_t h
      have e' := of_decide_eq_true h1
      subst e'
      have ho := (okE o c X _ ok h6).1
      have he := (okE e c X _ ok h7).2 h5
      have hst : starEach [y] X.env = (false, eval y X.env) :: starEach [] X.env := star1 h4
      have hfew : ((backTo cpos (starEach [y] X.env)).all (fun x => !x.1) && (backToKw cpos (keywordEach [] X.env)).all (fun x => x.1.isSome) && decide ([y].length + ([] : List Keyword).length + (if ([] : List Keyword).isEmpty then 0 else 1) < 30)) = true := by rw [hst]; rfl
      exact plainV (d_ext (evT_v h5) (pe_bm PySem.F.plainAttrs_list PySem.F.slot_list_extend PySem.F.type_list_extend mt_extend ho (pa_cons he pa_nil hst) (base_of h3) hfew h2 hst rfl)) rfl
    · cases h
  | .comp e g it cs own, c, X, x, ok, h => by
    unfold ckE at h
    split at h
    · rename_i elt tg iter ifs scope p ex
      rw [asLc_eq ex]
      obtain ⟨h, h9⟩ := and_t h
      obtain ⟨h, h8⟩ := and_t h
      obtain ⟨h, h7⟩ := and_t h
      obtain ⟨h, h6⟩ := and_t h
      obtain ⟨h, h5⟩ := and_t h
      obtain ⟨h, h4⟩ := and_t h
      obtain ⟨h, h3⟩ := and_t h
      obtain ⟨h1, h2⟩ := and_t h
      have hW : ∀ i ∈ g.slots, i ∈ own := fun i hi => by simpa using List.all_eq_true.mp h4 i hi
      have hbk : BlkOk X.N X.env.scope scope (ownNames c.N own) := by rw [ok.N, ok.sc]; exact blkOk_by h1
      have hi := okI true it c X tg iter ok h6
      have hg : ∀ (s : Shared) (H : Hp) (C : Addr) (cells : List (Str × Addr)) (fp : List Addr), PG (X.blk s H scope (compEnvC scope cells C X.env) fp) tg (tG X.K g.slots (evG cl g)) := fun s H C cells fp => okG g _ _ _ (Okx.blk ok) h7
      have ht : ∀ (s : Shared) (H : Hp) (C : Addr) (cells : List (Str × Addr)) (fp : List Addr), PTs (X.blk s H scope (compEnvC scope cells C X.env) fp) ifs (tBo X.K (evAll cl cs)) := fun s H C cells fp => okCs cs _ _ _ (Okx.blk ok) (of_decide_eq_true h5) h8
      have he : ∀ (s : Shared) (H : Hp) (C : Addr) (cells : List (Str × Addr)) (fp : List Addr), PE (X.blk s H scope (compEnvC scope cells C X.env) fp) elt (tD X.K fun st => lk (evT cl e st)) := fun s H C cells fp => pe_lk (okE e _ (X.blk s H scope (compEnvC scope cells C X.env) fp) elt (Okx.blk ok) h9).1
      have hlc := pe_lc (pos := p) ok.calm (by rw [ok.N]; exact ok.nd) hi hbk hg ht he (set_of h2)
      rw [own_map] at hlc
      exact both (hlc.imp fun σ H Q hq => tLc_ok hW (fun d st s1 => evG_len h3) σ H Q hq)
    · cases h
  | .glob nm d, c, X, x, ok, h => by
    unfold ckE at h
    split at h
    · rename_i x p ex
      rw [asName_eq ex]
      obtain ⟨h, h3⟩ := and_t h
      obtain ⟨h1, h2⟩ := and_t h
      have e := of_decide_eq_true h1
      subst e
      obtain ⟨q, hq, h3⟩ := List.any_eq_true.mp h3
      obtain ⟨h4, h5⟩ := and_t h3
      have e1 := of_decide_eq_true h4
      have e2 := (D.beq_iff _ _).mp h5
      obtain ⟨hg, hdb, _⟩ := gl_of ok h2
      obtain ⟨v, u, hm, rv, hr⟩ := ok.gl q.1 q.2 hq
      rw [e1] at hm
      exact plainV (d_glob hg hm rv hdb (by rw [← e2]; exact hr)) rfl
    · cases h
  | .new e, c, X, x, ok, h => by
    unfold ckE at h
    obtain ⟨h1, h2⟩ := and_t h
    exact plainV (d_new ((okE e c X _ ok h2).2 h1)) rfl
  | .dct0 k, c, X, x, ok, h => by
    unfold ckE at h
    obtain ⟨p, hp⟩ := Option.isSome_iff_exists.mp h
    rw [asD0_eq hp]
    exact both d_dct0
  | .dget o k, c, X, x, ok, h => by
    unfold ckE at h
    split at h
    · rename_i x name apos y cpos ex
      rw [asMeth_eq ex]
      obtain ⟨h, h6⟩ := and_t h
      obtain ⟨h, h5⟩ := and_t h
      obtain ⟨h, h4⟩ := and_t h
      obtain ⟨h, h3⟩ := and_t h
      obtain ⟨h1, h2⟩ := and_t h
      have e' := of_decide_eq_true h1
      subst e'
      have hst : starEach [y] X.env = (false, eval y X.env) :: starEach [] X.env := star1 h4
      exact plainV (d_dget ok.u1 (okE o c X _ ok h5).1 (okE k c X _ ok h6).1 ⟨base_of h3, by rw [hst]; rfl, h2, by rw [hst]; rfl⟩) rfl
    · cases h
  | .dgetd o k d, c, X, x, ok, h => by
    unfold ckE at h
    split at h
    · rename_i x name apos y z cpos ex
      rw [asMeth_eq ex]
      obtain ⟨h, h8⟩ := and_t h
      obtain ⟨h, h7⟩ := and_t h
      obtain ⟨h, h6⟩ := and_t h
      obtain ⟨h, h5⟩ := and_t h
      obtain ⟨h, h4⟩ := and_t h
      obtain ⟨h, h3⟩ := and_t h
      obtain ⟨h1, h2⟩ := and_t h
      have e' := of_decide_eq_true h1
      subst e'
      have hst : starEach [y, z] X.env = [(false, eval y X.env), (false, eval z X.env)] := by rw [star1 h4, star1 h5]; rfl
      exact plainV (d_dgetd ok.u1 (okE o c X _ ok h6).1 (okE k c X _ ok h7).1 (okE d c X _ ok h8).1 ⟨base_of h3, by rw [hst]; rfl, h2, by rw [hst]; rfl⟩) rfl
    · cases h
  | .fld o i cs, c, X, x, ok, h => by
    unfold ckE at h
    split at h
    · rename_i x f p ex
      rw [asFld_eq ex]
      obtain ⟨h, h4⟩ := and_t h
      obtain ⟨h, h3⟩ := and_t h
      obtain ⟨h1, h2⟩ := and_t h
      have e := of_decide_eq_true h1
      have := d_fld (pos := p) (n := i) (cs := cs) (okE o c X _ ok h4).1 (base_of h2) (ok.attr e h3)
      rw [ok.fldK e] at this
      exact plainV this rfl
    · cases h
  | .make k f es, c, X, x, ok, h => by
    unfold ckE at h
    split at h
    · rename_i x px xs p ex
      rw [asCall_eq ex]
      obtain ⟨h, h5⟩ := and_t h
      obtain ⟨h, h4⟩ := and_t h
      obtain ⟨h, h3⟩ := and_t h
      obtain ⟨h1, h2⟩ := and_t h
      obtain ⟨hg, hdb, _⟩ := gl_of ok h4
      obtain ⟨df, e⟩ := Option.isSome_iff_exists.mp h3
      obtain ⟨fd, ps, F, _, hb⟩ := ok.fn f df e
      obtain ⟨_, _, hm⟩ := ok.cls k x (of_decide_eq_true h1)
      have M := ok.ini k f (of_decide_eq_true h2)
      have hcall : PE X (.Call (.Name x px) xs [] p) (tMake (Cfg.cA k) (spF X.K (cl f) df.np df.fr) [] E0 (tDs X.K (evEs cl es))) := by
        match es, xs, h5, okEs es c X xs ok h5 with
        | [], [], _, _ => exact d_make0 (pe_make0 M F ok.room hg hm hb .nil pass0 hdb)
        | e :: es, y :: ys, h5, hes =>
          have hs := ck_stars h5
          obtain ⟨hs1, hs2⟩ := and_t (show (notStar y && notStars ys) = true from hs)
          exact pe_make M F ok.room hg hm hb .nil pass0 hes hdb (star1 hs1) (stars hs2)
      exact plainV (d_make (fun ds S r hr => ok.np f df ds S r e hr) hcall) rfl
    · cases h
  | .mcall o m es dm, c, X, x, ok, h => by
    unfold ckE at h
    split at h
    · rename_i x name apos ys cpos ex
      rw [asMeth_eq ex]
      obtain ⟨h, h6⟩ := and_t h
      obtain ⟨h, h5⟩ := and_t h
      obtain ⟨h, h4⟩ := and_t h
      obtain ⟨h, h3⟩ := and_t h
      obtain ⟨h, hl⟩ := and_t h
      obtain ⟨h1, h2⟩ := and_t h
      have e' := of_decide_eq_true h1
      subst e'
      refine plainV (d_mcall (E0' := E0) (fun i => by rw [ok.at_]; exact aName_ne h3 i) fun p hp => okM ok h2 hl (List.all_eq_true.mp h4 p hp) (okE o c X _ ok h5).1 h6 (okEs es c X ys ok h6)) rfl
    · cases h
  | .tcall f es, c, X, x, ok, h => by
    unfold ckE at h
    split at h
    · rename_i x px xs p ex
      rw [asCall_eq ex]
      obtain ⟨h, h3⟩ := and_t h
      obtain ⟨h, h2⟩ := and_t h
      obtain ⟨h1, hM⟩ := and_t h
      obtain ⟨hg, hdb, _⟩ := gl_of ok h2
      obtain ⟨df, fd, ps, e, F, hm, hk, hb⟩ := callable ok h1 hM
      have hcall : PE X (.Call (.Name x px) xs [] p) (tCall (spF X.K (cl f) df.np df.fr) [] E0 (tDs X.K (evEs cl es))) := by
        match es, xs, h3, okEs es c X xs ok h3 with
        | [], [], _, _ => exact d_call0 (pe_call0 F ok.rm hg hm hk hb .nil pass0 hdb)
        | e :: es, y :: ys, h3, hes =>
          have hs := ck_stars h3
          obtain ⟨hs1, hs2⟩ := and_t (show (notStar y && notStars ys) = true from hs)
          exact pe_call F ok.rm hg hm hk hb .nil pass0 hes hdb (star1 hs1) (stars hs2)
      exact plainV (d_tcall (fun ds S r hr => ok.np f df ds S r e hr) hcall) rfl
    · cases h
  | .tmcall o m es dm, c, X, x, ok, h => by
    unfold ckE at h
    split at h
    · rename_i x name apos ys cpos ex
      rw [asMeth_eq ex]
      obtain ⟨h, h6⟩ := and_t h
      obtain ⟨h, h5⟩ := and_t h
      obtain ⟨h, h4⟩ := and_t h
      obtain ⟨h, h3⟩ := and_t h
      obtain ⟨h, hl⟩ := and_t h
      obtain ⟨h1, h2⟩ := and_t h
      have e' := of_decide_eq_true h1
      subst e'
      refine plainV (d_tmcall (E0' := E0) (fun i => by rw [ok.at_]; exact aName_ne h3 i) fun p hp => okM ok h2 hl (List.all_eq_true.mp h4 p hp) (okE o c X _ ok h5).1 h6 (okEs es c X ys ok h6)) rfl
    · cases h
  | .mmd mx a d, c, X, x, ok, h => by
    unfold ckE at h
    split at h
    · rename_i x px y k z kp p ex
      rw [asMm_eq ex]
      obtain ⟨h, h6⟩ := and_t h
      obtain ⟨h, h5⟩ := and_t h
      obtain ⟨h, h4⟩ := and_t h
      obtain ⟨h, h3⟩ := and_t h
      obtain ⟨h1, h2⟩ := and_t h
      have e1 := of_decide_eq_true h1
      have e2 := of_decide_eq_true h2
      subst e1 e2
      obtain ⟨hg, hdb, hn⟩ := gl_of ok h3
      have hm : X.mg (Str.ofString (mmName mx)) = none := ok.none _ (by cases mx <;> decide +kernel)
      have hb : bootBuiltins (Str.ofString (mmName mx)) = some (.builtin (mmName mx)) := by cases mx <;> decide +kernel
      have hst : starEach [y] X.env = (false, eval y X.env) :: starEach [] X.env := star1 h4
      exact plainV (d_mmd (pe_callBK (cr_mm ok.calm ok.u66 mx) hg hm hb (pa_cons (okE a c X _ ok h5).1 pa_nil hst) (pk_cons (pe_lk (okE d c X _ ok h6).1) pk_nil) hn hdb (by rw [hst]; rfl) (by rw [hst]; rfl))) rfl
    · cases h
  | .dctl es, c, X, x, ok, h => by
    unfold ckE at h
    split at h
    · rename_i ks vs p ex
      rw [asDct_eq ex]
      obtain ⟨h, h5⟩ := and_t h
      obtain ⟨h, h4⟩ := and_t h
      obtain ⟨h, h3⟩ := and_t h
      obtain ⟨h1, h2⟩ := and_t h
      obtain ⟨g1, g2, g3⟩ := okKVs es c X ks vs p ok h5
      exact both (d_dctl h1 g1 g2 g3 (fun z => by rw [z] at h3; cases h3) (of_decide_eq_true h2) (of_decide_eq_true h4))
    · cases h
theorem okKVs : ∀ (es : List E) (c : Ce) (X : Cx) (ks : List (Option Expr)) (vs : List Expr) (p : Pos), Okx c n cl X → ckKVs c es ks vs = true → PPs X p ks vs (trE X.K cl es) ∧ ks.all (·.isSome) = true ∧ ks.length = vs.length
  | [], c, X, ks, vs, p, ok, h => by
    unfold ckKVs at h
    obtain ⟨h1, h2⟩ := and_t h
    cases ks with
    | cons _ _ => cases h1
    | nil =>
      cases vs with
      | cons _ _ => cases h2
      | nil => exact ⟨pps_nil, rfl, rfl⟩
  | [k], c, X, ks, vs, p, ok, h => by unfold ckKVs at h; cases h
  | k :: v :: es, c, X, some k' :: ks, v' :: vs, p, ok, h => by
    unfold ckKVs at h
    obtain ⟨h, h3⟩ := and_t h
    obtain ⟨h1, h2⟩ := and_t h
    obtain ⟨g1, g2, g3⟩ := okKVs es c X ks vs p ok h3
    exact ⟨pps_cons (pe_lk (okE k c X k' ok h1).1) (pe_lk (okE v c X v' ok h2).1) g1, by rw [List.all_cons, g2]; rfl, by rw [List.length_cons, List.length_cons, g3]⟩
  | _ :: _ :: _, c, X, [], _, p, ok, h => by unfold ckKVs at h; cases h
  | _ :: _ :: _, c, X, none :: _, _, p, ok, h => by unfold ckKVs at h; cases h
  | _ :: _ :: _, c, X, some _ :: _, [], p, ok, h => by unfold ckKVs at h; cases h
theorem okC : ∀ (e : C) (c : Ce) (X : Cx) (x : Expr), Okx c n cl X → ckC c e x = true → PT X x (tBo X.K (evB cl e)) ∧ ((∃ op vs p, x = .BoolOp op vs p) → PW X x (tBo X.K (evB cl e)))
  | .and a b, c, X, x, ok, h => by
    unfold ckC at h
    split at h
    · rename_i x y p ex
      rw [asBool_eq ex]
      obtain ⟨h1, h2⟩ := and_t h
      have := d_tand (pos := p) (okC a c X _ ok h1).1 (pw_and1 (okC b c X _ ok h2).1)
      exact ⟨this.pt, fun _ => this⟩
    · rename_i x y z r p ex
      rw [asBool_eq ex]
      obtain ⟨h1, h2⟩ := and_t h
      have := d_tand (pos := p) (okC a c X _ ok h1).1 ((okC b c X _ ok h2).2 ⟨_, _, _, rfl⟩)
      exact ⟨this.pt, fun _ => this⟩
    · cases h
  | .or a b, c, X, x, ok, h => by
    unfold ckC at h
    split at h
    · rename_i x y p ex
      rw [asBool_eq ex]
      obtain ⟨h1, h2⟩ := and_t h
      have := d_tor (pos := p) (okC a c X _ ok h1).1 (pw_or1 (okC b c X _ ok h2).1)
      exact ⟨this.pt, fun _ => this⟩
    · rename_i x y z r p ex
      rw [asBool_eq ex]
      obtain ⟨h1, h2⟩ := and_t h
      have := d_tor (pos := p) (okC a c X _ ok h1).1 ((okC b c X _ ok h2).2 ⟨_, _, _, rfl⟩)
      exact ⟨this.pt, fun _ => this⟩
    · cases h
  | .not a, c, X, x, ok, h => by
    unfold ckC at h
    split at h
    · rename_i x p ex
      rw [asUn_eq ex]
      exact ⟨d_tnot (okC a c X _ ok h).1, fun ⟨_, _, _, z⟩ => by cases z⟩
    · cases h
  | .val e, c, X, x, ok, h => by
    unfold ckC at h
    obtain ⟨h1, h2⟩ := and_t h
    have notB : ¬ ∃ op vs p, x = .BoolOp op vs p := by
      rintro ⟨op, vs, p, rfl⟩
      cases e <;> cases h1
    refine ⟨?_, fun z => (notB z).elim⟩
    cases hp : plainTest x with
    | true => exact d_tval (okE e c X x ok h2).1 (test_of hp)
    | false =>
      rw [hp, Bool.false_or] at h1
      cases e <;> first
        | (cases x <;> cases h1; done)
        | skip
      · rename_i op a b
        unfold ckE at h2
        split at h2
        · rename_i x o y p ex
          rw [asCmp1_eq ex]
          clear h1
          obtain ⟨h, h4⟩ := and_t h2
          clear h2
          obtain ⟨h, h3⟩ := and_t h
          obtain ⟨h1, h2⟩ := and_t h
          have e := of_decide_eq_true h1
          subst e
          exact d_tcmp ok.u66 (okE a c X _ ok h3).1 (okE b c X _ ok h4).1 (nomark_of h2)
        · cases h2
      · rename_i p1 q1 a b d
        unfold ckE at h2
        split at h2
        · rename_i x o o' y z p ex
          rw [asCmp2_eq ex]
          clear h1
          obtain ⟨h, h6⟩ := and_t h2
          clear h2
          obtain ⟨h, h5⟩ := and_t h
          obtain ⟨h, h4⟩ := and_t h
          obtain ⟨h, h3⟩ := and_t h
          obtain ⟨h1, h2⟩ := and_t h
          have e := of_decide_eq_true h1
          have e' := of_decide_eq_true h2
          subst e e'
          exact d_tchain ok.u66 (okE a c X _ ok h4).1 (okE b c X _ ok h5).1 (okE d c X _ ok h6).1 (show behindInMarks q1.py z = false from nomark_of h3)
        · cases h2
theorem okP : ∀ (e : Option E) (c : Ce) (X : Cx) (x : Option Expr), Okx c n cl X → ckP c e x = true → PO X x (tPo X.K (evP cl e))
  | none, c, X, none, ok, h => d_pnone
  | some e, c, X, some x, ok, h => by
    unfold ckP at h
    exact d_psome (okE e c X x ok h).1
  | none, c, X, some _, ok, h => by unfold ckP at h; cases h
  | some _, c, X, none, ok, h => by unfold ckP at h; cases h
theorem okEs : ∀ (e : List E) (c : Ce) (X : Cx) (x : List Expr), Okx c n cl X → ckEs c e x = true → PA X x (tDs X.K (evEs cl e))
  | [], c, X, [], ok, h => d_nil
  | e :: es, c, X, x :: xs, ok, h => by
    unfold ckEs at h
    obtain ⟨h, h3⟩ := and_t h
    obtain ⟨h1, h2⟩ := and_t h
    exact d_cons (okE e c X x ok h2).1 (okEs es c X xs ok h3) (star1 h1)
  | [], c, X, _ :: _, ok, h => by unfold ckEs at h; cases h
  | _ :: _, c, X, [], ok, h => by unfold ckEs at h; cases h
theorem okTs : ∀ (e : List E) (c : Ce) (X : Cx) (x : List Expr), Okx c n cl X → ckEs c e x = true → PA X x (tTs X.K (evTs cl e))
  | [], c, X, [], ok, h => d_tnil
  | e :: es, c, X, x :: xs, ok, h => by
    unfold ckEs at h
    obtain ⟨h, h3⟩ := and_t h
    obtain ⟨h1, h2⟩ := and_t h
    exact d_tcons (okE e c X x ok h2).1 (okTs es c X xs ok h3) (star1 h1)
  | [], c, X, _ :: _, ok, h => by unfold ckEs at h; cases h
  | _ :: _, c, X, [], ok, h => by unfold ckEs at h; cases h
theorem okCs : ∀ (e : List C) (c : Ce) (X : Cx) (x : List Expr), Okx c n cl X → x.length ≤ 1 → ckCs c e x = true → PTs X x (tBo X.K (evAll cl e))
  | [], c, X, [], ok, hl, h => d_all0
  | [e], c, X, [x], ok, hl, h => by
    unfold ckCs at h
    exact d_all1 (okC e c X x ok (and_t h).1).1
  | [], c, X, _ :: _, ok, hl, h => by unfold ckCs at h; cases h
  | _ :: _, c, X, [], ok, hl, h => by unfold ckCs at h; cases h
  | _ :: _ :: _, c, X, [x], ok, hl, h => by
    unfold ckCs at h
    have h := (and_t h).2
    unfold ckCs at h
    cases h
  | _ :: _, c, X, _ :: _ :: _, ok, hl, h => absurd hl (by simp)
theorem okI : ∀ (h : Bool) (e : I) (c : Ce) (X : Cx) (tg x : Expr), Okx c n cl X → ckI c e tg x = true → PI X tg x (tI X.K (evI cl h e))
  | _, .seq e, c, X, tg, x, ok, h => by
    unfold ckI at h
    exact d_seq (okE e c X x ok h).1
  | _, .range1 a, c, X, tg, x, ok, h => by
    unfold ckI at h
    split at h
    · rename_i x px y p ex
      rw [asCall_eq ex]
      obtain ⟨h, h4⟩ := and_t h
      obtain ⟨h, h3⟩ := and_t h
      obtain ⟨h1, h2⟩ := and_t h
      have e := of_decide_eq_true h1
      subst e
      obtain ⟨hg, hdb, hn⟩ := gl_of ok h2
      exact d_range1 (pi_range1 hg (ok.none _ (by decide +kernel)) (pa_cons (pe_lk (okE a c X _ ok h4).1) pa_nil (star1 h3)) (star1 h3))
    · cases h
  | _, .range a b, c, X, tg, x, ok, h => by
    unfold ckI at h
    split at h
    · rename_i x px y z p ex
      rw [asCall_eq ex]
      obtain ⟨h, h6⟩ := and_t h
      obtain ⟨h, h5⟩ := and_t h
      obtain ⟨h, h4⟩ := and_t h
      obtain ⟨h, h3⟩ := and_t h
      obtain ⟨h1, h2⟩ := and_t h
      have e := of_decide_eq_true h1
      subst e
      obtain ⟨hg, hdb, hn⟩ := gl_of ok h2
      have hs2 : starEach [y, z] X.env = [(false, eval y X.env), (false, eval z X.env)] := by rw [star1 h3, star1 h4]; rfl
      exact d_range2 (pi_range2 hg (ok.none _ (by decide +kernel)) (pa_cons (pe_lk (okE a c X _ ok h5).1) (pa_cons (pe_lk (okE b c X _ ok h6).1) pa_nil (star1 h4)) (star1 h3)) hs2 (star1 h4))
    · cases h
  | _, .enum e, c, X, tg, x, ok, h => by
    unfold ckI at h
    split at h
    · rename_i ts k pt x px y p et ex
      rw [asTup_eq et, asCall_eq ex]
      obtain ⟨h, h4⟩ := and_t h
      obtain ⟨h, h3⟩ := and_t h
      obtain ⟨h1, h2⟩ := and_t h
      have e' := of_decide_eq_true h1
      subst e'
      obtain ⟨hg, hdb, hn⟩ := gl_of ok h2
      exact d_enum (pi_enum hg (ok.none _ (by decide +kernel)) (pa_cons (okE e c X _ ok h4).1 pa_nil (star1 h3)) (star1 h3))
    · cases h
  | _, .zip a b, c, X, tg, x, ok, h => by
    unfold ckI at h
    split at h
    · rename_i ts k pt x px y z p et ex
      rw [asTup_eq et, asCall_eq ex]
      obtain ⟨h, h6⟩ := and_t h
      obtain ⟨h, h5⟩ := and_t h
      obtain ⟨h, h4⟩ := and_t h
      obtain ⟨h, h3⟩ := and_t h
      obtain ⟨h1, h2⟩ := and_t h
      have e := of_decide_eq_true h1
      subst e
      obtain ⟨hg, hdb, hn⟩ := gl_of ok h2
      have hpl : (backTo p (starEach [z] X.env)).any (·.1) = false := by rw [star1 h4]; rfl
      exact d_zip (pi_zip hg (ok.none _ (by decide +kernel)) (pa_cons (okE a c X _ ok h5).1 (pa_cons (okE b c X _ ok h6).1 pa_nil (star1 h4)) (star1 h3)) (star1 h3) hpl)
    · cases h
  | _, .rev e, c, X, tg, x, ok, h => by
    unfold ckI at h
    split at h
    · rename_i x px y p ex
      rw [asCall_eq ex]
      obtain ⟨h, h4⟩ := and_t h
      obtain ⟨h, h3⟩ := and_t h
      obtain ⟨h1, h2⟩ := and_t h
      have e' := of_decide_eq_true h1
      subst e'
      obtain ⟨hg, hdb, hn⟩ := gl_of ok h2
      exact d_rev (pi_reversed hg (ok.none _ (by decide +kernel)) (pa_cons (okE e c X _ ok h4).1 pa_nil (star1 h3)) (star1 h3))
    · cases h
theorem okG : ∀ (g : G) (c : Ce) (X : Cx) (x : Expr), Okx c n cl X → ckG c g x = true → PG X x (tG X.K g.slots (evG cl g))
  | .name i, c, X, x, ok, h => by
    unfold ckG at h
    split at h
    · rename_i x px ex
      rw [asName_eq ex]
      obtain ⟨h1, h2⟩ := and_t h
      obtain ⟨hl, hf⟩ := ok.st x h2
      exact d_gname (pg_name (by rw [ok.N]; exact ok.nd) (by rw [ok.N]; exact of_decide_eq_true h1) hl hf)
    · cases h
  | .tup gs, c, X, x, ok, h => by
    unfold ckG at h
    split at h
    · rename_i xs k p ex
      rw [asTup_eq ex]
      obtain ⟨h1, h2, h3⟩ := okGs gs c X xs ok h
      exact d_gtup ok.calm h1 h2 h3
    · cases h
  | .sub o i, c, X, x, ok, h => by
    unfold ckG at h
    split at h
    · rename_i x y p ex
      rw [asSub_eq ex]
      obtain ⟨h, h3⟩ := and_t h
      obtain ⟨h1, h2⟩ := and_t h
      exact d_gsub ok.u1 (okE o c X _ ok h2).1 (okE i c X _ ok h3).1 (fun v => by cases y <;> first | rfl | cases h1)
    · cases h
theorem okGs : ∀ (gs : List G) (c : Ce) (X : Cx) (xs : List Expr), Okx c n cl X → ckGs c gs xs = true → PGs X xs (tGs X.K (G.slotss gs) (evGs cl gs)) ∧ (assignEach xs X.env).length = gs.length ∧ (assignEach xs X.env).findIdx? (·.1) = none
  | [], c, X, [], ok, h => ⟨d_gnil, rfl, rfl⟩
  | g :: gs, c, X, x :: xs, ok, h => by
    unfold ckGs at h
    obtain ⟨h, h3⟩ := and_t h
    obtain ⟨h1, h2⟩ := and_t h
    obtain ⟨r1, r2, r3⟩ := okGs gs c X xs ok h3
    have ha : assignEach (x :: xs) X.env = (false, assign x X.env) :: assignEach xs X.env := by cases x <;> first | rfl | cases h1
    refine ⟨d_gcons (okG g c X x ok h2) r1 (by rw [ha]; rfl), by rw [ha, List.length_cons, List.length_cons, r2], ?_⟩
    rw [ha, List.findIdx?_cons]
    simp only [Bool.false_eq_true, if_false]
    rw [r3]; rfl
  | [], c, X, _ :: _, ok, h => by unfold ckGs at h; cases h
  | _ :: _, c, X, [], ok, h => by unfold ckGs at h; cases h
end
end
end Gp

/-! Gp, part M: statements, defs, a law's end. -/
namespace Gp
open PySem L2

section
variable [Cfg] {K : PySem.W.Frag} {f : Sta → Out T} {σ : L2.St} {H : Hp} {Q : VK}
theorem tF_of (h : tT K f σ H Q) : tF K f σ H Q := by
  obtain ⟨A, ρ, st, x, s1, r, ef, q⟩ := h
  exact ⟨A, ρ, st, x, s1, r, ef, fun ρ' v H' fr fx => q ρ' v H' fr (fx.rep r).1 (fx.rep r).2⟩
theorem tT_of (h : tD K (fun st => lk (f st)) σ H Q) : tT K f σ H Q := by
  obtain ⟨A, ρ, st, d, s2, r, ef, q⟩ := h
  obtain ⟨x, s1, e1, e2⟩ := Out.bind_ok ef
  refine ⟨A, ρ, st, x, s1, r, e1, fun ρ' v H' fr r' hx => ?_⟩
  obtain ⟨f2, r2, h2⟩ := leak_ok r' hx e2
  exact q ρ' v H' (fr.trans f2) r2 h2
end

/-- a comprehension that a name gets on its own line -/
def swapB (sc : Scope) (t : Str) (tl : Nat) (v : Expr) : Bool := match v with
  | .ListComp _ _ scope vp => sc.names.lookup t == some .local && tl == vp.line && !(scope.names.any fun (n, k) => n == t && (k == .local || k == .cell))
  | _ => false
def augB : BOp → Bool
  | .add => true
  | .sub => true
  | .bor => true
  | _ => false
def isTup : Expr → Bool
  | .Tuple .. => true
  | .List .. => true
  | _ => false
def isName : Expr → Bool
  | .Name .. => true
  | _ => false
def isLc : Expr → Bool
  | .ListComp .. => true
  | _ => false
def asSet : Stmt → Option (Str × Expr × Pos × Pos)
  | .Assign [.Name x px] v sp => some (x, v, px, sp)
  | _ => none
theorem asSet_eq {s : Stmt} {x : Str} {v : Expr} {px sp : Pos} (h : asSet s = some (x, v, px, sp)) : s = .Assign [.Name x px] v sp := by
  unfold asSet at h
  split at h
  · cases h; rfl
  · cases h
def asAsg : Stmt → Option (Expr × Expr × Pos)
  | .Assign [tg] v sp => some (tg, v, sp)
  | _ => none
theorem asAsg_eq {s : Stmt} {tg v : Expr} {sp : Pos} (h : asAsg s = some (tg, v, sp)) : s = .Assign [tg] v sp := by
  unfold asAsg at h
  split at h
  · cases h; rfl
  · cases h
def asAug : Stmt → Option (Str × Operator × Expr × Pos × Pos)
  | .AugAssign (.Name x px) o v sp => some (x, o, v, px, sp)
  | _ => none
theorem asAug_eq {s : Stmt} {x : Str} {o : Operator} {v : Expr} {px sp : Pos} (h : asAug s = some (x, o, v, px, sp)) : s = .AugAssign (.Name x px) o v sp := by
  unfold asAug at h
  split at h
  · cases h; rfl
  · cases h
def asEx : Stmt → Option (Expr × Pos)
  | .Expr v sp => some (v, sp)
  | _ => none
theorem asEx_eq {s : Stmt} {v : Expr} {sp : Pos} (h : asEx s = some (v, sp)) : s = .Expr v sp := by
  cases s <;> cases h <;> rfl
def asRet : Stmt → Option (Option Expr × Pos)
  | .Return v sp => some (v, sp)
  | _ => none
theorem asRet_eq {s : Stmt} {v : Option Expr} {sp : Pos} (h : asRet s = some (v, sp)) : s = .Return v sp := by
  cases s <;> cases h <;> rfl
def asIf : Stmt → Option (Expr × List Stmt × List Stmt × Pos)
  | .If t x y sp => some (t, x, y, sp)
  | _ => none
theorem asIf_eq {s : Stmt} {t : Expr} {x y : List Stmt} {sp : Pos} (h : asIf s = some (t, x, y, sp)) : s = .If t x y sp := by
  cases s <;> cases h <;> rfl
def asFor : Stmt → Option (Expr × Expr × List Stmt × Pos)
  | .For tg it x [] sp => some (tg, it, x, sp)
  | _ => none
theorem asFor_eq {s : Stmt} {tg it : Expr} {x : List Stmt} {sp : Pos} (h : asFor s = some (tg, it, x, sp)) : s = .For tg it x [] sp := by
  unfold asFor at h
  split at h
  · cases h; rfl
  · cases h
def asForN : Stmt → Option (Expr × Str × List Stmt × Pos × Pos)
  | .For tg (.Name n p) x [] sp => some (tg, n, x, p, sp)
  | _ => none
theorem asForN_eq {s : Stmt} {tg : Expr} {n : Str} {x : List Stmt} {p sp : Pos} (h : asForN s = some (tg, n, x, p, sp)) : s = .For tg (.Name n p) x [] sp := by
  unfold asForN at h
  split at h
  · cases h; rfl
  · cases h
def asWh : Stmt → Option (Expr × List Stmt × Pos)
  | .While t x [] sp => some (t, x, sp)
  | _ => none
theorem asWh_eq {s : Stmt} {t : Expr} {x : List Stmt} {sp : Pos} (h : asWh s = some (t, x, sp)) : s = .While t x [] sp := by
  unfold asWh at h
  split at h
  · cases h; rfl
  · cases h
def isPass : Stmt → Bool
  | .Pass _ => true
  | _ => false
def isBrk : Stmt → Bool
  | .Break _ => true
  | _ => false
def isCont : Stmt → Bool
  | .Continue _ => true
  | _ => false
def asFs : Stmt → Option (Expr × Str × Expr × Pos × Pos)
  | .Assign [.Attribute x f px] v sp => some (x, f, v, px, sp)
  | _ => none
theorem asFs_eq {s : Stmt} {x v : Expr} {f : Str} {px sp : Pos} (h : asFs s = some (x, f, v, px, sp)) : s = .Assign [.Attribute x f px] v sp := by
  unfold asFs at h
  split at h
  · cases h; rfl
  · cases h
mutual
def ckS (c : Ce) : S → Stmt → Bool
  | .set i e own, s => (match asSet s with
    | some (x, v, _, _) => decide (c.N[i]? = some x) && locB c.ow x && (!own || isFresh c.tab e) && (notComp v || isLc v) && ckE c e v
    | none => false)
  | .asg g e, s => (match asAsg s with
    | some (tg, v, _) => notStar tg && !(isName tg) && !(isTup tg && isTup v) && ckG c g tg && ckE c e v
    | none => false)
  | .aug i op e, s => (match asAug s with
    | some (x, o, v, _, _) => decide (c.N[i]? = some x) && locB c.ow x && decide (o = op.py) && augB op && ckE c e v
    | none => false)
  | .ex e, s => (match asEx s with
    | some (v, _) => notComp v && ckE c e v
    | none => false)
  | .ret e fr, s => (match asRet s with
    | some (some v, _) => (!fr || isFresh c.tab e) && ckE c e v
    | _ => false)
  | .retN, s => (match asRet s with
    | some (none, _) => true
    | _ => false)
  | .ite d a b, s => (match asIf s with
    | some (t, x, y, _) => ckC c d t && ckSs c a x && ckSs c b y
    | none => false)
  | .for g it body, s => (match asFor s with
    | some (tg, iter, b, _) => notSet iter && ckI c it tg iter && ckG c g tg && ckSs c body b
    | none => false)
  | .forO i g body, s => (match asForN s with
    | some (tg, x, b, _, _) => decide (c.N[i]? = some x) && visB c.sc x && okName x && ckG c g tg && ckSs c body b
    | none => false)
  | .wh d body, s => (match asWh s with
    | some (t, b, _) => ckC c d t && ckSs c body b
    | none => false)
  | .pass, s => isPass s
  | .brk, s => isBrk s
  | .cont, s => isCont s
  | .fset o n cs e, s => (match asFs s with
    | some (x, f, v, _, _) => decide (c.T.at_[n]? = some f) && cs.all (fun k => decide (k < c.T.cs.length)) && ckE c o x && ckE c e v
    | none => false)
  | .never, _ => true
def ckSs (c : Ce) : List S → List Stmt → Bool
  | [], xs => xs.isEmpty
  | s :: ss, xs => (match xs with
    | x :: xs => ckS c s x && ckSs c ss xs
    | [] => false)
end
def isNew : E → Bool
  | .new _ => true
  | _ => false
theorem lc_of {c : Ce} {e : E} {elt : Expr} {gens : List Comprehension} {scope : Scope} {p : Pos} (h : ckE c e (.ListComp elt gens scope p) = true) (hn : isNew e = false) : ∃ e' g it cs own tg iter ifs, e = .comp e' g it cs own ∧ gens = [⟨tg, iter, ifs, 0⟩] ∧ (blkC c.N c.sc scope (ownNames c.N own) && notSet iter && g.plain && g.slots.all (fun i => own.contains i) && decide (ifs.length ≤ 1) && ckI c it tg iter &&
      ckG ⟨c.N, relS scope c.sc, scope, c.tab, c.T⟩ g tg && ckCs ⟨c.N, relS scope c.sc, scope, c.tab, c.T⟩ cs ifs && ckE ⟨c.N, relS scope c.sc, scope, c.tab, c.T⟩ e' elt) = true := by
  cases e <;> first | (cases h; done) | (cases hn; done) | skip
  unfold ckE at h
  split at h
  · rename_i elt' tg iter ifs scope' p' ex
    have e1 := asLc_eq ex
    cases e1
    exact ⟨_, _, _, _, _, _, _, _, rfl, rfl, h⟩
  · cases h
structure Oks [Cfg] (c : Ce) (n : Nat) (cl : CallF) (X : Cx) : Prop extends Okx c n cl X where
  px : PassesOwn (model X.prog X.w) X.A X.env X.xe
  kind : c.sc.kind = .function
section
variable [Cfg] {n : Nat} {cl : CallF} {x y z : Expr} {pos : Pos}
theorem swap_comp {c : Ce} {X : Cx} (ok : Oks c n cl X) {t : Str} {tp : Pos} {l : Nat} {elt : Expr} {gs : List Comprehension} {scope : Scope} {p : Pos} :
    swapsWith (.ListComp elt gs scope p) (some (.Name t tp)) l X.env = pure (swapB c.sc t tp.line (.ListComp elt gs scope p)) := by
  have hb : X.env.blockKind = .function := by
    unfold Env.blockKind
    rw [ok.sc, ok.kind]
    rfl
  have hk : X.env.kindOf t = c.sc.names.lookup t := by
    show X.env.scope.names.lookup t = _
    rw [ok.sc]
  show (pure (X.env.blockKind == .function && X.env.kindOf t == some .local && tp.line == p.line && !(scope.names.any fun (n, k) => n == t && (k == .local || k == .cell))) : Sem Bool) = _
  rw [hb, hk]
  rfl
theorem d_nameC {c : Ce} {X : Cx} (ok : Oks c n cl X) {i : Nat} {t : Str} {tp sp : Pos} {e : E} {elt : Expr} {gens : List Comprehension} {scope : Scope} {p : Pos} (hi : c.N[i]? = some t) (hl : locB c.ow t = true)
    (hsw : swapsWith (.ListComp elt gens scope p) (some (.Name t tp)) sp.line X.env = pure true) (hlocal : X.env.scope.names.lookup t = some .local) (h : ckE c e (.ListComp elt gens scope p) = true) (hn : isNew e = false) : PS X (.Assign [.Name t tp] (.ListComp elt gens scope p) sp) (tAsg (tF X.K (evT cl e)) (gName i)) := by
  obtain ⟨hloc, hf⟩ := ok.st t hl
  have nd : X.N.Nodup := by rw [ok.N]; exact ok.nd
  have hi' : X.N[i]? = some t := by rw [ok.N]; exact hi
  obtain ⟨e, g, it, cs, own, tg, iter, ifs, rfl, rfl, h⟩ := lc_of h hn
  obtain ⟨h, h9⟩ := and_t h
  obtain ⟨h, h8⟩ := and_t h
  obtain ⟨h, h7⟩ := and_t h
  obtain ⟨h, h6⟩ := and_t h
  obtain ⟨h, h5⟩ := and_t h
  obtain ⟨h, h4⟩ := and_t h
  obtain ⟨h, h3⟩ := and_t h
  obtain ⟨h1, h2⟩ := and_t h
  have hW : ∀ i ∈ g.slots, i ∈ own := fun i hi => by simpa using List.all_eq_true.mp h4 i hi
  have hbk : BlkOk X.N X.env.scope scope (ownNames c.N own) := by rw [ok.N, ok.sc]; exact blkOk_by h1
  have hi2 := okI true it c X tg iter ok.toOkx h6
  have hg : ∀ (s : Shared) (H : Hp) (C : Addr) (cells : List (Str × Addr)) (fp : List Addr), PG (X.blk s H scope (compEnvC scope cells C X.env) fp) tg (tG X.K g.slots (evG cl g)) := fun s H C cells fp => okG g _ _ _ (Okx.blk ok.toOkx) h7
  have ht : ∀ (s : Shared) (H : Hp) (C : Addr) (cells : List (Str × Addr)) (fp : List Addr), PTs (X.blk s H scope (compEnvC scope cells C X.env) fp) ifs (tBo X.K (evAll cl cs)) := fun s H C cells fp => okCs cs _ _ _ (Okx.blk ok.toOkx) (of_decide_eq_true h5) h8
  have he : ∀ (s : Shared) (H : Hp) (C : Addr) (cells : List (Str × Addr)) (fp : List Addr), PE (X.blk s H scope (compEnvC scope cells C X.env) fp) elt (tD X.K fun st => lk (evT cl e st)) := fun s H C cells fp => pe_lk (okE e _ (X.blk s H scope (compEnvC scope cells C X.env) fp) elt (Okx.blk ok.toOkx) h9).1
  have hlc := ps_setLc (spos := sp) (py := tp) ok.calm nd hi' hlocal hsw hi2 hbk hg ht he (set_of h2)
  rw [own_map] at hlc
  exact hlc.imp fun D σ H hq => tLc_ok hW (fun d st s1 => evG_len h3) σ H _ hq
/-- name = value: the store's reading -/
theorem d_name {c : Ce} {X : Cx} (ok : Oks c n cl X) {i : Nat} {t : Str} {tp sp : Pos} {v : Expr} {e : E} (hi : c.N[i]? = some t) (hl : locB c.ow t = true) (hv : (notComp v || isLc v) = true) (h : ckE c e v = true) : PS X (.Assign [.Name t tp] v sp) (tAsg (tT X.K (evT cl e)) (gName i)) ∧ (isFresh c.tab e = true → PS X (.Assign [.Name t tp] v sp) (tAsg (tF X.K (evT cl e)) (gName i))) := by
  obtain ⟨hloc, hf⟩ := ok.st t hl
  obtain ⟨h1, h2⟩ := okE e c X v ok.toOkx h
  have nd : X.N.Nodup := by rw [ok.N]; exact ok.nd
  have hi' : X.N[i]? = some t := by rw [ok.N]; exact hi
  by_cases hc : notComp v = true
  · exact ⟨ps_set nd hi' hloc h1 (swap_of hc) hf, fun z => ps_set nd hi' hloc (h2 z) (swap_of hc) hf⟩
  · have hlc : isLc v = true := by
      rcases Bool.or_eq_true_iff.mp hv with z | z
      · exact absurd z hc
      · exact z
    cases v <;> first | (cases hlc; done) | skip
    rename_i elt gens scope p
    have hsw := swap_comp ok (t := t) (tp := tp) (l := sp.line) (elt := elt) (gs := gens) (scope := scope) (p := p)
    cases hb : swapB c.sc t tp.line (.ListComp elt gens scope p) with
    | false =>
      rw [hb] at hsw
      exact ⟨ps_set nd hi' hloc h1 hsw hf, fun z => ps_set nd hi' hloc (h2 z) hsw hf⟩
    | true =>
      rw [hb] at hsw
      have hlocal : X.env.scope.names.lookup t = some .local := by
        obtain ⟨h3, _⟩ := and_t (show (c.sc.names.lookup t == some .local && tp.line == p.line && !(scope.names.any fun (n, k) => n == t && (k == .local || k == .cell))) = true from hb)
        obtain ⟨h3, _⟩ := and_t h3
        rw [ok.sc]
        exact eq_of_beq h3
      cases hn : isNew e with
      | false =>
        have hF := d_nameC (sp := sp) ok hi hl hsw hlocal h hn
        exact ⟨hF.imp fun D σ H hq => tF_of hq, fun _ => hF⟩
      | true =>
        cases e <;> first | (cases hn; done) | skip
        rename_i e
        unfold ckE at h
        obtain ⟨h1, h2⟩ := and_t h
        have hn2 : isNew e = false := by cases e <;> first | rfl | cases h1
        have hF := d_nameC (sp := sp) ok hi hl hsw hlocal h2 hn2
        exact ⟨hF.imp fun D σ H hq => new_imp _ _ _ hq, fun z => by cases z⟩
theorem names_of {g : Expr} (h : notStar g = true) {X : Cx} : (assignEach [g] X.env).map (·.2) = [assign g X.env] := by
  cases g <;> first | rfl | cases h
theorem sole_of {tg v : Expr} {l : Nat} {env : PySem.Env} (h : isName tg = false) : swapsWithSole [tg] v l env = pure false := by
  cases tg <;> first
    | (cases h; done)
    | (cases v <;> rfl)
theorem swapped_of {tg v : Expr} {env : PySem.Env} (h : (isTup tg && isTup v) = false) : swappedStores [tg] v env = pure none := by
  cases tg <;> first
    | rfl
    | (cases v <;> first | rfl | (cases h; done))
mutual
theorem okS : ∀ (s : S) (c : Ce) (X : Cx) (x : Stmt), Oks c n cl X → ckS c s x = true → PS X x (tS X.K (evS cl s))
  | .set i e own, c, X, x, ok, h => by
    unfold ckS at h
    split at h
    · rename_i t v tp sp ex
      rw [asSet_eq ex]
      obtain ⟨h, h5⟩ := and_t h
      obtain ⟨h, h4⟩ := and_t h
      obtain ⟨h, h3⟩ := and_t h
      obtain ⟨h1, h2⟩ := and_t h
      obtain ⟨r1, r2⟩ := d_name ok (sp := sp) (tp := tp) (of_decide_eq_true h1) h2 h4 h5
      cases own with
      | false => exact d_setv (r1.imp fun D σ H hq => tT_of hq)
      | true =>
        have hf : isFresh c.tab e = true := h3
        exact d_seto (r2 hf) (evT_v hf)
    · cases h
  | .asg g e, c, X, x, ok, h => by
    unfold ckS at h
    split at h
    · rename_i tg v sp ex
      rw [asAsg_eq ex]
      obtain ⟨h, h5⟩ := and_t h
      obtain ⟨h, h4⟩ := and_t h
      obtain ⟨h, h3⟩ := and_t h
      obtain ⟨h1, h2⟩ := and_t h
      exact d_asg (ps_asg (pe_lk (okE e c X v ok.toOkx h5).1) (okG g c X tg ok.toOkx h4) (sole_of (by simpa using h2)) (swapped_of (by revert h3; cases (isTup tg && isTup v) <;> decide)) (names_of h1))
    · cases h
  | .aug i op e, c, X, x, ok, h => by
    unfold ckS at h
    split at h
    · rename_i t o v tp sp ex
      rw [asAug_eq ex]
      obtain ⟨h, h5⟩ := and_t h
      obtain ⟨h, h4⟩ := and_t h
      obtain ⟨h, h3⟩ := and_t h
      obtain ⟨h1, h2⟩ := and_t h
      have e' := of_decide_eq_true h3
      subst e'
      obtain ⟨hloc, hf⟩ := ok.st t h2
      have hop : op = .add ∨ op = .sub ∨ op = .bor := by cases op <;> first | (cases h4; done) | simp
      exact d_aug (ps_aug (by rw [ok.N]; exact ok.nd) (by rw [ok.N]; exact of_decide_eq_true h1) hloc (pe_lk (okE e c X v ok.toOkx h5).1) (intFi_ok op hop) hf)
    · cases h
  | .ex e, c, X, x, ok, h => by
    unfold ckS at h
    split at h
    · rename_i v sp ex
      rw [asEx_eq ex]
      obtain ⟨h1, h2⟩ := and_t h
      exact d_ex (okE e c X v ok.toOkx h2).1 (swap_of h1)
    · cases h
  | .ret e fr, c, X, x, ok, h => by
    unfold ckS at h
    split at h
    · rename_i v sp ex
      rw [asRet_eq ex]
      obtain ⟨h1, h2⟩ := and_t h
      cases fr with
      | false => exact d_ret (okE e c X v ok.toOkx h2).1
      | true =>
        have hf : isFresh c.tab e = true := h1
        exact d_retF ((okE e c X v ok.toOkx h2).2 hf) (evT_v hf)
    · cases h
  | .retN, c, X, x, ok, h => by
    unfold ckS at h
    split at h
    · rename_i sp ex
      rw [asRet_eq ex]
      exact d_retN
    · cases h
  | .ite d a b, c, X, x, ok, h => by
    unfold ckS at h
    split at h
    · rename_i t y z sp ex
      rw [asIf_eq ex]
      obtain ⟨h, h3⟩ := and_t h
      obtain ⟨h1, h2⟩ := and_t h
      exact d_if (okC d c X t ok.toOkx h1).1 (okSs a c X y ok h2) (okSs b c X z ok h3)
    · cases h
  | .for g it body, c, X, x, ok, h => by
    unfold ckS at h
    split at h
    · rename_i tg iter b sp ex
      rw [asFor_eq ex]
      obtain ⟨h, h4⟩ := and_t h
      obtain ⟨h, h3⟩ := and_t h
      obtain ⟨h1, h2⟩ := and_t h
      exact d_for ok.px ok.calm (okI false it c X tg iter ok.toOkx h2) (okG g c X tg ok.toOkx h3) (okSs body c X b ok h4) (set_of h1)
    · cases h
  | .forO i g body, c, X, x, ok, h => by
    unfold ckS at h
    split at h
    · rename_i tg n b p sp ex
      rw [asForN_eq ex]
      obtain ⟨h, h5⟩ := and_t h
      obtain ⟨h, h4⟩ := and_t h
      obtain ⟨h, h3⟩ := and_t h
      obtain ⟨h1, h2⟩ := and_t h
      obtain ⟨h3, h3'⟩ := and_t h3
      exact d_forO ok.px ok.calm (by rw [ok.N]; exact of_decide_eq_true h1) (vis_of ok.toOkx h2) (by simpa using h3) (by simpa using h3') (okG g c X tg ok.toOkx h4) (okSs body c X b ok h5)
    · cases h
  | .wh d body, c, X, x, ok, h => by
    unfold ckS at h
    split at h
    · rename_i t b sp ex
      rw [asWh_eq ex]
      obtain ⟨h1, h2⟩ := and_t h
      exact d_wh ok.px (okC d c X t ok.toOkx h1).1 (okSs body c X b ok h2)
    · cases h
  | .pass, c, X, x, ok, h => by
    have h : isPass x = true := by unfold ckS at h; exact h
    cases x <;> first | (cases h; done) | exact d_pass
  | .brk, c, X, x, ok, h => by
    have h : isBrk x = true := by unfold ckS at h; exact h
    cases x <;> first | (cases h; done) | exact d_brk
  | .cont, c, X, x, ok, h => by
    have h : isCont x = true := by unfold ckS at h; exact h
    cases x <;> first | (cases h; done) | exact d_cont
  | .fset o i cs e, c, X, x, ok, h => by
    unfold ckS at h
    split at h
    · rename_i x f v px sp ex
      rw [asFs_eq ex]
      obtain ⟨h, h4⟩ := and_t h
      obtain ⟨h, h3⟩ := and_t h
      obtain ⟨h1, h2⟩ := and_t h
      have e' := of_decide_eq_true h1
      have := d_fset (pos := sp) (pos' := px) (n := i) (cs := cs) (okE o c X x ok.toOkx h3).1 (okE e c X v ok.toOkx h4).1 swap_attr (ok.attr e' h2)
      rw [ok.fldK e'] at this
      exact this
    · cases h
  | .never, c, X, x, ok, h => ps_never.imp fun D σ H ⟨A, ρ, st, t, s1, r, ef, q⟩ => by cases ef
theorem okSs : ∀ (s : List S) (c : Ce) (X : Cx) (x : List Stmt), Oks c n cl X → ckSs c s x = true → PSs X x (tS X.K (evSs cl s))
  | [], c, X, x, ok, h => by
    unfold ckSs at h
    cases x with
    | nil => exact d_snil
    | cons _ _ => cases h
  | s :: ss, c, X, x, ok, h => by
    unfold ckSs at h
    cases x with
    | nil => cases h
    | cons x xs =>
      obtain ⟨h1, h2⟩ := and_t (show (ckS c s x && ckSs c ss xs) = true from h)
      exact d_scons (okS s c X x ok h1) (okSs ss c X xs ok h2)
end
end

/-! ### defs -/
/-- a def of the text: the small language's def, its qualified name, its statement, its names by slot -/
structure Ent where
  df : Def
  qual : Str
  st : Stmt
  N : List Str
  ps : List Str
def scopeB (N P : List Str) (sc : Scope) : Bool :=
  decide (sc.kind = .function) && (!sc.isCoroutine) && (!sc.isGenerator) && decide (N.Nodup) && decide (N.take P.length = P) && (P.all fun x => locB sc x) && (sc.names.all fun y => decide (y.2 ≠ .free))
theorem scopeB_ok {N P : List Str} {sc : Scope} (h : scopeB N P sc = true) : FnScope N P sc := by
  obtain ⟨h, h7⟩ := and_t h
  obtain ⟨h, h6⟩ := and_t h
  obtain ⟨h, h5⟩ := and_t h
  obtain ⟨h, h4⟩ := and_t h
  obtain ⟨h, h3⟩ := and_t h
  obtain ⟨h1, h2⟩ := and_t h
  refine ⟨of_decide_eq_true h1, by simpa using h2, by simpa using h3, of_decide_eq_true h4, of_decide_eq_true h5, fun x hx => ?_, fun y hy => of_decide_eq_true (List.all_eq_true.mp h7 y hy)⟩
  have q := List.all_eq_true.mp h6 x hx
  unfold locB at q
  split at q
  · rename_i e; exact .inl e
  · rename_i e; exact .inr e
  · cases q
def entB (T : Tb) (tab : List Def) (e : Ent) : Bool := scopeB e.N e.ps (defScope e.st) && decide (e.df.np = e.ps.length) && decide (e.df.ns = e.N.length) && ckSs ⟨e.N, defScope e.st, defScope e.st, tab, T⟩ e.df.body (defBody e.st)

section
variable [Cfg] {K : PySem.W.Frag} {A : Addr → Prop} {ρ ρ' : Nat → Addr} {σ σ' : L2.St} {H H' : Hp} {st st' : Sta}
/-- a def's state at the entry -/
def begun (ds : List D) (k : Nat) : Env := ds.map .val ++ List.replicate k .no
theorem begun_own {ds : List D} {k i : Nat} {d : D} : ¬ (begun ds k)[i]? = some (Slot.own d) := fun h => by
  unfold begun at h
  by_cases hi : i < ds.length
  · rw [List.getElem?_append_left (by simpa using hi), List.getElem?_map] at h
    cases e : ds[i]? with
    | none => rw [e] at h; cases h
    | some _ => rw [e] at h; cases h
  · rw [List.getElem?_append_right (by simpa using hi), List.getElem?_replicate] at h
    split at h <;> cases h
theorem own_begun {ds : List D} {k : Nat} {a : Addr} : ¬ Own (begun ds k) σ a := fun ⟨_, _, h, _⟩ => begun_own h
theorem Reps.get' {n : Nat} {L : Addr → Prop} {ds : List D} {vs : List V} {i : Nat} {d : D} (h : Reps K ρ n L H ds vs) (e : ds[i]? = some d) : ∃ v, vs[i]? = some v ∧ Rep K ρ n L H d v := h.get e
theorem Rel.begin {S : Store} {ds : List D} {vs : List V} {N : List Str} {np : Nat} (r : Rel K A ρ [] H ⟨[], S⟩) (h : Reps K ρ S.length (Ch A ρ [] ⟨[], S⟩) H ds vs) (hn : ds.length = np) (hN : np ≤ N.length) : Rel K A ρ (L2.start N vs) H ⟨begun ds (N.length - np), S⟩ := by
  have hch : ∀ a, Ch A ρ (L2.start N vs) ⟨begun ds (N.length - np), S⟩ a → Ch A ρ [] ⟨[], S⟩ a := fun a z => z.elim (fun z => Or.inl z) fun z => z.elim (fun z => Or.inr (Or.inl z)) fun z => (own_begun z).elim
  have kp : Keep ρ S.length (Ch A ρ [] ⟨[], S⟩) H ρ S.length (Ch A ρ (L2.start N vs) ⟨begun ds (N.length - np), S⟩) H := Keep.less hch fun a z => r.chH z
  refine ⟨?_, fun i d e => ?_, fun i d e => (begun_own e).elim, fun m xs e => ?_, r.tr, fun i j d e a h => (begun_own h).elim, r.cc, fun i d m xs h => (begun_own h).elim, fun i d h => (begun_own h).elim⟩
  · show (begun ds (N.length - np)).length = (L2.start N vs).length
    unfold begun L2.start
    rw [List.length_append, List.length_append, List.length_map, List.length_map, List.length_replicate, List.length_replicate, h.length]
    omega
  · have e : (begun ds (N.length - np))[i]? = some (Slot.val d) := e
    unfold begun at e
    by_cases hi : i < ds.length
    · rw [List.getElem?_append_left (by simpa using hi), List.getElem?_map] at e
      cases e1 : ds[i]? with
      | none => rw [e1] at e; cases e
      | some d' =>
        rw [e1] at e; cases e
        obtain ⟨v, h1, h2⟩ := h.get e1
        refine ⟨v, ?_, Rep.keep kp h2⟩
        unfold L2.start
        rw [List.getElem?_append_left (by rw [List.length_map, h.length]; exact hi), List.getElem?_map, h1]
        rfl
    · rw [List.getElem?_append_right (by simpa using hi), List.getElem?_replicate] at e
      split at e <;> cases e
  · obtain ⟨na, c⟩ := r.cell m xs e
    exact ⟨na, c.keep kp fun o z => z⟩
theorem Rel.bare (r : Rel K A ρ σ H st) : Rel K A ρ [] H ⟨[], st.S⟩ := r.drop.weak fun a z => .inl z
theorem ch_bare {a : Addr} (h : Ch A ρ [] ⟨[], st.S⟩ a) : Ch A ρ σ st a := h.elim .inl fun h => h.elim (fun z => .inr (.inl z)) fun z => (own_nil z).elim
theorem fr_bare {ds : List D} {k : Nat} {S : Store} (f : Fr A ρ σ H ⟨begun ds k, S⟩ ρ' σ' H' st') : Fr A ρ [] H ⟨[], S⟩ ρ' [] H' ⟨[], st'.S⟩ :=
  ⟨f.rho, f.sz, fun a o e h1 h2 => f.at_ a o e h1 own_begun, f.free, fun a z => (f.live a z).elim .inl fun z => z.elim (fun z => (own_begun z).elim) fun z => .inr (.inr z), fun a z => (own_nil z).elim, fun i z => by simp at z⟩
end

section
variable {P : Program} {w : World} {K : PySem.W.Frag} {mg : Str → Option Value} {base : Heap}
/-- what is known of the text -/
def FactAll [Cfg] (K : PySem.W.Frag) (mg : Str → Option Value) (T : Tb) : Nat → List Ent → Prop
  | _, [] => True
  | k, e :: r => (∃ fd, Fun K e.df.name e.qual e.st (Cfg.fA k) fd) ∧ (T.isM k = false → mg e.df.name = some (.ref (Cfg.fA k))) ∧ FactAll K mg T (k + 1) r
theorem FactAll.get [Cfg] {K : PySem.W.Frag} {mg : Str → Option Value} {T : Tb} : ∀ {ents : List Ent} {k f : Nat} {e : Ent}, FactAll K mg T k ents → ents[f]? = some e → (∃ fd, Fun K e.df.name e.qual e.st (Cfg.fA (k + f)) fd) ∧ (T.isM (k + f) = false → mg e.df.name = some (.ref (Cfg.fA (k + f))))
  | e :: r, k, 0, _, h, he => by cases he; exact ⟨h.1, h.2.1⟩
  | e :: r, k, f + 1, _, h, he => by
    have := FactAll.get (f := f) h.2.2 he
    rw [show k + (f + 1) = k + 1 + f by omega]
    exact this
structure Known0 [Cfg] (K : PySem.W.Frag) (mg : Str → Option Value) (T : Tb) (ents : List Ent) : Prop where
  none : ∀ x ∈ bNames, mg x = Option.none
  fact : FactAll K mg T 0 ents
  at_ : ∀ i, Cfg.aN i = aName T.at_ i
  cls : ∀ k x, T.cs[k]? = some x → Cls K (Cfg.cA k) ∧ (∀ f ∈ T.at_, NoAttr K (Cfg.cA k) f) ∧ mg x = some (.ref (Cfg.cA k))
  ini : ∀ k f, T.ini[k]? = some f → Mk K (Cfg.cA k) (Cfg.fA f)
  ms : ∀ m k f, (m, k, f) ∈ T.ms → Meth K (Cfg.cA k) m (Cfg.fA f)
  gl : ∀ x d, (x, d) ∈ T.gl → ∃ v u, mg x = some u ∧ RelV v u ∧ ∀ (K : PySem.W.Frag) (ρ : Nat → Addr) (n : Nat) (L : Addr → Prop) (H : Hp), Rep K ρ n L H d v
structure Known [Cfg] (K : PySem.W.Frag) (mg : Str → Option Value) (T : Tb) (ents : List Ent) : Prop extends Known0 K mg T ents where
  bind : ∀ (f : Nat) (e : Ent) (fd : FuncData), ents[f]? = some e → Fun K e.df.name e.qual e.st (Cfg.fA f) fd → Binds K fd e.ps []
  ck : ∀ (f : Nat) (e : Ent), ents[f]? = some e → entB T (ents.map (·.df)) e = true
theorem callN_np {tab : List Def} : ∀ {n f : Nat} {df : Def} {ds : List D} {S : Store} {r : D × Store}, tab[f]? = some df → callN tab n f ds S = some r → ds.length = df.np
  | 0, _, _, _, _, _, _, h => by cases h
  | n + 1, f, df, ds, S, r, e, h => by
    unfold callN at h
    rw [e] at h
    have h : runD (callN tab n) df ds S = some r := h
    unfold runD at h
    split at h
    · assumption
    · cases h
theorem lib_ok [Cfg] {T : Tb} {ents : List Ent} (Kn : Known K mg T ents) : ∀ (n f : Nat) (e : Ent) (fd : FuncData), ents[f]? = some e → Fun K e.df.name e.qual e.st (Cfg.fA f) fd → FnOk P w K mg base CX0 (2 * n) (Cfg.fA f) fd e.ps (spF K (callN (ents.map (·.df)) n f) e.df.np e.df.fr)
  | 0, f, e, fd, he, F => by
    refine ⟨fun vs H Q E h => ?_, fun A outer s H args us vs Q E _ _ _ _ h => ?_⟩
    · obtain ⟨_, _, _, _, _, _, _, _, _, h, _⟩ := h
      cases h
    · obtain ⟨_, _, _, _, _, _, _, _, _, h, _⟩ := h
      cases h
  | n + 1, f, e, fd, he, F => by
    have hck := Kn.ck f e he
    obtain ⟨hck, h4⟩ := and_t hck
    obtain ⟨hck, h3⟩ := and_t hck
    obtain ⟨h1, h2⟩ := and_t hck
    have S := scopeB_ok h1
    have hnp := of_decide_eq_true h2
    have hns := of_decide_eq_true h3
    have htab : (ents.map (·.df))[f]? = some e.df := by rw [List.getElem?_map, he]; rfl
    have hpl : e.ps.length ≤ e.N.length := by have := congrArg List.length S.pre; rw [List.length_take] at this; omega
    refine F.ok (k := 2 * n + 1) S (fun vs H Q E h => ?_) (fun cdv A outer s H vs Q E hr h => ?_)
    · obtain ⟨_, _, _, ds, _, _, h1, _, h2, _⟩ := h
      rw [h2.length, h1, hnp]
    · obtain ⟨A', ρ, St, ds, d, S', hl, r, hreps, hF, q⟩ := h
      refine ⟨tS K (evSs (callN (ents.map (·.df)) n) e.df.body), okSs (n := 2 * n) (cl := callN (ents.map (·.df)) n) e.df.body ⟨e.N, defScope e.st, defScope e.st, ents.map (·.df), T⟩ _ (defBody e.st)
        ⟨⟨rfl, S.nd, rfl, fun x hx => ?_, rfl, hr, Kn.none, fun g df hg => ?_, fun g df hg hM => ?_, fun g df ds S r hg hr => callN_np hg hr, Kn.at_, Kn.cls, Kn.ini, Kn.ms, Kn.gl⟩, PassesOwn.never, S.kind⟩ h4, ?_⟩
      · unfold locB at hx
        split at hx
        · rename_i e; exact ⟨.inl e, .inl rfl⟩
        · rename_i e; exact ⟨.inr e, .inl rfl⟩
        · cases hx
      · rw [List.getElem?_map] at hg
        cases eg : ents[g]? with
        | none => rw [eg] at hg; cases hg
        | some e' =>
          rw [eg] at hg; cases hg
          obtain ⟨⟨fd', h1⟩, _⟩ := Kn.fact.get eg
          rw [Nat.zero_add] at h1
          exact ⟨fd', e'.ps, lib_ok Kn n g e' fd' eg h1, h1.kp, Kn.bind g e' fd' eg h1⟩
      · rw [List.getElem?_map] at hg
        cases eg : ents[g]? with
        | none => rw [eg] at hg; cases hg
        | some e' =>
          rw [eg] at hg; cases hg
          obtain ⟨_, h1⟩ := Kn.fact.get eg
          rw [Nat.zero_add] at h1
          exact h1 hM
      · unfold callN at hF
        rw [htab] at hF
        have hF : runD (callN (ents.map (·.df)) n) e.df ds St = some (d, S') := hF
        unfold runD at hF
        rw [if_pos hl] at hF
        have r0 := r.begin (N := e.N) (np := e.df.np) hreps hl (by rw [hnp]; exact hpl)
        have hbeg : (⟨ds.map Slot.val ++ List.replicate (e.df.ns - e.df.np) Slot.no, St⟩ : Sta) = ⟨begun ds (e.N.length - e.df.np), St⟩ := by rw [hns]; rfl
        rw [hbeg] at hF
        split at hF
        · rename_i d' fr st1 hev
          split at hF
          · rename_i hfr
            cases hF
            refine ⟨A', ρ, ⟨begun ds (e.N.length - e.df.np), St⟩, .rt d fr, st1, r0, hev, fun ρ' σ' v H' f hrt => ?_⟩
            refine q ρ' v H' (fr_bare f) ?_
            unfold RtOk at hrt
            rw [hfr] at hrt
            cases hfr' : e.df.fr with
            | true =>
              rw [hfr'] at hrt
              simp only [if_true] at hrt ⊢
              rcases hrt with ⟨b, e1, e2, n, h1, h2⟩ | ⟨h0, h1, h2⟩
              · exact .inl ⟨d, b, rfl, e1, e2, n.elim .inl fun z => (own_begun z).elim, h1.bare, h2.keep (Keep.less (fun a z => ch_bare z) fun a z => h1.chH z) fun o z => z⟩
              · exact .inr ⟨fun d' z => by cases z; exact h0, h1.bare, Rep.keep (Keep.less (fun a z => ch_bare z) fun a z => h1.chH z) h2⟩
            | false =>
              rw [hfr'] at hrt
              simp only [Bool.false_eq_true, if_false] at hrt ⊢
              exact ⟨hrt.1.bare, Rep.keep (Keep.less (fun a z => ch_bare z) fun a z => hrt.1.chH z) hrt.2⟩
          · cases hF
        · rename_i st1 hev
          split at hF
          · cases hF
          · rename_i hfr
            cases hF
            refine ⟨A', ρ, ⟨begun ds (e.N.length - e.df.np), St⟩, .nx, st1, r0, hev, fun ρ' σ' H' f hr' => ?_⟩
            refine q ρ' .non H' (fr_bare f) ?_
            rw [if_neg hfr]
            exact ⟨hr'.bare, rfl⟩
        · cases hF

/-! ### a law -/
def spLaw (K : PySem.W.Frag) : Sp := fun vs H Q _ => ∃ (a : Addr) (ns : List Int), vs = [.ref a] ∧ Only H ∧ SqL K H a (ns.map V.int) ∧ ns.length ≤ 63 ∧ ∀ H', Q (.bl true) H'
theorem law_sp [Cfg] {F : List D → Store → Option (D × Store)} (hF : ∀ ns : List Int, ns.length ≤ 63 → ∃ S', F [.lst (ns.map D.int)] [] = some (.bl true, S')) : ∀ vs H Q E, spLaw K vs H Q E → spF K F 1 false vs H Q E := by
  rintro vs H Q E ⟨a, ns, rfl, hO, hS, hl, q⟩
  obtain ⟨S', hF⟩ := hF ns hl
  refine ⟨fun _ => False, fun _ => 0, [], [.lst (ns.map D.int)], .bl true, S', rfl, ⟨rfl, fun i d e => by simp at e, fun i d e => by simp at e, fun m xs e => by simp at e, fun a h => h.elim, fun i j d e a h => by simp at h, fun m m' xs ys h => by simp at h, fun i d m xs h => by simp at h, fun i d h => by simp at h⟩, ⟨_, [], rfl, ⟨a, ns.map V.int, rfl, ?_, Reps.map_int ns⟩, rfl⟩, hF, fun ρ' v H' _ h => ?_⟩
  · have nch : ¬ Ch (fun _ => False) (fun _ => 0) [] ⟨[], []⟩ a := fun z => z.elim id fun z => z.elim (fun ⟨_, _, h, _⟩ => by simp at h) own_nil
    rcases hS with (h | ⟨o, h⟩) | h
    · exact .inl ⟨_, h, nch, .inl rfl⟩
    · exact .inl ⟨_, h, nch, .inr ⟨o, rfl⟩⟩
    · exact .inr h
  · simp only [Bool.false_eq_true, if_false] at h
    rw [show v = V.bl true from h.2]
    exact q H'
end
/-- how each def's arguments bind -/
def BindAll : List Ent → Prop
  | [] => True
  | e :: r => (∀ (kV doc pm : Value) (an : Option Addr) (cdv ct : Value) (us : List Value), us.length = e.ps.length → bindArgs (PySem.W.fnOf e.df.name e.qual (defArgs e.st) (defBody e.st) (defScope e.st) .none kV doc pm an cdv ct) ⟨us, []⟩ = pure (e.ps.zip us)) ∧ BindAll r
theorem BindAll.get : ∀ {ents : List Ent} {f : Nat} {e : Ent}, BindAll ents → ents[f]? = some e → ∀ (kV doc pm : Value) (an : Option Addr) (cdv ct : Value) (us : List Value), us.length = e.ps.length → bindArgs (PySem.W.fnOf e.df.name e.qual (defArgs e.st) (defBody e.st) (defScope e.st) .none kV doc pm an cdv ct) ⟨us, []⟩ = pure (e.ps.zip us)
  | e :: r, 0, _, h, he => by cases he; exact h.1
  | e :: r, f + 1, _, h, he => BindAll.get (f := f) h.2 he
theorem fact_mk [Cfg] {K : PySem.W.Frag} {mg : Str → Option Value} {h : Heap} (X : K.In h) (G : h.Ns mainGlobals mg) {T : Tb} {e : Ent} {k : Nat} {r : List Ent} {f : Addr} {oc : Value} {od an : Option Addr} {osl : Array (Option Value)} {kV doc pm cdv ct : Value}
    (a : PySem.W.nsIn K mainGlobals e.df.name = some (some (.ref f))) (l : K.lookup f = some ⟨oc, od, .func (PySem.W.fnOf e.df.name e.qual (defArgs e.st) (defBody e.st) (defScope e.st) .none kV doc pm an cdv ct), osl⟩) (c : PySem.W.codeIn K cdv e.qual = true) (kp : PySem.W.keepIn K (.ref f) = true)
    (ef : Cfg.fA k = f) (hr : FactAll K mg T (k + 1) r) : FactAll K mg T k (e :: r) := ⟨by rw [ef]; exact ⟨_, fun_mk l c kp⟩, fun _ => by rw [ef]; exact PySem.W.mg_of X G a, hr⟩
theorem fact_mth [Cfg] {K : PySem.W.Frag} {mg : Str → Option Value} {T : Tb} {e : Ent} {k : Nat} {r : List Ent} {f : Addr} {oc : Value} {od an : Option Addr} {osl : Array (Option Value)} {kV doc pm cdv ct : Value}
    (l : K.lookup f = some ⟨oc, od, .func (PySem.W.fnOf e.df.name e.qual (defArgs e.st) (defBody e.st) (defScope e.st) .none kV doc pm an cdv ct), osl⟩) (c : PySem.W.codeIn K cdv e.qual = true) (kp : PySem.W.keepIn K (.ref f) = true)
    (ef : Cfg.fA k = f) (hM : T.isM k = true) (hr : FactAll K mg T (k + 1) r) : FactAll K mg T k (e :: r) := ⟨by rw [ef]; exact ⟨_, fun_mk l c kp⟩, (fun (z : T.isM k = false) => by rw [hM] at z; cases z), hr⟩
theorem none_mk {K : PySem.W.Frag} {mg : Str → Option Value} {h : Heap} (X : K.In h) (G : h.Ns mainGlobals mg) : ∀ {xs : List Str}, (∀ x ∈ xs, PySem.W.nsIn K mainGlobals x = some none) → ∀ x ∈ xs, mg x = none := fun hx x h => PySem.W.mg_none_of X G (hx x h)

/-- the end of a law's row: what k_head and k_fill leave -/
theorem law_walk {l : PySem.W.OpenLaw} {q : Program} {loose : List Str} {XP : (Str → Option Value) → Heap → Prop} {YP : World → Heap → Prop} {d : DefRec} {K : Params → PySem.W.Frag} {T : Tb} {ents : List Ent} {f : Nat} {e : Ent} {x : Str} {n : Nat}
    (hn : l.most = some 63) (hdf : d.params.defaults = []) (hr : Room (2 * n) callerA) (he : ents[f]? = some e) (hname : e.df.name = d.name) (hps : e.ps = [x]) (hnp : e.df.np = 1) (hfr : e.df.fr = false) (hM : T.isM f = false)
    (hba : BindAll ents)
    (hck : ents.all (entB T (ents.map (·.df))) = true)
    (hF : ∀ ns : List Int, ns.length ≤ 63 → ∃ S', callN (ents.map (·.df)) n f [.lst (ns.map D.int)] [] = some (.bl true, S'))
    (hY : ∀ (w : World) (h : Heap), YP w h → (K w.params).In h)
    (kn : ∀ (w : World) (mg : Str → Option Value) (h : Heap), (K w.params).In h → h.Ns mainGlobals mg → ∃ C : Cfg, Known0 (K w.params) mg T ents) :
    PySem.W.WalkO q loose XP YP l.row.toRowW d [] (fun f vs => PySem.call f vs) := by
  have ck : ∀ f e, ents[f]? = some e → entB T (ents.map (·.df)) e = true := fun f e h => List.all_eq_true.mp hck e (List.mem_of_getElem? h)
  refine L2.walk_of (l := l) (n := 63) (k := 2 * n) (x := x) (CX := fun _ => CX0) (sp := fun w => spLaw (K w.params)) hn (by decide) hdf hr hY (fun w mg fa h KX G hmg => ?_) (fun w H a ns hl hO hS => ⟨a, ns, rfl, hO, hS, hl, fun _ => rfl⟩) fun _ _ _ _ _ z => z
  obtain ⟨C, kn⟩ := kn w mg h KX G
  have hb : ∀ (f : Nat) (e : Ent) (fd : FuncData), ents[f]? = some e → Fun (K w.params) e.df.name e.qual e.st (Cfg.fA f) fd → Binds (K w.params) fd e.ps [] := fun f e fd he F => F.binds (hba.get he)
  obtain ⟨⟨fd, F⟩, hm⟩ := kn.fact.get he
  rw [Nat.zero_add] at F hm
  have hm := hm hM
  rw [hname, hmg] at hm
  have hm' : Cfg.fA f = fa := by injection hm with z; injection z with z; exact z.symm
  refine ⟨fd, fun s u => ?_, fun base KB GB => ?_⟩
  · obtain ⟨oc, od, kV, doc, pm, an, cdv, ct, osl, rfl, lk, hcd⟩ := F.ex
    have := hba.get he kV doc pm an cdv ct [u] (by rw [hps]; rfl)
    rw [hps] at this
    exact .of_eq this
  · have h1 := lib_ok (P := l.prog) (w := w) (base := base) ⟨kn, hb, ck⟩ n f e fd he F
    rw [hps, hnp, hfr, hm'] at h1
    exact h1.imp (law_sp hF)
end Gp

/-! Gp, part N: plain tools for what the evaluator tells. -/
namespace Gp
open PySem L2

def isT (o : Option (D × Store)) : Bool := match o with
  | some (.bl true, []) => true
  | _ => false
theorem isT_ok {o : Option (D × Store)} (h : isT o = true) : o = some (.bl true, []) := by
  unfold isT at h
  split at h
  · rfl
  · cases h
theorem callN_ret {tab : List Def} {n f : Nat} {df : Def} {ds : List D} {S : Store} {d : D} {st : Sta} (ht : tab[f]? = some df) (hl : ds.length = df.np) (h : evSs (callN tab n) df.body ⟨ds.map .val ++ List.replicate (df.ns - df.np) .no, S⟩ = .ok (.rt d df.fr) st) : callN tab (n + 1) f ds S = some (d, st.S) := by
  show (match tab[f]? with
    | some df => runD (callN tab n) df ds S
    | none => none) = _
  rw [ht]
  show runD (callN tab n) df ds S = _
  unfold runD
  rw [if_pos hl, h]
  show (if df.fr = df.fr then some (d, st.S) else none) = _
  rw [if_pos rfl]
theorem evSs_cons {cl : CallF} {s : S} {ss : List S} {st s1 : Sta} (h : evS cl s st = .ok .nx s1) : evSs cl (s :: ss) st = evSs cl ss s1 := by
  simp only [evSs, h, Out.ok_bind]
theorem evSs_ret {cl : CallF} {s : S} {ss : List S} {st s1 : Sta} {d : D} {fr : Bool} (h : evS cl s st = .ok (.rt d fr) s1) : evSs cl (s :: ss) st = .ok (.rt d fr) s1 := by
  simp only [evSs, h, Out.ok_bind]
theorem ret_all {cl : CallF} {e : E} {st s1 : Sta} {xs : List Bool} (hx : ∀ b ∈ xs, b = true) (h : evT cl e st = .ok (.v (.lst (xs.map .bl))) s1) : evS cl (.ret (.b1 .all e) false) st = .ok (.rt (.bl true) false) s1 := by
  have e1 : b1F .all (.lst (xs.map D.bl)) = some (.bl true) := by
    have : D.bls (xs.map D.bl) = some xs := by
      clear hx h
      induction xs with
      | nil => rfl
      | cons b xs ih => simp [D.bls, ih]
    simp only [b1F, this, Option.map_some]
    have : xs.all id = true := List.all_eq_true.mpr fun b hb => hx b hb
    rw [this]
  simp only [evS, evE, evT, h, Out.ok_bind, look, e1, vF, lk, leak]
theorem bls_true : ∀ n : Nat, D.bls (List.replicate n (D.bl true)) = some (List.replicate n true)
  | 0 => rfl
  | n + 1 => by simp [List.replicate_succ, D.bls, bls_true n]
theorem map_const (xs : List D) (y : D) : xs.map (fun _ => y) = List.replicate xs.length y := by
  induction xs with
  | nil => rfl
  | cons x xs ih => rw [List.map_cons, ih]; rfl
theorem all_true (xs : List D) : b1F .all (.lst (xs.map fun _ => D.bl true)) = some (.bl true) := by
  rw [map_const]
  simp only [b1F, bls_true, Option.map_some]
  have : (List.replicate xs.length true).all id = true := List.all_eq_true.mpr fun b hb => (List.mem_replicate.mp hb).2
  rw [this]
theorem cutD_mem {xs : List D} {lo hi : Option Int} {d : D} (h : d ∈ cutD xs lo hi) : d ∈ xs := List.mem_of_mem_drop (List.mem_of_mem_take h)
theorem cutD_len {xs : List D} {lo hi : Option Int} : (cutD xs lo hi).length ≤ xs.length := by
  unfold cutD
  rw [List.length_take, List.length_drop]
  omega
theorem mem_rangeL {a b : Int} {d : D} (h : d ∈ rangeL a b) : ∃ k : Nat, d = .int (a + k) ∧ a + k < b := by
  unfold rangeL at h
  obtain ⟨k, hk, rfl⟩ := List.mem_map.mp h
  rw [List.mem_range] at hk
  exact ⟨k, rfl, by omega⟩
theorem rangeL_len {a b : Int} : (rangeL a b).length = (b - a).toNat := by unfold rangeL; rw [List.length_map, List.length_range]
/-! rows of noughts and ones -/
def bitsL : Nat → List (List D)
  | 0 => [[]]
  | n + 1 => (bitsL n).flatMap fun r => [.int 0 :: r, .int 1 :: r]
def Bits (xs : List D) : Prop := ∀ x ∈ xs, x = .int 0 ∨ x = .int 1
theorem bitsL_mem : ∀ {xs : List D}, Bits xs → xs ∈ bitsL xs.length
  | [], _ => by simp [bitsL]
  | x :: xs, h => by
    have h1 := bitsL_mem (xs := xs) fun y m => h y (List.mem_cons_of_mem _ m)
    rw [List.length_cons, bitsL, List.mem_flatMap]
    refine ⟨xs, h1, ?_⟩
    rcases h x List.mem_cons_self with rfl | rfl <;> simp
theorem Bits.append {xs ys : List D} (h : Bits xs) (h' : Bits ys) : Bits (xs ++ ys) := fun x m => (List.mem_append.mp m).elim (h x) (h' x)
theorem Bits.rep0 (n : Nat) : Bits (List.replicate n (.int 0)) := fun x m => .inl (List.mem_replicate.mp m).2
theorem Bits.rep1 (n : Nat) : Bits (List.replicate n (.int 1)) := fun x m => .inr (List.mem_replicate.mp m).2
theorem bit_mod (j : Int) : D.int (j % 2) = .int 0 ∨ D.int (j % 2) = .int 1 := by
  have h : j % 2 = 0 ∨ j % 2 = 1 := by omega
  rcases h with h | h <;> rw [h] <;> simp
/-- each of a list's things holds at the call -/
theorem all_call {cl : CallF} {f : Nat} {st : Sta} {i : Nat} {d : D} (hi : st.env[i]? = some (.val d)) (h : cl f [d] st.S = some (.bl true, st.S)) : lk (evT cl (.call f [.var i]) st) = .ok (.bl true) st := by
  simp only [evT, evEs, hi, lk, leak, Out.ok_bind, callO, h]
theorem evAppend {cl : CallF} {i : Nat} {e : E} {st s1 : Sta} {d : D} {xs ys : List D} (he : lk (evT cl e st) = .ok d s1) (h0 : st.env[i]? = some (.own (.lst ys))) (h1 : s1.env[i]? = some (.own (.lst xs))) (hl : xs.length < 1000000) :
    evS cl (.ex (.meth .append (.var i) [e])) st = .ok .nx { s1 with env := s1.env.set i (.own (.lst (xs ++ [d]))) } := by
  have e1 : evT cl (.var i) st = .ok (.slot i) st := by simp only [evT, h0]
  have e2 : look (.slot i) st = some (.lst ys) := by simp only [look, h0]
  have e3 : look (.slot i) s1 = some (.lst xs) := by simp only [look, h1]
  have e4 : evEs cl [e] st = .ok [d] s1 := by simp only [evEs, he, Out.ok_bind]
  have e5 : put (.slot i) (.lst (xs ++ [d])) s1 = some { s1 with env := s1.env.set i (.own (.lst (xs ++ [d]))) } := by simp only [put, h1, D.like, if_true]
  have e6 : methO .append (.slot i) [d] s1 = .ok (.v .non) { s1 with env := s1.env.set i (.own (.lst (xs ++ [d]))) } := by simp only [methO, e3, methF, mAppend, hl, if_true, e5]
  have e7 : evT cl (.meth .append (.var i) [e]) st = .ok (.v .non) { s1 with env := s1.env.set i (.own (.lst (xs ++ [d]))) } := by
    rw [evT, e1, Out.ok_bind, e2, e4]
    exact e6
  simp only [evS, evE, e7, lk, leak, Out.ok_bind]
theorem evRet {cl : CallF} {e : E} {fr : Bool} {st s1 : Sta} {d : D} (h : lk (evT cl e st) = .ok d s1) : evS cl (.ret e fr) st = .ok (.rt d fr) s1 := by
  simp only [evS, evE, h, Out.ok_bind]
theorem lkv {o : Out T} {d : D} {s : Sta} (h : o = .ok (.v d) s) : lk o = .ok d s := by rw [h]; rfl
end Gp

/-! Gp, part W: what must hold so that a run ends well. -/
namespace Gp
open PySem L2
def Wp {α : Type} (o : Out α) (Q : α → Sta → Prop) : Prop := match o with
  | .ok a s => Q a s
  | .bad => False
theorem Wp_ok {α : Type} {a : α} {s : Sta} {Q : α → Sta → Prop} : Wp (.ok a s) Q ↔ Q a s := Iff.rfl
theorem Wp_bad {α : Type} {Q : α → Sta → Prop} : Wp (.bad : Out α) Q ↔ False := Iff.rfl
theorem Wp_bind {α β : Type} {o : Out α} {f : α → Sta → Out β} {Q : β → Sta → Prop} : Wp (o.bind f) Q ↔ Wp o fun a s => Wp (f a s) Q := by
  cases o <;> rfl
theorem Wp_ex {α : Type} {o : Out α} {Q : α → Sta → Prop} : Wp o Q ↔ ∃ a s, o = .ok a s ∧ Q a s := by
  cases o with
  | ok a s => exact ⟨fun h => ⟨a, s, rfl, h⟩, fun ⟨_, _, e, h⟩ => by cases e; exact h⟩
  | bad => exact ⟨fun h => h.elim, fun ⟨_, _, e, _⟩ => by cases e⟩
theorem Wp.mono {α : Type} {o : Out α} {Q Q' : α → Sta → Prop} (h : Wp o Q) (i : ∀ a s, Q a s → Q' a s) : Wp o Q' := by
  cases o with
  | ok a s => exact i _ _ h
  | bad => exact h.elim
/-- an option's value -/
def WO {α : Type} (o : Option α) (Q : α → Prop) : Prop := match o with
  | some a => Q a
  | none => False
theorem WO_some {α : Type} {a : α} {Q : α → Prop} : WO (some a) Q ↔ Q a := Iff.rfl
theorem WO_none {α : Type} {Q : α → Prop} : WO (none : Option α) Q ↔ False := Iff.rfl
theorem WO_ex {α : Type} {o : Option α} {Q : α → Prop} : WO o Q ↔ ∃ a, o = some a ∧ Q a := by
  cases o with
  | some a => exact ⟨fun h => ⟨a, rfl, h⟩, fun ⟨_, e, h⟩ => by cases e; exact h⟩
  | none => exact ⟨fun h => h.elim, fun ⟨_, e, _⟩ => by cases e⟩
theorem WO_ite {α : Type} {c : Prop} [Decidable c] {a : α} {Q : α → Prop} : WO (if c then some a else none) Q ↔ c ∧ Q a := by
  by_cases h : c <;> simp [h, WO]
theorem WO_map {α β : Type} {o : Option α} {f : α → β} {Q : β → Prop} : WO (o.map f) Q ↔ WO o fun a => Q (f a) := by cases o <;> rfl
theorem WO_bind {α β : Type} {o : Option α} {f : α → Option β} {Q : β → Prop} : WO (o.bind f) Q ↔ WO o fun a => WO (f a) Q := by cases o <;> rfl
section
variable {cl : CallF} {st : Sta} {Q : T → Sta → Prop}
theorem w_leak {t : T} {Q : D → Sta → Prop} : Wp (leak t st) Q ↔ match t with
  | .v d => Q d st
  | .slot i => match st.env[i]? with
    | some (.val d) => Q d st
    | some (.own d) => Q d { st with env := st.env.set i (.val d) }
    | _ => False := by
  unfold leak
  cases t with
  | v d => exact Iff.rfl
  | slot i =>
    simp only
    split <;> simp_all [Wp]
theorem w_lk {o : Out T} {Q : D → Sta → Prop} : Wp (lk o) Q ↔ Wp o fun t s => Wp (leak t s) Q := Wp_bind
theorem w_int {o : Out D} {Q : Int → Sta → Prop} : Wp (intO o) Q ↔ Wp o fun d s => match d with
  | .int i => Q i s
  | _ => False := by
  unfold intO
  rw [Wp_bind]
  cases o with
  | bad => exact Iff.rfl
  | ok d s => cases d <;> exact Iff.rfl
theorem w_vF {o : Option D} : Wp (vF o st) Q ↔ WO o fun d => Q (.v d) st := by cases o <;> exact Iff.rfl
theorem w_two {a b : Sta → Out T} {f : D → D → Option D} : Wp (two a b f st) Q ↔ Wp (a st) fun x s1 => Wp (b s1) fun y s2 => WO (look x s2) fun d => WO (look y s2) fun e => WO (f d e) fun z => Q (.v z) s2 := by
  unfold two
  rw [Wp_bind]
  cases a st with
  | bad => exact Iff.rfl
  | ok x s1 =>
    simp only [Wp_ok, Wp_bind]
    cases b s1 with
    | bad => exact Iff.rfl
    | ok y s2 =>
      simp only [Wp_ok]
      cases look x s2 <;> cases look y s2 <;> first | exact Iff.rfl | exact w_vF
theorem w_var {i : Nat} : Wp (evT cl (.var i) st) Q ↔ match st.env[i]? with
  | some (.val _) => Q (.slot i) st
  | some (.own _) => Q (.slot i) st
  | _ => False := by
  simp only [evT]
  split <;> simp_all [Wp]
theorem w_mv {i : Nat} : Wp (evT cl (.mv i) st) Q ↔ match st.env[i]? with
  | some (.own d) => Q (.v d) { st with env := st.env.set i .no }
  | _ => False := by
  simp only [evT, vO]
  split <;> simp_all [Wp]
theorem w_cst {d : D} : Wp (evT cl (.cst d) st) Q ↔ Q (.v d) st := Iff.rfl
theorem w_bin {op : BOp} {a b : E} : Wp (evT cl (.bin op a b) st) Q ↔ Wp (evT cl a st) fun x s1 => Wp (evT cl b s1) fun y s2 => WO (look x s2) fun d => WO (look y s2) fun e => WO (binF op d e) fun z => Q (.v z) s2 := w_two
theorem w_cmp {op : COp} {a b : E} : Wp (evT cl (.cmp op a b) st) Q ↔ Wp (evT cl a st) fun x s1 => Wp (evT cl b s1) fun y s2 => WO (look x s2) fun d => WO (look y s2) fun e => WO (cmpF op d e) fun z => Q (.v z) s2 := w_two
theorem w_sub {a b : E} : Wp (evT cl (.sub a b) st) Q ↔ Wp (evT cl a st) fun x s1 => Wp (evT cl b s1) fun y s2 => WO (look x s2) fun d => WO (look y s2) fun e => WO (itemF d e) fun z => Q (.v z) s2 := w_two

theorem w_neg {a : E} : Wp (evT cl (.neg a) st) Q ↔ Wp (intO (lk (evT cl a st))) fun i s1 => Q (.v (.int (-i))) s1 := by simp only [evT, vO, Wp_bind, Wp_ok]
theorem w_chain {o1 o2 : COp} {a b c : E} : Wp (evT cl (.chain o1 o2 a b c) st) Q ↔ Wp (lk (evT cl a st)) fun x s1 => Wp (lk (evT cl b s1)) fun y s2 => WO (cmpF o1 x y) fun r => match r with
    | .bl k => if k then Wp (lk (evT cl c s2)) (fun z s3 => WO (cmpF o2 y z) fun w => Q (.v w) s3) else Q (.v (.bl false)) s2
    | _ => False := by
  simp only [evT, Wp_bind]
  constructor
  all_goals (
    intro h
    refine Wp.mono h fun x s1 h => Wp.mono h fun y s2 h => ?_
    cases e : cmpF o1 x y with
    | none => rw [e] at h; exact h.elim
    | some r =>
      rw [e] at h
      cases r <;> first | exact h.elim | skip
      rename_i k
      cases k <;> first | exact h | (simp only [Wp_bind, w_vF, WO_some] at h ⊢; exact h))
theorem w_and {a b : E} : Wp (evT cl (.and a b) st) Q ↔ Wp (lk (evT cl a st)) fun x s1 => match x with
    | .bl k => if k then Wp (lk (evT cl b s1)) (fun d s => Q (.v d) s) else Q (.v (.bl false)) s1
    | _ => False := by
  simp only [evT, Wp_bind]
  constructor
  all_goals (
    intro h
    refine Wp.mono h fun x s1 h => ?_
    cases x <;> first | exact h.elim | skip
    rename_i k
    cases k <;> first | exact h | (simp only [Wp_bind, vO, Wp_ok] at h ⊢; exact h))
theorem w_or {a b : E} : Wp (evT cl (.or a b) st) Q ↔ Wp (lk (evT cl a st)) fun x s1 => match x with
    | .bl k => if k then Q (.v (.bl true)) s1 else Wp (lk (evT cl b s1)) (fun d s => Q (.v d) s)
    | _ => False := by
  simp only [evT, Wp_bind]
  constructor
  all_goals (
    intro h
    refine Wp.mono h fun x s1 h => ?_
    cases x <;> first | exact h.elim | skip
    rename_i k
    cases k <;> first | exact h | (simp only [Wp_bind, vO, Wp_ok] at h ⊢; exact h))
theorem w_not {a : E} : Wp (evT cl (.not a) st) Q ↔ Wp (lk (evT cl a st)) fun x s1 => match x with
    | .bl k => Q (.v (.bl (!k))) s1
    | _ => False := by
  simp only [evT, Wp_bind]
  constructor
  all_goals (
    intro h
    refine Wp.mono h fun x s1 h => ?_
    cases x <;> first | exact h.elim | exact h)
theorem w_ife {c : C} {a b : E} : Wp (evT cl (.ife c a b) st) Q ↔ Wp (evB cl c st) fun k s1 => if k then Wp (lk (evT cl a s1)) (fun d s => Q (.v d) s) else Wp (lk (evT cl b s1)) (fun d s => Q (.v d) s) := by
  simp only [evT, Wp_bind]
  constructor
  all_goals (
    intro h
    refine Wp.mono h fun k s1 h => ?_
    cases k <;> (simp only [if_true, Bool.false_eq_true, if_false, Wp_bind, vO, Wp_ok] at h ⊢; exact h))
theorem w_cut {a : E} {lo hi : Option E} : Wp (evT cl (.cut a lo hi) st) Q ↔ Wp (evT cl a st) fun x s1 => Wp (evP cl lo s1) fun l s2 => Wp (evP cl hi s2) fun h s3 => WO (look x s3) fun d => WO (cutF d l h) fun z => Q (.v z) s3 := by
  simp only [evT, Wp_bind]
  constructor
  all_goals (
    intro h
    refine Wp.mono h fun x s1 h => Wp.mono h fun y s2 h => Wp.mono h fun z s3 h => ?_
    cases e : look x s3 with
    | none => rw [e] at h; exact h.elim
    | some d => simp only [e, WO_some, w_vF] at h ⊢; exact h)
theorem w_back {a : E} : Wp (evT cl (.back a) st) Q ↔ Wp (evT cl a st) fun x s1 => WO (look x s1) fun d => match d with
    | .lst xs => Q (.v (.lst xs.reverse)) s1
    | _ => False := by
  simp only [evT, Wp_bind]
  constructor
  all_goals (
    intro h
    refine Wp.mono h fun x s1 h => ?_
    cases e : look x s1 with
    | none => rw [e] at h; exact h.elim
    | some d => rw [e] at h; cases d <;> first | exact h.elim | exact h)
theorem w_tup {es : List E} : Wp (evT cl (.tup es) st) Q ↔ Wp (evEs cl es st) fun xs s1 => xs.length ≤ 1000000 ∧ Q (.v (.tup xs)) s1 := by
  simp only [evT, Wp_bind]
  constructor
  · intro h
    refine Wp.mono h fun x s1 h => ?_
    split at h
    · exact ⟨by assumption, h⟩
    · exact h.elim
  · intro h
    refine Wp.mono h fun x s1 h => ?_
    rw [if_pos h.1]; exact h.2
theorem w_lst {es : List E} : Wp (evT cl (.lst es) st) Q ↔ Wp (evEs cl es st) fun xs s1 => xs.length ≤ 1000000 ∧ Q (.v (.lst xs)) s1 := by
  simp only [evT, Wp_bind]
  constructor
  · intro h
    refine Wp.mono h fun x s1 h => ?_
    split at h
    · exact ⟨by assumption, h⟩
    · exact h.elim
  · intro h
    refine Wp.mono h fun x s1 h => ?_
    rw [if_pos h.1]; exact h.2
theorem w_rep {es : List E} {k : E} : Wp (evT cl (.rep es k) st) Q ↔ Wp (evEs cl es st) fun xs s1 => Wp (intO (lk (evT cl k s1))) fun k s2 => xs.length ≤ 1000000 ∧ WO (repF xs k) fun z => Q (.v z) s2 := by
  simp only [evT, Wp_bind]
  constructor
  · intro h
    refine Wp.mono h fun x s1 h => Wp.mono h fun k s2 h => ?_
    split at h
    · exact ⟨by assumption, w_vF.mp h⟩
    · exact h.elim
  · intro h
    refine Wp.mono h fun x s1 h => Wp.mono h fun k s2 h => ?_
    rw [if_pos h.1]; exact w_vF.mpr h.2
theorem w_call {f : Nat} {es : List E} : Wp (evT cl (.call f es) st) Q ↔ Wp (evEs cl es st) fun xs s1 => WO (cl f xs s1.S) fun r => Q (.v r.1) { s1 with S := r.2 } := by
  simp only [evT, Wp_bind, callO]
  constructor
  all_goals (
    intro h
    refine Wp.mono h fun x s1 h => ?_
    cases e : cl f x s1.S with
    | none => rw [e] at h; exact h.elim
    | some d => rw [e] at h; exact h)
theorem w_pcall {f : Nat} {es : List E} : Wp (evT cl (.pcall f es) st) Q ↔ Wp (evTs cl es st) fun ts s1 => WO (lents ts s1) fun ds => WO (cl f ds (mask s1.S)) fun r => r.1.bel 0 = true ∧ Q (.v r.1) (if r.1.flat then s1 else { s1 with env := freezes ts s1.env }) := by
  simp only [evT, Wp_bind, pcallO]
  constructor
  all_goals (
    intro h
    refine Wp.mono h fun x s1 h => ?_
    cases e : lents x s1 with
    | none => rw [e] at h; exact h.elim
    | some ds =>
      simp only [e, WO_some] at h ⊢
      cases e2 : cl f ds (mask s1.S) with
      | none => rw [e2] at h; exact h.elim
      | some r =>
        obtain ⟨d, S'⟩ := r
        simp only [e2, WO_some] at h ⊢
        first
          | (split at h
             · exact ⟨by assumption, h⟩
             · exact h.elim)
          | (rw [if_pos h.1]; exact h.2))
theorem w_b1 {b : B1} {a : E} : Wp (evT cl (.b1 b a) st) Q ↔ Wp (evT cl a st) fun x s1 => WO (look x s1) fun d => WO (b1F b d) fun z => Q (.v z) s1 := by
  simp only [evT, Wp_bind]
  constructor
  all_goals (
    intro h
    refine Wp.mono h fun x s1 h => ?_
    cases e : look x s1 with
    | none => rw [e] at h; exact h.elim
    | some d => simp only [e, WO_some, w_vF] at h ⊢; exact h)
theorem w_b2 {b : B2} {a c : E} : Wp (evT cl (.b2 b a c) st) Q ↔ Wp (lk (evT cl a st)) fun x s1 => Wp (lk (evT cl c s1)) fun y s2 => WO (b2F b x y) fun z => Q (.v z) s2 := by
  simp only [evT, Wp_bind, w_vF]
theorem w_lrange {a b : E} : Wp (evT cl (.lrange a b) st) Q ↔ Wp (intO (lk (evT cl a st))) fun i s1 => Wp (intO (lk (evT cl b s1))) fun j s2 => (smallI i ∧ smallI j ∧ j - i ≤ 1000000) ∧ Q (.v (.lst (rangeL i j))) s2 := by
  simp only [evT, Wp_bind]
  constructor
  · intro h
    refine Wp.mono h fun x s1 h => Wp.mono h fun k s2 h => ?_
    split at h
    · exact ⟨by assumption, h⟩
    · exact h.elim
  · intro h
    refine Wp.mono h fun x s1 h => Wp.mono h fun k s2 h => ?_
    rw [if_pos h.1]; exact h.2
theorem w_lrange1 {b : E} : Wp (evT cl (.lrange1 b) st) Q ↔ Wp (intO (lk (evT cl b st))) fun j s2 => (smallI j ∧ j ≤ 1000000) ∧ Q (.v (.lst (rangeL 0 j))) s2 := by
  simp only [evT, Wp_bind]
  constructor
  · intro h
    refine Wp.mono h fun k s2 h => ?_
    split at h
    · exact ⟨by assumption, h⟩
    · exact h.elim
  · intro h
    refine Wp.mono h fun k s2 h => ?_
    rw [if_pos h.1]; exact h.2
theorem w_isi {t : Ty} {a : E} : Wp (evT cl (.isi t a) st) Q ↔ Wp (evT cl a st) fun x s1 => WO (look x s1) fun d => WO (isiF t d) fun k => Q (.v (.bl k)) s1 := by
  simp only [evT, Wp_bind]
  constructor
  all_goals (
    intro h
    refine Wp.mono h fun x s1 h => ?_
    cases e : look x s1 with
    | none => rw [e] at h; exact h.elim
    | some d =>
      simp only [e, WO_some] at h ⊢
      cases e2 : isiF t d with
      | none => rw [e2] at h; exact h.elim
      | some k => rw [e2] at h; exact h)
theorem w_methO {m : Me} {x : T} {ds : List D} : Wp (methO m x ds st) Q ↔ WO (look x st) fun d => match d with
    | .lst xs => WO (methF m xs ds) fun r => (match r.2 with
      | none => Q (.v r.1) st
      | some ys => WO (put x (.lst ys) st) fun s3 => Q (.v r.1) s3)
    | _ => False := by
  unfold methO
  cases e : look x st with
  | none => exact Iff.rfl
  | some d =>
    cases d <;> first | exact Iff.rfl | skip
    rename_i xs
    simp only [WO_some]
    cases e2 : methF m xs ds with
    | none => exact Iff.rfl
    | some r =>
      obtain ⟨d, o⟩ := r
      cases o with
      | none => exact Iff.rfl
      | some ys =>
        simp only [WO_some]
        cases put x (.lst ys) st <;> exact Iff.rfl
theorem w_meth {m : Me} {o : E} {es : List E} : Wp (evT cl (.meth m o es) st) Q ↔ Wp (evT cl o st) fun x s1 => WO (look x s1) fun d => match d with
    | .lst _ => Wp (evEs cl es s1) fun ds s2 => WO (look x s2) fun d => match d with
      | .lst xs => WO (methF m xs ds) fun r => (match r.2 with
        | none => Q (.v r.1) s2
        | some ys => WO (put x (.lst ys) s2) fun s3 => Q (.v r.1) s3)
      | _ => False
    | _ => False := by
  simp only [evT, Wp_bind]
  constructor
  all_goals (
    intro h
    refine Wp.mono h fun x s1 h => ?_
    cases e : look x s1 with
    | none => rw [e] at h; exact h.elim
    | some d =>
      rw [e] at h
      cases d <;> first | exact h.elim | skip
      simp only [WO_some, Wp_bind] at h ⊢
      first | exact Wp.mono h fun ds s2 h => w_methO.mp h | exact Wp.mono h fun ds s2 h => w_methO.mpr h)
theorem w_ext {o e : E} : Wp (evT cl (.ext o e) st) Q ↔ Wp (evT cl o st) fun x s1 => WO (look x s1) fun d => match d with
    | .lst _ => Wp (lk (evT cl e s1)) fun d s2 => Wp (extO x d s2) Q
    | _ => False := by
  simp only [evT, Wp_bind]
  constructor
  all_goals (
    intro h
    refine Wp.mono h fun x s1 h => ?_
    cases e : look x s1 with
    | none => rw [e] at h; exact h.elim
    | some d =>
      rw [e] at h
      cases d <;> first | exact h.elim | skip
      simp only [WO_some, Wp_bind] at h ⊢
      exact h)
theorem w_extO {x : T} {d : D} : Wp (extO x d st) Q ↔ WO (look x st) fun c => match c, d with
    | .lst xs, .lst ys => xs.length + ys.length ≤ 1000000 ∧ WO (put x (.lst (xs ++ ys)) st) fun s3 => Q (.v .non) s3
    | _, _ => False := by
  unfold extO
  cases e : look x st with
  | none => exact Iff.rfl
  | some c =>
    cases c <;> cases d <;> first | exact Iff.rfl | skip
    rename_i xs ys
    simp only [WO_some]
    by_cases h : xs.length + ys.length ≤ 1000000
    · simp only [h, if_true, true_and]
      cases put x (.lst (xs ++ ys)) st <;> exact Iff.rfl
    · simp only [h, if_false, false_and]; exact Iff.rfl
theorem w_comp {e : E} {g : G} {it : I} {cs : List C} {own : List Nat} : Wp (evT cl (.comp e g it cs own) st) Q ↔ Wp (evI cl true it st) fun ds s1 => Wp (compL ds.2 (evG cl g) (evAll cl cs) (fun s => lk (evT cl e s)) own ds.1 [] s1) fun xs s2 => Q (.v (.lst xs)) { s2 with env := unwipe s1.env s2.env own } := by
  simp only [evT, Wp_bind, vO, Wp_ok]
end
/-! cells, dicts, instances -/
section
variable {cl : CallF} {st : Sta} {Q : T → Sta → Prop}
theorem w_glob {x : Str} {d : D} : Wp (evT cl (.glob x d) st) Q ↔ Q (.v d) st := Iff.rfl
theorem w_new {e : E} : Wp (evT cl (.new e) st) Q ↔ Wp (evT cl e st) fun t s1 => match t with
    | .v d => d.obj = true ∧ Q (.v (.loc s1.S.length)) { s1 with S := s1.S ++ [.o d] }
    | _ => False := by
  simp only [evT, Wp_bind]
  constructor
  · intro h
    refine Wp.mono h fun t s1 h => ?_
    cases t with
    | slot i => exact h.elim
    | v d =>
      simp only at h ⊢
      split at h
      · exact ⟨by assumption, h⟩
      · exact h.elim
  · intro h
    refine Wp.mono h fun t s1 h => ?_
    cases t with
    | slot i => exact h.elim
    | v d => simp only at h ⊢; rw [if_pos h.1]; exact h.2
theorem w_dct0 {k : Nat} : Wp (evT cl (.dct0 k) st) Q ↔ k < 2 ∧ Q (.v (.dct k [] [])) st := by
  simp only [evT]
  by_cases h : k < 2
  · simp only [h, if_true, true_and]; exact Iff.rfl
  · simp only [h, if_false, false_and]; exact Iff.rfl
theorem w_dget {o k : E} : Wp (evT cl (.dget o k) st) Q ↔ Wp (evT cl o st) fun x s1 => WO (look x s1) fun c => match c with
    | .dct _ _ _ => Wp (lk (evT cl k s1)) fun i s2 => WO (look x s2) fun c => WO (dgetF c i .non) fun z => Q (.v z) s2
    | _ => False := by
  simp only [evT, Wp_bind]
  constructor
  all_goals (
    intro h
    refine Wp.mono h fun x s1 h => ?_
    cases e : look x s1 with
    | none => rw [e] at h; exact h.elim
    | some c =>
      rw [e] at h
      cases c <;> first | exact h.elim | skip
      simp only [WO_some, Wp_bind] at h ⊢
      refine Wp.mono h fun i s2 h => ?_
      cases e2 : look x s2 with
      | none => rw [e2] at h; exact h.elim
      | some c => simp only [e2, WO_some, w_vF] at h ⊢; exact h)
theorem w_dgetd {o k d : E} : Wp (evT cl (.dgetd o k d) st) Q ↔ Wp (evT cl o st) fun x s1 => WO (look x s1) fun c => match c with
    | .dct _ _ _ => Wp (lk (evT cl k s1)) fun i s2 => Wp (lk (evT cl d s2)) fun e s3 => WO (look x s3) fun c => WO (dgetF c i e) fun z => Q (.v z) s3
    | _ => False := by
  simp only [evT, Wp_bind]
  constructor
  all_goals (
    intro h
    refine Wp.mono h fun x s1 h => ?_
    cases e : look x s1 with
    | none => rw [e] at h; exact h.elim
    | some c =>
      rw [e] at h
      cases c <;> first | exact h.elim | skip
      simp only [WO_some, Wp_bind] at h ⊢
      refine Wp.mono h fun i s2 h => Wp.mono h fun e s3 h => ?_
      cases e2 : look x s3 with
      | none => rw [e2] at h; exact h.elim
      | some c => simp only [e2, WO_some, w_vF] at h ⊢; exact h)
theorem w_fld {o : E} {n : Nat} {cs : List Nat} : Wp (evT cl (.fld o n cs) st) Q ↔ Wp (lk (evT cl o st)) fun x s1 => WO (insAt x s1) fun r => r.2.1 ∈ cs ∧ WO (fgetL r.2.2.1 r.2.2.2 n) fun d => Q (.v d) s1 := by
  simp only [evT, Wp_bind]
  constructor
  all_goals (
    intro h
    refine Wp.mono h fun x s1 h => ?_
    cases e : insAt x s1 with
    | none => rw [e] at h; exact h.elim
    | some r =>
      obtain ⟨m, c, ns, ds⟩ := r
      simp only [e, WO_some] at h ⊢
      first
        | (split at h
           · exact ⟨by assumption, w_vF.mp h⟩
           · exact h.elim)
        | (rw [if_pos h.1]; exact w_vF.mpr h.2))
theorem w_make {c f : Nat} {es : List E} : Wp (evT cl (.make c f es) st) Q ↔ Wp (evEs cl es st) fun xs s1 => WO (cl f (.loc s1.S.length :: xs) (s1.S ++ [.o (.ins c [] [])])) fun r => r.1 = .non ∧ Q (.v (.loc s1.S.length)) { s1 with S := r.2 } := by
  simp only [evT, Wp_bind]
  constructor
  all_goals (
    intro h
    refine Wp.mono h fun xs s1 h => ?_
    cases e : cl f (.loc s1.S.length :: xs) (s1.S ++ [.o (.ins c [] [])]) with
    | none => rw [e] at h; exact h.elim
    | some r =>
      obtain ⟨d, S'⟩ := r
      simp only [e, WO_some] at h ⊢
      first
        | (cases d <;> first | exact ⟨rfl, h⟩ | exact h.elim)
        | (obtain ⟨rfl, h⟩ := h; exact h))
theorem w_mcall {o : E} {m : Str} {es : List E} {dm : List (Nat × Nat)} : Wp (evT cl (.mcall o m es dm) st) Q ↔ Wp (lk (evT cl o st)) fun x s1 => WO (insAt x s1) fun r => WO (dm.lookup r.2.1) fun f => Wp (evEs cl es s1) fun xs s2 => WO (cl f (.loc r.1 :: xs) s2.S) fun z => Q (.v z.1) { s2 with S := z.2 } := by
  simp only [evT, Wp_bind]
  constructor
  all_goals (
    intro h
    refine Wp.mono h fun x s1 h => ?_
    cases e : insAt x s1 with
    | none => rw [e] at h; exact h.elim
    | some r =>
      obtain ⟨m, c, ns, ds⟩ := r
      simp only [e, WO_some] at h ⊢
      cases e2 : dm.lookup c with
      | none => rw [e2] at h; exact h.elim
      | some f =>
        simp only [e2, WO_some, Wp_bind] at h ⊢
        refine Wp.mono h fun xs s2 h => ?_
        unfold callO at *
        cases e3 : cl f (.loc m :: xs) s2.S with
        | none => rw [e3] at h; exact h.elim
        | some z => rw [e3] at h; exact h)
theorem w_tcallO {f : Nat} {xs : List D} : Wp (tcallO cl f xs st) Q ↔ WO (cl f xs st.S) fun z => (storeB (z.2.take st.S.length) st.S = true ∧ z.1.bel st.S.length = true) ∧ Q (.v z.1) st := by
  unfold tcallO
  cases e : cl f xs st.S with
  | none => exact Iff.rfl
  | some z =>
    obtain ⟨d, S'⟩ := z
    simp only [WO_some]
    by_cases h : storeB (S'.take st.S.length) st.S = true ∧ d.bel st.S.length = true
    · rw [if_pos h]; simp only [h, and_self, true_and]; exact Iff.rfl
    · rw [if_neg h]; simp only [h, false_and]; exact Iff.rfl
theorem w_tcall {f : Nat} {es : List E} : Wp (evT cl (.tcall f es) st) Q ↔ Wp (evEs cl es st) fun xs s1 => WO (cl f xs s1.S) fun z => (storeB (z.2.take s1.S.length) s1.S = true ∧ z.1.bel s1.S.length = true) ∧ Q (.v z.1) s1 := by
  simp only [evT, Wp_bind]
  exact ⟨fun h => Wp.mono h fun x s1 h => w_tcallO.mp h, fun h => Wp.mono h fun x s1 h => w_tcallO.mpr h⟩
theorem w_tmcall {o : E} {m : Str} {es : List E} {dm : List (Nat × Nat)} : Wp (evT cl (.tmcall o m es dm) st) Q ↔ Wp (lk (evT cl o st)) fun x s1 => WO (insAt x s1) fun r => WO (dm.lookup r.2.1) fun f => Wp (evEs cl es s1) fun xs s2 => WO (cl f (.loc r.1 :: xs) s2.S) fun z => (storeB (z.2.take s2.S.length) s2.S = true ∧ z.1.bel s2.S.length = true) ∧ Q (.v z.1) s2 := by
  simp only [evT, Wp_bind]
  constructor
  all_goals (
    intro h
    refine Wp.mono h fun x s1 h => ?_
    cases e : insAt x s1 with
    | none => rw [e] at h; exact h.elim
    | some r =>
      obtain ⟨m, c, ns, ds⟩ := r
      simp only [e, WO_some] at h ⊢
      cases e2 : dm.lookup c with
      | none => rw [e2] at h; exact h.elim
      | some f =>
        simp only [e2, WO_some, Wp_bind] at h ⊢
        refine Wp.mono h fun xs s2 h => ?_
        first | exact w_tcallO.mp h | exact w_tcallO.mpr h)
theorem w_mmd {mx : Bool} {a d : E} : Wp (evT cl (.mmd mx a d) st) Q ↔ Wp (evT cl a st) fun x s1 => Wp (lk (evT cl d s1)) fun y s2 => WO (look x s2) fun c => WO (mmF mx c y) fun z => Q (.v z) s2 := by
  simp only [evT, Wp_bind]
  constructor
  all_goals (
    intro h
    refine Wp.mono h fun x s1 h => Wp.mono h fun y s2 h => ?_
    cases e : look x s2 with
    | none => rw [e] at h; exact h.elim
    | some d => simp only [e, WO_some, w_vF] at h ⊢; exact h)
theorem w_dctl {es : List E} : Wp (evT cl (.dctl es) st) Q ↔ Wp (evEs cl es st) fun xs s1 => WO (dpairs xs ([], [])) fun z => Q (.v z) s1 := by
  simp only [evT, Wp_bind, w_vF]
theorem w_ins {m : Nat} {Q : Nat × Nat × List Nat × List D → Prop} : WO (insAt (.loc m) st) Q ↔ match st.S[m]? with
    | some (.o (.ins c ns ds)) => Q (m, c, ns, ds)
    | _ => False := by
  simp only [insAt]
  cases st.S[m]? with
  | none => exact Iff.rfl
  | some c =>
    cases c with
    | dead => exact Iff.rfl
    | o d => cases d <;> exact Iff.rfl
theorem storeB_rfl : ∀ S : Store, storeB S S = true
  | [] => rfl
  | a :: as => by
    have : Cell.beq a a = true := by
      cases a with
      | dead => rfl
      | o d => exact (D.beq_iff d d).mpr rfl
    simp [storeB, this, storeB_rfl as]
theorem storeB_app (S S' : Store) : storeB ((S ++ S').take S.length) S = true := by
  rw [List.take_left]; exact storeB_rfl S
end
/-- things with their numbers -/
def enumF (k : Int) : List D → List D
  | [] => []
  | x :: xs => .tup [.int k, x] :: enumF (k + 1) xs
theorem enumF_len : ∀ (xs : List D) (k : Int), (enumF k xs).length = xs.length
  | [], _ => rfl
  | x :: xs, k => by show (enumF (k + 1) xs).length + 1 = _; rw [enumF_len xs]; rfl
theorem enumF_get : ∀ (xs : List D) (k : Int) (i : Nat), (enumF k xs)[i]? = xs[i]?.map fun d => .tup [.int (k + i), d]
  | [], _, _ => by simp [enumF]
  | x :: xs, k, 0 => by simp [enumF]
  | x :: xs, k, i + 1 => by
    show (enumF (k + 1) xs)[i]? = _
    rw [enumF_get xs, List.getElem?_cons_succ]
    rw [show k + 1 + (i : Int) = k + ((i + 1 : Nat) : Int) by omega]
theorem enumF_eq (xs : List D) : enumF 0 xs = (List.range xs.length).zipWith (fun (k : Nat) d => .tup [.int k, d]) xs := by
  refine List.ext_getElem? fun i => ?_
  rw [enumF_get, List.getElem?_zipWith]
  cases h : xs[i]? with
  | none => simp
  | some d =>
    have := (List.getElem?_eq_some_iff.mp h).1
    rw [List.getElem?_range this]
    simp
section
variable {cl : CallF} {st : Sta}
theorem w_Es0 {Q : List D → Sta → Prop} : Wp (evEs cl [] st) Q ↔ Q [] st := Iff.rfl
theorem w_Es1 {e : E} {es : List E} {Q : List D → Sta → Prop} : Wp (evEs cl (e :: es) st) Q ↔ Wp (lk (evT cl e st)) fun d s1 => Wp (evEs cl es s1) fun ds s2 => Q (d :: ds) s2 := by simp only [evEs, Wp_bind, Wp_ok]
theorem w_Ts0 {Q : List T → Sta → Prop} : Wp (evTs cl [] st) Q ↔ Q [] st := Iff.rfl
theorem w_Ts1 {e : E} {es : List E} {Q : List T → Sta → Prop} : Wp (evTs cl (e :: es) st) Q ↔ Wp (evT cl e st) fun d s1 => Wp (evTs cl es s1) fun ds s2 => Q (d :: ds) s2 := by simp only [evTs, Wp_bind, Wp_ok]
theorem w_P0 {Q : Option Int → Sta → Prop} : Wp (evP cl none st) Q ↔ Q none st := Iff.rfl
theorem w_P1 {e : E} {Q : Option Int → Sta → Prop} : Wp (evP cl (some e) st) Q ↔ Wp (intO (lk (evT cl e st))) fun i s1 => Q (some i) s1 := by simp only [evP, Wp_bind, Wp_ok]
theorem w_tand {a b : C} {Q : Bool → Sta → Prop} : Wp (evB cl (.and a b) st) Q ↔ Wp (evB cl a st) fun k s1 => if k then Wp (evB cl b s1) Q else Q false s1 := by
  simp only [evB, Wp_bind]
  constructor
  all_goals (
    intro h
    refine Wp.mono h fun k s1 h => ?_
    cases k <;> exact h)
theorem w_tor {a b : C} {Q : Bool → Sta → Prop} : Wp (evB cl (.or a b) st) Q ↔ Wp (evB cl a st) fun k s1 => if k then Q true s1 else Wp (evB cl b s1) Q := by
  simp only [evB, Wp_bind]
  constructor
  all_goals (
    intro h
    refine Wp.mono h fun k s1 h => ?_
    cases k <;> exact h)
theorem w_tnot {a : C} {Q : Bool → Sta → Prop} : Wp (evB cl (.not a) st) Q ↔ Wp (evB cl a st) fun k s1 => Q (!k) s1 := by simp only [evB, Wp_bind, Wp_ok]
theorem w_tval {e : E} {Q : Bool → Sta → Prop} : Wp (evB cl (.val e) st) Q ↔ Wp (evT cl e st) fun x s1 => WO (look x s1) fun d => WO (truth d) fun k => Q k s1 := by
  simp only [evB, Wp_bind]
  constructor
  all_goals (
    intro h
    refine Wp.mono h fun x s1 h => ?_
    cases e : look x s1 with
    | none => rw [e] at h; exact h.elim
    | some d =>
      simp only [e, WO_some] at h ⊢
      cases e2 : truth d with
      | none => rw [e2] at h; exact h.elim
      | some k => rw [e2] at h; exact h)
theorem w_all0 {Q : Bool → Sta → Prop} : Wp (evAll cl [] st) Q ↔ Q true st := Iff.rfl
theorem w_all1 {c : C} {cs : List C} {Q : Bool → Sta → Prop} : Wp (evAll cl (c :: cs) st) Q ↔ Wp (evB cl c st) fun k s1 => if k then Wp (evAll cl cs s1) Q else Q false s1 := by
  simp only [evAll, Wp_bind]
  constructor
  all_goals (
    intro h
    refine Wp.mono h fun k s1 h => ?_
    cases k <;> exact h)
theorem w_hold {h : Bool} {t : T} {Q : D × Gd → Sta → Prop} : Wp (hold h t st) Q ↔ match t with
    | .slot i => (match st.env[i]? with
      | some (.own d) => if h then Q (d, [(.slot i, d)]) st else Q (d, []) { st with env := st.env.set i (.val d) }
      | some (.val (.loc n)) => Wp (cellG n st) Q
      | some (.val d) => Q (d, []) st
      | _ => False)
    | .v (.loc n) => Wp (cellG n st) Q
    | .v d => Q (d, []) st := by
  unfold hold
  cases t with
  | slot i =>
    simp only
    cases st.env[i]? with
    | none => exact Iff.rfl
    | some s =>
      cases s with
      | no => exact Iff.rfl
      | busy => exact Iff.rfl
      | own d => cases h <;> exact Iff.rfl
      | val d => cases d <;> exact Iff.rfl
  | v d => cases d <;> exact Iff.rfl
theorem w_cellG {n : Nat} {Q : D × Gd → Sta → Prop} : Wp (cellG n st) Q ↔ match st.S[n]? with
    | some (.o d) => Q (d, [(.v (.loc n), d)]) st
    | _ => False := by
  unfold cellG
  cases st.S[n]? with
  | none => exact Iff.rfl
  | some c => cases c <;> exact Iff.rfl
theorem w_iseq {h : Bool} {e : E} {Q : List D × Gd → Sta → Prop} : Wp (evI cl h (.seq e) st) Q ↔ Wp (evT cl e st) fun t s1 => Wp (hold h t s1) fun p s2 => match p.1 with
    | .lst xs => Q (xs, p.2) s2
    | .tup xs => Q (xs, p.2) s2
    | _ => False := by
  simp only [evI, Wp_bind]
  constructor
  all_goals (
    intro h
    refine Wp.mono h fun t s1 h => Wp.mono h fun p s2 h => ?_
    obtain ⟨x, g⟩ := p
    cases x <;> first | exact h.elim | exact h)
theorem w_irange1 {h : Bool} {a : E} {Q : List D × Gd → Sta → Prop} : Wp (evI cl h (.range1 a) st) Q ↔ Wp (intO (lk (evT cl a st))) fun i s1 => smallI i ∧ Q (rangeL 0 i, []) s1 := by
  simp only [evI, Wp_bind]
  constructor
  · intro h
    refine Wp.mono h fun k s2 h => ?_
    split at h
    · exact ⟨by assumption, h⟩
    · exact h.elim
  · intro h
    refine Wp.mono h fun k s2 h => ?_
    rw [if_pos h.1]; exact h.2
theorem w_irange {h : Bool} {a b : E} {Q : List D × Gd → Sta → Prop} : Wp (evI cl h (.range a b) st) Q ↔ Wp (intO (lk (evT cl a st))) fun i s1 => Wp (intO (lk (evT cl b s1))) fun j s2 => (smallI i ∧ smallI j) ∧ Q (rangeL i j, []) s2 := by
  simp only [evI, Wp_bind]
  constructor
  · intro h
    refine Wp.mono h fun k s2 h => Wp.mono h fun k s2 h => ?_
    split at h
    · exact ⟨by assumption, h⟩
    · exact h.elim
  · intro h
    refine Wp.mono h fun k s2 h => Wp.mono h fun k s2 h => ?_
    rw [if_pos h.1]; exact h.2
theorem w_ienum {h : Bool} {e : E} {Q : List D × Gd → Sta → Prop} : Wp (evI cl h (.enum e) st) Q ↔ Wp (evT cl e st) fun t s1 => Wp (hold h t s1) fun p s2 => match p.1 with
    | .lst xs => Q (enumF 0 xs, p.2) s2
    | _ => False := by
  simp only [evI, Wp_bind, ← enumF_eq]
  constructor
  all_goals (
    intro h
    refine Wp.mono h fun t s1 h => Wp.mono h fun p s2 h => ?_
    obtain ⟨x, g⟩ := p
    cases x <;> first | exact h.elim | exact h)
theorem w_izip {h : Bool} {a b : E} {Q : List D × Gd → Sta → Prop} : Wp (evI cl h (.zip a b) st) Q ↔ Wp (evT cl a st) fun t s1 => Wp (evT cl b s1) fun u s2 => Wp (hold h t s2) fun p s3 => Wp (hold h u s3) fun q s4 => match p.1, q.1 with
    | .lst xs, .lst ys => Q (xs.zipWith (fun x y => .tup [x, y]) ys, p.2 ++ q.2) s4
    | _, _ => False := by
  simp only [evI, Wp_bind]
  constructor
  all_goals (
    intro h
    refine Wp.mono h fun t s1 h => Wp.mono h fun u s2 h => Wp.mono h fun p s3 h => Wp.mono h fun q s4 h => ?_
    obtain ⟨x, g⟩ := p
    obtain ⟨y, g'⟩ := q
    cases x <;> cases y <;> first | exact h.elim | exact h)
theorem w_irev {h : Bool} {e : E} {Q : List D × Gd → Sta → Prop} : Wp (evI cl h (.rev e) st) Q ↔ Wp (evT cl e st) fun t s1 => Wp (hold h t s1) fun p s2 => match p.1 with
    | .lst xs => Q (xs.reverse, p.2) s2
    | _ => False := by
  simp only [evI, Wp_bind]
  constructor
  all_goals (
    intro h
    refine Wp.mono h fun t s1 h => Wp.mono h fun p s2 h => ?_
    obtain ⟨x, g⟩ := p
    cases x <;> first | exact h.elim | exact h)
theorem gd0 : gdB [] st = true := rfl
theorem beq_self {d : D} : D.beq d d = true := (D.beq_iff d d).mpr rfl
theorem gd1 {t : T} {d : D} {g : Gd} : gdB ((t, d) :: g) st = true ↔ (WO (look t st) fun e => D.beq e d = true) ∧ gdB g st = true := by
  show ((match look t st with
    | some e => D.beq e d
    | none => false) && gdB g st) = true ↔ _
  rw [Bool.and_eq_true]
  cases look t st with
  | none => simp [WO]
  | some e => exact Iff.rfl
theorem w_gname {i : Nat} {d : D} {Q : Unit → Sta → Prop} : Wp (evG cl (.name i) d st) Q ↔ i < st.env.length ∧ Q () { st with env := st.env.set i (.val d) } := by
  simp only [evG]
  by_cases h : i < st.env.length
  · simp only [h, if_true, true_and]; exact Iff.rfl
  · simp only [h, if_false, false_and]; exact Iff.rfl
theorem w_gtup {gs : List G} {d : D} {Q : Unit → Sta → Prop} : Wp (evG cl (.tup gs) d st) Q ↔ match d with
    | .tup ds => Wp (evGs cl gs ds st) Q
    | .lst ds => Wp (evGs cl gs ds st) Q
    | _ => False := by
  simp only [evG]
  cases d <;> exact Iff.rfl
theorem w_setO {x : T} {j d : D} {Q : Unit → Sta → Prop} : Wp (setO x j d st) Q ↔ WO (look x st) fun c => match c with
    | .lst xs => (match j with
      | .int j => WO (place xs.length j) fun k => WO (put x (.lst (xs.set k d)) st) fun s3 => Q () s3
      | _ => False)
    | .dct k ks vs => (keyOk k j = true ∧ ks.length < 1000000) ∧ WO (put x (.dct k (dputL ks vs j d).1 (dputL ks vs j d).2) st) fun s3 => Q () s3
    | _ => False := by
  unfold setO
  cases e : look x st with
  | none => exact Iff.rfl
  | some c =>
    cases c <;> first | exact Iff.rfl | skip
    · cases j <;> first | exact Iff.rfl | skip
      rename_i xs j
      simp only [WO_some]
      cases e2 : place xs.length j with
      | none => exact Iff.rfl
      | some k =>
        simp only [WO_some]
        cases e3 : put x (.lst (xs.set k d)) st <;> exact Iff.rfl
    · rename_i k ks vs
      simp only [WO_some]
      by_cases hc : keyOk k j = true ∧ ks.length < 1000000
      · rw [if_pos hc]
        simp only [hc, and_self, true_and]
        cases e3 : put x (.dct k (dputL ks vs j d).1 (dputL ks vs j d).2) st <;> exact Iff.rfl
      · rw [if_neg hc]
        simp only [hc, false_and]; exact Iff.rfl
theorem w_gsub {o i : E} {d : D} {Q : Unit → Sta → Prop} : Wp (evG cl (.sub o i) d st) Q ↔ Wp (evT cl o st) fun x s1 => Wp (lk (evT cl i s1)) fun j s2 => WO (look x s2) fun c => match c with
    | .lst xs => (match j with
      | .int j => WO (place xs.length j) fun k => WO (put x (.lst (xs.set k d)) s2) fun s3 => Q () s3
      | _ => False)
    | .dct k ks vs => (keyOk k j = true ∧ ks.length < 1000000) ∧ WO (put x (.dct k (dputL ks vs j d).1 (dputL ks vs j d).2) s2) fun s3 => Q () s3
    | _ => False := by
  simp only [evG, Wp_bind]
  exact ⟨fun h => Wp.mono h fun x s1 h => Wp.mono h fun j s2 h => w_setO.mp h, fun h => Wp.mono h fun x s1 h => Wp.mono h fun j s2 h => w_setO.mpr h⟩
theorem w_gs0 {Q : Unit → Sta → Prop} : Wp (evGs cl [] [] st) Q ↔ Q () st := Iff.rfl
theorem w_gs1 {g : G} {gs : List G} {d : D} {ds : List D} {Q : Unit → Sta → Prop} : Wp (evGs cl (g :: gs) (d :: ds) st) Q ↔ Wp (evG cl g d st) fun _ s1 => Wp (evGs cl gs ds s1) Q := by simp only [evGs, Wp_bind]
/-! statements -/
/-- what follows in a block -/
def Nx (cl : CallF) (ss : List S) (Q : Ctl → Sta → Prop) : Ctl → Sta → Prop := fun c s => match c with
  | .nx => Wp (evSs cl ss s) Q
  | c => Q c s
variable {Q : Ctl → Sta → Prop}
/-- (only where the state is told: so a step that stands still is not gone past) -/
theorem nx_nx {ss : List S} {a : Slot} {e : Env} {S : Store} : Nx cl ss Q .nx ⟨a :: e, S⟩ ↔ Wp (evSs cl ss ⟨a :: e, S⟩) Q := Iff.rfl
theorem nx_nx0 {ss : List S} {S : Store} : Nx cl ss Q .nx ⟨[], S⟩ ↔ Wp (evSs cl ss ⟨[], S⟩) Q := Iff.rfl
theorem nx_any {ss : List S} : Nx cl ss Q .nx st ↔ Wp (evSs cl ss st) Q := Iff.rfl
theorem nx_rt {ss : List S} {d : D} {fr : Bool} : Nx cl ss Q (.rt d fr) st ↔ Q (.rt d fr) st := Iff.rfl
theorem nx_bk {ss : List S} : Nx cl ss Q .bk st ↔ Q .bk st := Iff.rfl
theorem nx_ct {ss : List S} : Nx cl ss Q .ct st ↔ Q .ct st := Iff.rfl
theorem w_ss0 : Wp (evSs cl [] st) Q ↔ Q .nx st := Iff.rfl
theorem w_ss1 {s : S} {ss : List S} : Wp (evSs cl (s :: ss) st) Q ↔ Wp (evS cl s st) (Nx cl ss Q) := by
  simp only [evSs, Wp_bind]
  constructor
  all_goals (
    intro h
    refine Wp.mono h fun c s1 h => ?_
    cases c <;> exact h)
/-- a block in two -/
theorem w_app : ∀ {a b : List S} {st : Sta} {Q : Ctl → Sta → Prop}, Wp (evSs cl (a ++ b) st) Q ↔ Wp (evSs cl a st) (Nx cl b Q)
  | [], b, st, Q => Iff.rfl
  | s :: a, b, st, Q => by
    rw [List.cons_append, w_ss1, w_ss1]
    have e : Nx cl (a ++ b) Q = Nx cl a (Nx cl b Q) := by
      funext c s'
      cases c with
      | nx => exact propext w_app
      | _ => rfl
    rw [e]
theorem w_set {i : Nat} {e : E} {own : Bool} : Wp (evS cl (.set i e own) st) Q ↔ Wp (lk (evT cl e st)) fun d s1 => i < s1.env.length ∧ Q .nx { s1 with env := s1.env.set i (if own then mkSlot d else .val d) } := by
  simp only [evS, Wp_bind]
  constructor
  · intro h
    refine Wp.mono h fun k s2 h => ?_
    split at h
    · exact ⟨by assumption, h⟩
    · exact h.elim
  · intro h
    refine Wp.mono h fun k s2 h => ?_
    rw [if_pos h.1]; exact h.2
theorem w_asg {g : G} {e : E} : Wp (evS cl (.asg g e) st) Q ↔ Wp (lk (evT cl e st)) fun d s1 => Wp (evG cl g d s1) fun _ s2 => Q .nx s2 := by simp only [evS, Wp_bind, Wp_ok]
theorem Wp_no {α : Type} {o : Out α} : Wp o (fun _ _ => False) ↔ False := by cases o <;> exact Iff.rfl
theorem aug_step {i : Nat} {op : BOp} {x y : D} {s1 : Sta} : Wp (match x, y, binF op x y with
      | .int _, .int _, some z => if i < s1.env.length then Out.ok Ctl.nx (setName i z s1) else .bad
      | _, _, _ => .bad) Q ↔ match x, y with
      | .int a, .int b => WO (intF op a b) fun z => i < s1.env.length ∧ Q .nx (setName i (.int z) s1)
      | _, _ => False := by
  cases x <;> try exact Iff.rfl
  cases y <;> try exact Iff.rfl
  rename_i a b
  show Wp (match (.int a : D), (.int b : D), (intF op a b).map D.int with
      | .int _, .int _, some z => if i < s1.env.length then Out.ok Ctl.nx (setName i z s1) else .bad
      | _, _, _ => .bad) Q ↔ WO (intF op a b) fun z => i < s1.env.length ∧ Q .nx (setName i (.int z) s1)
  cases intF op a b with
  | none => exact Iff.rfl
  | some z =>
    by_cases hi : i < s1.env.length
    · simp only [Option.map, hi, if_true, WO_some, true_and]; exact Iff.rfl
    · simp only [Option.map, hi, if_false, WO_some, false_and]; exact Iff.rfl
theorem w_aug {i : Nat} {op : BOp} {e : E} : Wp (evS cl (.aug i op e) st) Q ↔ match st.env[i]? with
    | some (.val x) => Wp (lk (evT cl e st)) fun y s1 => (match x, y with
      | .int a, .int b => WO (intF op a b) fun z => i < s1.env.length ∧ Q .nx (setName i (.int z) s1)
      | _, _ => False)
    | _ => False := by
  simp only [evS]
  cases e0 : st.env[i]? with
  | none => exact Iff.rfl
  | some sl =>
    cases sl <;> first | exact Iff.rfl | skip
    rename_i x
    simp only [Wp_bind]
    exact ⟨fun h => Wp.mono h fun y s1 h => aug_step.mp h, fun h => Wp.mono h fun y s1 h => aug_step.mpr h⟩
theorem w_ex {e : E} : Wp (evS cl (.ex e) st) Q ↔ Wp (lk (evT cl e st)) fun _ s1 => Q .nx s1 := by simp only [evS, Wp_bind, Wp_ok]
theorem w_fset {o e : E} {n : Nat} {cs : List Nat} : Wp (evS cl (.fset o n cs e) st) Q ↔ Wp (lk (evT cl e st)) fun d s1 => Wp (lk (evT cl o s1)) fun x s2 => WO (insAt x s2) fun r => (r.2.1 ∈ cs ∧ r.2.2.1.length < 100) ∧ Q .nx { s2 with S := s2.S.set r.1 (.o (.ins r.2.1 (fputL r.2.2.1 r.2.2.2 n d).1 (fputL r.2.2.1 r.2.2.2 n d).2)) } := by
  simp only [evS, Wp_bind]
  constructor
  all_goals (
    intro h
    refine Wp.mono h fun x s1 h => Wp.mono h fun y s2 h => ?_
    cases e : insAt y s2 with
    | none => rw [e] at h; exact h.elim
    | some r =>
      obtain ⟨m, c, ns, ds⟩ := r
      simp only [e, WO_some] at h ⊢
      first
        | (split at h
           · exact ⟨by assumption, h⟩
           · exact h.elim)
        | (rw [if_pos h.1]; exact h.2))
theorem w_ret {e : E} {fr : Bool} : Wp (evS cl (.ret e fr) st) Q ↔ Wp (lk (evT cl e st)) fun d s1 => Q (.rt d fr) s1 := by simp only [evS, Wp_bind, Wp_ok]
theorem w_retN : Wp (evS cl .retN st) Q ↔ Q (.rt .non false) st := Iff.rfl
theorem w_ite {c : C} {a b : List S} : Wp (evS cl (.ite c a b) st) Q ↔ Wp (evB cl c st) fun k s1 => if k then Wp (evSs cl a s1) Q else Wp (evSs cl b s1) Q := by
  simp only [evS, Wp_bind]
  constructor
  all_goals (
    intro h
    refine Wp.mono h fun k s1 h => ?_
    cases k <;> exact h)
theorem w_for {g : G} {it : I} {body : List S} : Wp (evS cl (.for g it body) st) Q ↔ Wp (evI cl false it st) fun ds s1 => Wp (loop ds.2 (evG cl g) (evSs cl body) ds.1 s1) Q := by simp only [evS, Wp_bind]
theorem w_forO {i : Nat} {g : G} {body : List S} : Wp (evS cl (.forO i g body) st) Q ↔ match st.env[i]? with
    | some (.own (.lst xs)) => Wp (loop [] (evG cl g) (evSs cl body) xs { st with env := st.env.set i .busy }) fun c s1 => (match s1.env[i]?, c with
      | some .busy, .nx => Q .nx { s1 with env := s1.env.set i (.own (.lst xs)) }
      | some .busy, .rt d fr => Q (.rt d fr) { s1 with env := s1.env.set i .no }
      | _, _ => False)
    | _ => False := by
  simp only [evS]
  cases e0 : st.env[i]? with
  | none => exact Iff.rfl
  | some sl =>
    cases sl <;> first | exact Iff.rfl | skip
    rename_i d
    cases d <;> first | exact Iff.rfl | skip
    simp only [Wp_bind]
    constructor
    all_goals (
      intro h
      refine Wp.mono h fun c s1 h => ?_
      cases e1 : s1.env[i]? with
      | none => rw [e1] at h; exact h.elim
      | some s => rw [e1] at h; cases s <;> cases c <;> exact h)
theorem w_wh {c : C} {body : List S} : Wp (evS cl (.wh c body) st) Q ↔ Wp (whil (evB cl c) (evSs cl body) fuel st) Q := by simp only [evS]
theorem w_pass : Wp (evS cl .pass st) Q ↔ Q .nx st := Iff.rfl
theorem w_brk : Wp (evS cl .brk st) Q ↔ Q .bk st := Iff.rfl
theorem w_cont : Wp (evS cl .cont st) Q ↔ Q .ct st := Iff.rfl
/-- a loop by what holds between its turns -/
theorem w_loopG {gd : Gd} {tg : D → Sta → Out Unit} {body : Sta → Out Ctl} {Q : Ctl → Sta → Prop} (I : List D → Sta → Prop) (hg : ∀ ds st, I ds st → gdB gd st = true)
    (h : ∀ d ds st, I (d :: ds) st → Wp (tg d st) fun _ s1 => Wp (body s1) fun c s2 => match c with
      | .nx => I ds s2
      | .ct => I ds s2
      | .bk => Q .nx s2
      | .rt d fr => Q (.rt d fr) s2) (h2 : ∀ st, I [] st → Q .nx st) :
    ∀ ds st, I ds st → Wp (loop gd tg body ds st) Q
  | [], st, i => by
    unfold loop
    rw [if_pos (hg _ _ i)]
    exact h2 st i
  | d :: ds, st, i => by
    unfold loop
    rw [if_pos (hg _ _ i), Wp_bind]
    refine Wp.mono (h d ds st i) fun _ s1 h' => ?_
    rw [Wp_bind]
    refine Wp.mono h' fun c s2 h' => ?_
    cases c with
    | nx => exact w_loopG I hg h h2 ds s2 h'
    | ct => exact w_loopG I hg h h2 ds s2 h'
    | bk => exact h'
    | rt d fr => exact h'
theorem w_loop {tg : D → Sta → Out Unit} {body : Sta → Out Ctl} {Q : Ctl → Sta → Prop} (I : List D → Sta → Prop)
    (h : ∀ d ds st, I (d :: ds) st → Wp (tg d st) fun _ s1 => Wp (body s1) fun c s2 => match c with
      | .nx => I ds s2
      | .ct => I ds s2
      | .bk => Q .nx s2
      | .rt d fr => Q (.rt d fr) s2) (h2 : ∀ st, I [] st → Q .nx st) :
    ∀ ds st, I ds st → Wp (loop [] tg body ds st) Q := w_loopG I (fun _ _ _ => rfl) h h2
/-- .. by what stands behind k turns -/
theorem w_loopNG {gd : Gd} {tg : D → Sta → Out Unit} {body : Sta → Out Ctl} {Q : Ctl → Sta → Prop} {ds : List D} {st : Sta} (I : Nat → Sta → Prop) (hg : ∀ k st, I k st → gdB gd st = true) (h0 : I 0 st)
    (h : ∀ k d st, ds[k]? = some d → I k st → Wp (tg d st) fun _ s1 => Wp (body s1) fun c s2 => match c with
      | .nx => I (k + 1) s2
      | .ct => I (k + 1) s2
      | .bk => Q .nx s2
      | .rt d fr => Q (.rt d fr) s2) (h2 : ∀ st, I ds.length st → Q .nx st) : Wp (loop gd tg body ds st) Q := by
  refine w_loopG (fun es st => ∃ k, es = ds.drop k ∧ k ≤ ds.length ∧ I k st) (fun es st ⟨k, _, _, i⟩ => hg k st i) ?_ ?_ ds st ⟨0, rfl, Nat.zero_le _, h0⟩
  · rintro d es st ⟨k, e, hk, i⟩
    have hlt : k < ds.length := by
      rcases Nat.lt_or_eq_of_le hk with z | z
      · exact z
      · rw [z, List.drop_length] at e; cases e
    rw [List.drop_eq_getElem_cons hlt] at e
    injection e with e1 e2
    have := h k d st (by rw [e1]; exact List.getElem?_eq_getElem hlt) i
    refine Wp.mono this fun _ s1 h' => Wp.mono h' fun c s2 h' => ?_
    cases c with
    | nx => exact ⟨k + 1, e2, hlt, h'⟩
    | ct => exact ⟨k + 1, e2, hlt, h'⟩
    | bk => exact h'
    | rt d fr => exact h'
  · rintro st ⟨k, e, hk, i⟩
    have : k = ds.length := by
      have := congrArg List.length e
      rw [List.length_drop, List.length_nil] at this
      omega
    subst this
    exact h2 st i
theorem w_loopN {tg : D → Sta → Out Unit} {body : Sta → Out Ctl} {Q : Ctl → Sta → Prop} {ds : List D} {st : Sta} (I : Nat → Sta → Prop) (h0 : I 0 st)
    (h : ∀ k d st, ds[k]? = some d → I k st → Wp (tg d st) fun _ s1 => Wp (body s1) fun c s2 => match c with
      | .nx => I (k + 1) s2
      | .ct => I (k + 1) s2
      | .bk => Q .nx s2
      | .rt d fr => Q (.rt d fr) s2) (h2 : ∀ st, I ds.length st → Q .nx st) : Wp (loop [] tg body ds st) Q := w_loopNG I (fun _ _ _ => rfl) h0 h h2
/-- a while by a measure -/
theorem w_while {c : Sta → Out Bool} {body : Sta → Out Ctl} {Q : Ctl → Sta → Prop} (I : Nat → Sta → Prop)
    (h : ∀ m st, I m st → Wp (c st) fun k s1 => if k then Wp (body s1) (fun c s2 => match c with
      | .nx => ∃ m', m' < m ∧ I m' s2
      | .ct => ∃ m', m' < m ∧ I m' s2
      | .bk => Q .nx s2
      | .rt d fr => Q (.rt d fr) s2) else Q .nx s1) : ∀ n m st, m < n → I m st → Wp (whil c body n st) Q
  | 0, m, st, hm, _ => absurd hm (Nat.not_lt_zero _)
  | n + 1, m, st, hm, i => by
    unfold whil
    rw [Wp_bind]
    refine Wp.mono (h m st i) fun k s1 h' => ?_
    cases k with
    | false => exact h'
    | true =>
      simp only [if_true] at h' ⊢
      rw [Wp_bind]
      refine Wp.mono h' fun c s2 h' => ?_
      cases c with
      | nx => obtain ⟨m', hm', i'⟩ := h'; exact w_while I h n m' s2 (by omega) i'
      | ct => obtain ⟨m', hm', i'⟩ := h'; exact w_while I h n m' s2 (by omega) i'
      | bk => exact h'
      | rt d fr => exact h'
theorem fuel_gt {m : Nat} (h : m < 10 ^ 30) : m < fuel := h
/-- a comprehension's turns -/
theorem w_compL {gd : Gd} {tg : D → Sta → Out Unit} {c : Sta → Out Bool} {e : Sta → Out D} {own : List Nat} {Q : List D → Sta → Prop} (I : List D → List D → Sta → Prop) (hg : ∀ ds acc st, I ds acc st → gdB gd { st with env := wipeE st.env own } = true)
    (h : ∀ d ds acc st, I (d :: ds) acc st → Wp (tg d { st with env := wipeE st.env own }) fun _ s1 => Wp (c s1) fun k s2 => if k then Wp (e s2) (fun x s3 => acc.length < 1000000 ∧ I ds (acc ++ [x]) s3) else I ds acc s2)
    (h2 : ∀ acc st, I [] acc st → Q acc st) : ∀ ds acc st, I ds acc st → Wp (compL gd tg c e own ds acc st) Q
  | [], acc, st, i => by
    unfold compL
    rw [if_pos (hg _ _ _ i)]
    exact h2 acc st i
  | d :: ds, acc, st, i => by
    unfold compL
    rw [if_pos (hg _ _ _ i), Wp_bind]
    refine Wp.mono (h d ds acc st i) fun _ s1 h' => ?_
    rw [Wp_bind]
    refine Wp.mono h' fun k s2 h' => ?_
    cases k with
    | false => exact w_compL I hg h h2 ds acc s2 h'
    | true =>
      simp only [if_true] at h' ⊢
      rw [Wp_bind]
      refine Wp.mono h' fun x s3 h' => ?_
      rw [if_pos h'.1]
      exact w_compL I hg h h2 ds _ s3 h'.2
/-- the call of a def by its body -/
theorem call_of {tab : List Def} {n f : Nat} {df : Def} {ds : List D} {S : Store} {R : D → Store → Prop} (ht : tab[f]? = some df) (hl : ds.length = df.np)
    (h : Wp (evSs (callN tab n) df.body ⟨ds.map .val ++ List.replicate (df.ns - df.np) .no, S⟩) fun c s => match c with
      | .rt d fr => fr = df.fr ∧ R d s.S
      | .nx => df.fr = false ∧ R .non s.S
      | _ => False) : ∃ d S', callN tab (n + 1) f ds S = some (d, S') ∧ R d S' := by
  obtain ⟨c, s, e, h⟩ := Wp_ex.mp h
  have e1 : callN tab (n + 1) f ds S = runD (callN tab n) df ds S := by
    show (match tab[f]? with
      | some df => runD (callN tab n) df ds S
      | none => none) = _
    rw [ht]
  rw [e1]
  unfold runD
  rw [if_pos hl, e]
  cases c with
  | rt d fr => simp only [h.1, if_true]; exact ⟨d, s.S, rfl, h.2⟩
  | nx => simp only [h.1]; exact ⟨.non, s.S, rfl, h.2⟩
  | bk => exact h.elim
  | ct => exact h.elim
theorem call_eq {tab : List Def} {n f : Nat} {df : Def} {ds : List D} {S : Store} {d : D} {S' : Store} (ht : tab[f]? = some df) (hl : ds.length = df.np)
    (h : Wp (evSs (callN tab n) df.body ⟨ds.map .val ++ List.replicate (df.ns - df.np) .no, S⟩) fun c s => match c with
      | .rt e fr => fr = df.fr ∧ e = d ∧ s.S = S'
      | .nx => df.fr = false ∧ .non = d ∧ s.S = S'
      | _ => False) : callN tab (n + 1) f ds S = some (d, S') := by
  obtain ⟨d', S2, e, rfl, rfl⟩ := call_of (R := fun e s => e = d ∧ s = S') ht hl h
  exact e
/-- what follows a turn of a loop that is unrolled -/
def Lp (tg : D → Sta → Out Unit) (body : Sta → Out Ctl) (ds : List D) (Q : Ctl → Sta → Prop) : Ctl → Sta → Prop := fun c s => match c with
  | .nx => Wp (loop [] tg body ds s) Q
  | .ct => Wp (loop [] tg body ds s) Q
  | .bk => Q .nx s
  | .rt d fr => Q (.rt d fr) s
section
variable {tg : D → Sta → Out Unit} {body : Sta → Out Ctl} {ds : List D}
theorem lp_nx {a : Slot} {e : Env} {S : Store} : Lp tg body ds Q .nx ⟨a :: e, S⟩ ↔ Wp (loop [] tg body ds ⟨a :: e, S⟩) Q := Iff.rfl
theorem lp_ct {a : Slot} {e : Env} {S : Store} : Lp tg body ds Q .ct ⟨a :: e, S⟩ ↔ Wp (loop [] tg body ds ⟨a :: e, S⟩) Q := Iff.rfl
theorem lp_bk : Lp tg body ds Q .bk st ↔ Q .nx st := Iff.rfl
theorem lp_rt {d : D} {fr : Bool} : Lp tg body ds Q (.rt d fr) st ↔ Q (.rt d fr) st := Iff.rfl
theorem u_loop0 : Wp (loop [] tg body [] st) Q ↔ Q .nx st := Iff.rfl
theorem u_loop1 {d : D} : Wp (loop [] tg body (d :: ds) st) Q ↔ Wp (tg d st) fun _ s1 => Wp (body s1) (Lp tg body ds Q) := by
  unfold loop
  rw [gd0, if_pos rfl]
  simp only [Wp_bind]
  constructor
  all_goals (
    intro h
    refine Wp.mono h fun _ s1 h => Wp.mono h fun c s2 h => ?_
    cases c <;> exact h)
end
theorem wipe1 {env : Env} {i : Nat} {s : Slot} : (wipeE env [i]).set i s = env.set i s := by
  show (env.set i .no).set i s = _
  rw [List.set_set]
/-- [e for i in it], e asking and changing nothing -/
theorem w_compM {α : Type} {e : E} {i : Nat} {it : I} {st : Sta} {Q : T → Sta → Prop} (enc : α → D) (f : α → D) (as : List α) (hit : Wp (evI cl true it st) fun p s => p.1 = as.map enc ∧ gdB p.2 { st with env := st.env.set i .no } = true ∧ s = st) (hi : i < st.env.length) (hl : as.length ≤ 1000000)
    (h : ∀ a ∈ as, Wp (lk (evT cl e { st with env := st.env.set i (.val (enc a)) })) fun x s => x = f a ∧ s = { st with env := st.env.set i (.val (enc a)) })
    (hQ : Q (.v (.lst (as.map f))) { st with env := st.env.set i (unSlot st.env i) }) : Wp (evT cl (.comp e (.name i) it [] [i]) st) Q := by
  rw [w_comp]
  refine Wp.mono hit fun ⟨xs, gd⟩ s ⟨e1, hgd, e2⟩ => ?_
  have e1 : xs = as.map enc := e1
  subst e1 e2
  refine w_compL (fun es acc s' => ∃ k, es = (as.drop k).map enc ∧ k ≤ as.length ∧ acc = (as.take k).map f ∧ s'.S = s.S ∧ ∃ sl, s'.env = s.env.set i sl) ?_ ?_ ?_ _ [] s ⟨0, rfl, Nat.zero_le _, rfl, rfl, ?_⟩
  · rintro es acc s' ⟨k, ek, hk, rfl, hS, sl, hE⟩
    have : ({ s' with env := wipeE s'.env [i] } : Sta) = { s with env := s.env.set i .no } := by
      show ({ s' with env := s'.env.set i .no } : Sta) = _
      rw [hE, List.set_set, ← hS]
    rw [this]; exact hgd
  · rintro d es acc s' ⟨k, ek, hk, rfl, hS, sl, hE⟩
    have hlt : k < as.length := by
      rcases Nat.lt_or_eq_of_le hk with z | z
      · exact z
      · rw [z, List.drop_length] at ek; cases ek
    rw [List.drop_eq_getElem_cons hlt, List.map_cons] at ek
    injection ek with e1 e2
    have hs : ({ s' with env := (wipeE s'.env [i]).set i (.val d) } : Sta) = { s with env := s.env.set i (.val d) } := by
      rw [wipe1, hE, List.set_set, ← hS]
    rw [w_gname]
    refine ⟨?_, ?_⟩
    · show i < (s'.env.set i .no).length
      rw [List.length_set, hE, List.length_set]; exact hi
    · show Wp (evAll cl [] { s' with env := (wipeE s'.env [i]).set i (.val d) }) _
      rw [hs, w_all0, if_pos rfl, e1]
      refine Wp.mono (h as[k] (List.getElem_mem _)) fun x s3 ⟨ex, es⟩ => ?_
      subst ex es
      refine ⟨?_, k + 1, e2, hlt, ?_, rfl, _, rfl⟩
      · rw [List.length_map, List.length_take]; omega
      · rw [List.take_succ_eq_append_getElem hlt, List.map_append]; rfl
  · rintro acc s' ⟨k, ek, hk, rfl, hS, sl, hE⟩
    have : k = as.length := by
      have := congrArg List.length ek
      rw [List.length_map, List.length_drop, List.length_nil] at this
      omega
    subst this
    rw [List.take_length]
    have : ({ s' with env := unwipe s.env s'.env [i] } : Sta) = { s with env := s.env.set i (unSlot s.env i) } := by
      show ({ s' with env := s'.env.set i (unSlot s.env i) } : Sta) = _
      rw [hE, List.set_set, ← hS]
    rw [this]
    exact hQ
  · cases hz : s.env[i]? with
    | none => rw [List.getElem?_eq_none_iff] at hz; omega
    | some sl => exact ⟨sl, by
        obtain ⟨h1, h2⟩ := List.getElem?_eq_some_iff.mp hz
        rw [← h2, List.set_getElem_self]⟩
theorem w_compN {e : E} {i : Nat} {it : I} {st : Sta} {Q : T → Sta → Prop} (f : D → D) (ds : List D) (hit : Wp (evI cl true it st) fun p s => p.1 = ds ∧ gdB p.2 { st with env := st.env.set i .no } = true ∧ s = st) (hi : i < st.env.length) (hl : ds.length ≤ 1000000)
    (h : ∀ d ∈ ds, Wp (lk (evT cl e { st with env := st.env.set i (.val d) })) fun x s => x = f d ∧ s = { st with env := st.env.set i (.val d) })
    (hQ : Q (.v (.lst (ds.map f))) { st with env := st.env.set i (unSlot st.env i) }) : Wp (evT cl (.comp e (.name i) it [] [i]) st) Q :=
  w_compM id f ds (Wp.mono hit fun xs s h => ⟨by rw [List.map_id]; exact h.1, h.2⟩) hi hl h hQ
def cfg0 : Cfg := ⟨fun _ => 0, aName [], fun _ => 0, aName_inj (by decide)⟩
theorem unwipe_wiped {old e e' : Env} {own : List Nat} (h : wipeE e own = wipeE e' own) : unwipe old e own = unwipe old e' own := by
  haveI := cfg0
  have hl : e.length = e'.length := by
    have := congrArg List.length h
    rwa [wipeE_get.wipeE_len, wipeE_get.wipeE_len] at this
  refine List.ext_getElem? fun j => ?_
  rw [unwipe_get, unwipe_get]
  by_cases hj : j ∈ own
  · rw [if_pos hj, if_pos hj, hl]
  · rw [if_neg hj, if_neg hj]
    have := congrArg (fun z : Env => z[j]?) h
    simp only [wipeE_get, if_neg hj] at this
    exact this
/-- [e for g in it if c], asking and changing nothing -/
theorem w_compG {α : Type} {e : E} {g : G} {it : I} {cs : List C} {own : List Nat} {st : Sta} {Q : T → Sta → Prop} (enc : α → D) (p : α → Bool) (f : α → D) (as : List α) (hit : Wp (evI cl true it st) fun q s => q.1 = as.map enc ∧ gdB q.2 { st with env := wipeE st.env own } = true ∧ s = st) (hl : as.length ≤ 1000000)
    (h : ∀ a ∈ as, Wp (evG cl g (enc a) { st with env := wipeE st.env own }) fun _ s1 => Wp (evAll cl cs s1) fun k s2 => k = p a ∧ if p a then Wp (lk (evT cl e s2)) (fun x s3 => x = f a ∧ s3.S = st.S ∧ wipeE s3.env own = wipeE st.env own) else s2.S = st.S ∧ wipeE s2.env own = wipeE st.env own)
    (hQ : Q (.v (.lst ((as.filter p).map f))) { st with env := unwipe st.env st.env own }) : Wp (evT cl (.comp e g it cs own) st) Q := by
  rw [w_comp]
  refine Wp.mono hit fun ⟨xs, gd⟩ s ⟨e1, hgd, e2⟩ => ?_
  have e1 : xs = as.map enc := e1
  subst e1 e2
  have same : ∀ s' : Sta, s'.S = s.S → wipeE s'.env own = wipeE s.env own → ({ s' with env := wipeE s'.env own } : Sta) = { s with env := wipeE s.env own } := fun s' h1 h2 => by rw [h2, ← h1]
  refine w_compL (fun es acc s' => ∃ k, es = (as.drop k).map enc ∧ k ≤ as.length ∧ acc = ((as.take k).filter p).map f ∧ s'.S = s.S ∧ wipeE s'.env own = wipeE s.env own) ?_ ?_ ?_ _ [] s ⟨0, rfl, Nat.zero_le _, rfl, rfl, rfl⟩
  · rintro es acc s' ⟨k, ek, hk, rfl, hS, hE⟩
    rw [same s' hS hE]; exact hgd
  · rintro d es acc s' ⟨k, ek, hk, rfl, hS, hE⟩
    have hlt : k < as.length := by
      rcases Nat.lt_or_eq_of_le hk with z | z
      · exact z
      · rw [z, List.drop_length] at ek; cases ek
    rw [List.drop_eq_getElem_cons hlt, List.map_cons] at ek
    injection ek with e1 e2
    rw [same s' hS hE, e1]
    have ht : (as.take (k + 1)).filter p = (as.take k).filter p ++ if p as[k] then [as[k]] else [] := by
      rw [List.take_succ_eq_append_getElem hlt, List.filter_append, List.filter_cons, List.filter_nil]
    refine Wp.mono (h as[k] (List.getElem_mem _)) fun _ s1 h' => Wp.mono h' fun kk s2 ⟨hk2, h'⟩ => ?_
    subst hk2
    cases hp : p as[k] with
    | true =>
      simp only [hp, if_true] at h' ⊢
      refine Wp.mono h' fun x s3 ⟨ex, h1, h2⟩ => ⟨?_, k + 1, e2, hlt, ?_, h1, h2⟩
      · have := List.length_filter_le p (as.take k)
        rw [List.length_map]
        rw [List.length_take] at this; omega
      · rw [ht, hp, ex]; simp
    | false =>
      simp only [hp, Bool.false_eq_true, if_false] at h' ⊢
      refine ⟨k + 1, e2, hlt, ?_, h'.1, h'.2⟩
      rw [ht, hp]; simp
  · rintro acc s' ⟨k, ek, hk, rfl, hS, hE⟩
    have : k = as.length := by
      have := congrArg List.length ek
      rw [List.length_map, List.length_drop, List.length_nil] at this
      omega
    subst this
    rw [List.take_length]
    have : ({ s' with env := unwipe s.env s'.env own } : Sta) = { s with env := unwipe s.env s.env own } := by
      rw [unwipe_wiped hE, ← hS]
    rw [this]
    exact hQ
end
end Gp

/-! Gp, part V: values as the runs meet them. -/
namespace Gp
open PySem L2
section
variable {Q : D → Prop} {i j : Int} {xs ys : List D}
theorem v_add : WO (binF .add (.int i) (.int j)) Q ↔ Q (.int (i + j)) := Iff.rfl
theorem v_sub : WO (binF .sub (.int i) (.int j)) Q ↔ Q (.int (i - j)) := Iff.rfl
theorem v_mul : WO (binF .mul (.int i) (.int j)) Q ↔ (bigI i ∨ bigI j ∨ (wideI i ∧ wideI j)) ∧ Q (.int (i * j)) := by
  show WO ((intF .mul i j).map D.int) Q ↔ _
  rw [WO_map]; exact WO_ite
theorem v_fdiv : WO (binF .fdiv (.int i) (.int j)) Q ↔ (0 < j ∧ j < 1073741824) ∧ Q (.int (i / j)) := by
  show WO ((intF .fdiv i j).map D.int) Q ↔ _
  rw [WO_map]; exact WO_ite
theorem v_mod : WO (binF .mod (.int i) (.int j)) Q ↔ 0 < j ∧ Q (.int (i % j)) := by
  show WO ((intF .mod i j).map D.int) Q ↔ _
  rw [WO_map]; exact WO_ite
theorem v_shl : WO (binF .shl (.int i) (.int j)) Q ↔ (0 ≤ j ∧ j ≤ 1000000 ∧ i.natAbs < 2 ^ 64) ∧ Q (.int (i * 2 ^ j.toNat)) := by
  show WO ((intF .shl i j).map D.int) Q ↔ _
  rw [WO_map]; exact WO_ite
theorem v_shr : WO (binF .shr (.int i) (.int j)) Q ↔ 0 ≤ j ∧ Q (.int (i / 2 ^ j.toNat)) := by
  show WO ((intF .shr i j).map D.int) Q ↔ _
  rw [WO_map]; exact WO_ite
theorem v_band : WO (binF .band (.int i) (.int j)) Q ↔ Q (.int (Builtin.bitAnd i j)) := Iff.rfl
theorem v_bor : WO (binF .bor (.int i) (.int j)) Q ↔ Q (.int (Builtin.bitOr i j)) := Iff.rfl
theorem v_bxor : WO (binF .bxor (.int i) (.int j)) Q ↔ Q (.int (Builtin.bitXor i j)) := Iff.rfl
theorem v_pow : WO (binF .pow (.int i) (.int j)) Q ↔ (0 ≤ j ∧ j ≤ 1000000 ∧ i.natAbs < 2 ^ 64) ∧ Q (.int (i ^ j.toNat)) := by
  show WO ((intF .pow i j).map D.int) Q ↔ _
  rw [WO_map]; exact WO_ite
theorem v_cat : WO (binF .add (.lst xs) (.lst ys)) Q ↔ xs.length + ys.length ≤ 1000000 ∧ Q (.lst (xs ++ ys)) := by
  show WO (if BOp.add = BOp.add ∧ xs.length + ys.length ≤ 1000000 then some (D.lst (xs ++ ys)) else none) Q ↔ _
  rw [WO_ite]; simp
theorem vi_add {Q : Int → Prop} : WO (intF .add i j) Q ↔ Q (i + j) := Iff.rfl
theorem vi_sub {Q : Int → Prop} : WO (intF .sub i j) Q ↔ Q (i - j) := Iff.rfl
theorem vi_bor {Q : Int → Prop} : WO (intF .bor i j) Q ↔ Q (Builtin.bitOr i j) := Iff.rfl
theorem v_rep {k : Int} : WO (repF xs k) Q ↔ (-(2 ^ 63) ≤ k ∧ k < 2 ^ 63 ∧ xs.length * k.toNat ≤ 1000000) ∧ Q (.lst (List.replicate k.toNat xs).flatten) := WO_ite
/-! comparisons -/
theorem c_eqI : WO (cmpF .eq (.int i) (.int j)) Q ↔ Q (.bl (decide (i = j))) := by
  show Q (.bl (i == j)) ↔ _
  exact Iff.of_eq (congrArg (fun k => Q (.bl k)) (by by_cases h : i = j <;> simp [h]))
theorem c_neI : WO (cmpF .ne (.int i) (.int j)) Q ↔ Q (.bl (decide (i ≠ j))) := by
  show Q (.bl (!(i == j))) ↔ _
  exact Iff.of_eq (congrArg (fun k => Q (.bl k)) (by by_cases h : i = j <;> simp [h]))
theorem c_lt : WO (cmpF .lt (.int i) (.int j)) Q ↔ Q (.bl (decide (i < j))) := Iff.rfl
theorem c_le : WO (cmpF .le (.int i) (.int j)) Q ↔ Q (.bl (decide (i ≤ j))) := Iff.rfl
theorem c_gt : WO (cmpF .gt (.int i) (.int j)) Q ↔ Q (.bl (decide (j < i))) := Iff.rfl
theorem c_ge : WO (cmpF .ge (.int i) (.int j)) Q ↔ Q (.bl (decide (j ≤ i))) := Iff.rfl
theorem c_eq {a b : D} : WO (cmpF .eq a b) Q ↔ (a.deep 60 = true ∧ b.deep 60 = true) ∧ Q (.bl (D.eqv a b)) := by
  show WO (if a.deep 60 && b.deep 60 then some (D.bl (D.eqv a b)) else none) Q ↔ _
  rw [WO_ite]; simp
theorem c_ne {a b : D} : WO (cmpF .ne a b) Q ↔ (a.deep 60 = true ∧ b.deep 60 = true) ∧ Q (.bl (!D.eqv a b)) := by
  show WO (if a.deep 60 && b.deep 60 then some (D.bl (!D.eqv a b)) else none) Q ↔ _
  rw [WO_ite]; simp
theorem c_is {a : D} : WO (cmpF .isn a .non) Q ↔ Q (.bl a.isNon) := Iff.rfl
theorem c_isnt {a : D} : WO (cmpF .notn a .non) Q ↔ Q (.bl (!a.isNon)) := Iff.rfl
theorem t_bl {Q : Bool → Prop} {b : Bool} : WO (truth (.bl b)) Q ↔ Q b := Iff.rfl
theorem t_int {Q : Bool → Prop} : WO (truth (.int i)) Q ↔ Q (i != 0) := Iff.rfl
theorem t_lst {Q : Bool → Prop} : WO (truth (.lst xs)) Q ↔ Q (!xs.isEmpty) := Iff.rfl
theorem t_tup {Q : Bool → Prop} : WO (truth (.tup xs)) Q ↔ Q (!xs.isEmpty) := Iff.rfl
/-! what stands where -/
variable {st : Sta} {b : Bool} {x : Str}
theorem l_non : WO (look (.v .non) st) Q ↔ Q .non := Iff.rfl
theorem l_bl : WO (look (.v (.bl b)) st) Q ↔ Q (.bl b) := Iff.rfl
theorem l_int : WO (look (.v (.int i)) st) Q ↔ Q (.int i) := Iff.rfl
theorem l_str : WO (look (.v (.str x)) st) Q ↔ Q (.str x) := Iff.rfl
theorem l_lst : WO (look (.v (.lst xs)) st) Q ↔ Q (.lst xs) := Iff.rfl
theorem l_tup : WO (look (.v (.tup xs)) st) Q ↔ Q (.tup xs) := Iff.rfl
theorem l_dct {t : Nat} {ks vs : List D} : WO (look (.v (.dct t ks vs)) st) Q ↔ Q (.dct t ks vs) := Iff.rfl
theorem l_ins {c : Nat} {ns : List Nat} {vs : List D} : WO (look (.v (.ins c ns vs)) st) Q ↔ Q (.ins c ns vs) := Iff.rfl
theorem l_loc {n : Nat} : WO (look (.v (.loc n)) st) Q ↔ WO st.S[n]? fun c => match c with
  | .o d => Q d
  | .dead => False := by
  simp only [look]
  cases st.S[n]? with
  | none => exact Iff.rfl
  | some c => cases c <;> exact Iff.rfl
theorem l_slot {k : Nat} : WO (look (.slot k) st) Q ↔ match st.env[k]? with
  | some (.val d) => WO (look (.v d) st) Q
  | some (.own d) => WO (look (.v d) st) Q
  | _ => False := by
  simp only [look]
  cases st.env[k]? with
  | none => exact Iff.rfl
  | some s => cases s <;> exact Iff.rfl
/-! items -/
theorem i_lst : WO (itemF (.lst xs) (.int i)) Q ↔ WO (place xs.length i) fun k => WO xs[k]? Q := WO_bind
theorem i_tup : WO (itemF (.tup xs) (.int i)) Q ↔ WO (place xs.length i) fun k => WO xs[k]? Q := WO_bind
theorem place_nat {n k : Nat} (h : k < n) : place n (k : Int) = some k := by
  unfold place
  rw [if_pos (by omega), if_pos (by omega)]
  simp
theorem i_l0 {a0 : D} {r : List D} : WO (itemF (.lst (a0 :: r)) (.int 0)) Q ↔ Q a0 := by
  rw [i_lst, show place _ 0 = some 0 from place_nat (k := 0) (by simp only [List.length_cons]; omega)]; rfl
theorem i_l1 {a0 a1 : D} {r : List D} : WO (itemF (.lst (a0 :: a1 :: r)) (.int 1)) Q ↔ Q a1 := by
  rw [i_lst, show place _ 1 = some 1 from place_nat (k := 1) (by simp only [List.length_cons]; omega)]; rfl
theorem i_l2 {a0 a1 a2 : D} {r : List D} : WO (itemF (.lst (a0 :: a1 :: a2 :: r)) (.int 2)) Q ↔ Q a2 := by
  rw [i_lst, show place _ 2 = some 2 from place_nat (k := 2) (by simp only [List.length_cons]; omega)]; rfl
theorem i_l3 {a0 a1 a2 a3 : D} {r : List D} : WO (itemF (.lst (a0 :: a1 :: a2 :: a3 :: r)) (.int 3)) Q ↔ Q a3 := by
  rw [i_lst, show place _ 3 = some 3 from place_nat (k := 3) (by simp only [List.length_cons]; omega)]; rfl
theorem i_l4 {a0 a1 a2 a3 a4 : D} {r : List D} : WO (itemF (.lst (a0 :: a1 :: a2 :: a3 :: a4 :: r)) (.int 4)) Q ↔ Q a4 := by
  rw [i_lst, show place _ 4 = some 4 from place_nat (k := 4) (by simp only [List.length_cons]; omega)]; rfl
theorem i_l5 {a0 a1 a2 a3 a4 a5 : D} {r : List D} : WO (itemF (.lst (a0 :: a1 :: a2 :: a3 :: a4 :: a5 :: r)) (.int 5)) Q ↔ Q a5 := by
  rw [i_lst, show place _ 5 = some 5 from place_nat (k := 5) (by simp only [List.length_cons]; omega)]; rfl
theorem i_l6 {a0 a1 a2 a3 a4 a5 a6 : D} {r : List D} : WO (itemF (.lst (a0 :: a1 :: a2 :: a3 :: a4 :: a5 :: a6 :: r)) (.int 6)) Q ↔ Q a6 := by
  rw [i_lst, show place _ 6 = some 6 from place_nat (k := 6) (by simp only [List.length_cons]; omega)]; rfl
theorem i_l7 {a0 a1 a2 a3 a4 a5 a6 a7 : D} {r : List D} : WO (itemF (.lst (a0 :: a1 :: a2 :: a3 :: a4 :: a5 :: a6 :: a7 :: r)) (.int 7)) Q ↔ Q a7 := by
  rw [i_lst, show place _ 7 = some 7 from place_nat (k := 7) (by simp only [List.length_cons]; omega)]; rfl
theorem pl_1_0 : place 1 0 = some 0 := rfl
theorem pl_2_0 : place 2 0 = some 0 := rfl
theorem pl_2_1 : place 2 1 = some 1 := rfl
theorem pl_3_0 : place 3 0 = some 0 := rfl
theorem pl_3_1 : place 3 1 = some 1 := rfl
theorem pl_3_2 : place 3 2 = some 2 := rfl
theorem pl_4_0 : place 4 0 = some 0 := rfl
theorem pl_4_1 : place 4 1 = some 1 := rfl
theorem pl_4_2 : place 4 2 = some 2 := rfl
theorem pl_4_3 : place 4 3 = some 3 := rfl
theorem pl_5_0 : place 5 0 = some 0 := rfl
theorem pl_5_1 : place 5 1 = some 1 := rfl
theorem pl_5_2 : place 5 2 = some 2 := rfl
theorem pl_5_3 : place 5 3 = some 3 := rfl
theorem pl_5_4 : place 5 4 = some 4 := rfl
theorem pl_6_0 : place 6 0 = some 0 := rfl
theorem pl_6_1 : place 6 1 = some 1 := rfl
theorem pl_6_2 : place 6 2 = some 2 := rfl
theorem pl_6_3 : place 6 3 = some 3 := rfl
theorem pl_6_4 : place 6 4 = some 4 := rfl
theorem pl_6_5 : place 6 5 = some 5 := rfl
theorem pl_7_0 : place 7 0 = some 0 := rfl
theorem pl_7_1 : place 7 1 = some 1 := rfl
theorem pl_7_2 : place 7 2 = some 2 := rfl
theorem pl_7_3 : place 7 3 = some 3 := rfl
theorem pl_7_4 : place 7 4 = some 4 := rfl
theorem pl_7_5 : place 7 5 = some 5 := rfl
theorem pl_7_6 : place 7 6 = some 6 := rfl
theorem pl_8_0 : place 8 0 = some 0 := rfl
theorem pl_8_1 : place 8 1 = some 1 := rfl
theorem pl_8_2 : place 8 2 = some 2 := rfl
theorem pl_8_3 : place 8 3 = some 3 := rfl
theorem pl_8_4 : place 8 4 = some 4 := rfl
theorem pl_8_5 : place 8 5 = some 5 := rfl
theorem pl_8_6 : place 8 6 = some 6 := rfl
theorem pl_8_7 : place 8 7 = some 7 := rfl
theorem pl_1_m1 : place 1 (-1) = some 0 := rfl
theorem pl_2_m1 : place 2 (-1) = some 1 := rfl
theorem pl_3_m1 : place 3 (-1) = some 2 := rfl
theorem pl_4_m1 : place 4 (-1) = some 3 := rfl
theorem pl_5_m1 : place 5 (-1) = some 4 := rfl
theorem pl_6_m1 : place 6 (-1) = some 5 := rfl
theorem pl_7_m1 : place 7 (-1) = some 6 := rfl
theorem pl_8_m1 : place 8 (-1) = some 7 := rfl
theorem place0 {n : Nat} (h : 0 < n) : place n 0 = some 0 := place_nat h
theorem place1 {n : Nat} (h : 1 < n) : place n 1 = some 1 := place_nat h
theorem k_lst {l h : Option Int} : WO (cutF (.lst xs) l h) Q ↔ Q (.lst (cutD xs l h)) := Iff.rfl
theorem s_int_non {Q : Bool → Prop} : WO (isiF .int .non) Q ↔ Q false := Iff.rfl
theorem s_int_bl {Q : Bool → Prop} : WO (isiF .int (.bl b)) Q ↔ Q true := Iff.rfl
theorem s_int_int {Q : Bool → Prop} : WO (isiF .int (.int i)) Q ↔ Q true := Iff.rfl
theorem s_int_str {Q : Bool → Prop} : WO (isiF .int (.str x)) Q ↔ Q false := Iff.rfl
theorem s_int_lst {Q : Bool → Prop} : WO (isiF .int (.lst xs)) Q ↔ Q false := Iff.rfl
theorem s_int_tup {Q : Bool → Prop} : WO (isiF .int (.tup xs)) Q ↔ Q false := Iff.rfl
theorem s_bool_non {Q : Bool → Prop} : WO (isiF .bool .non) Q ↔ Q false := Iff.rfl
theorem s_bool_bl {Q : Bool → Prop} : WO (isiF .bool (.bl b)) Q ↔ Q true := Iff.rfl
theorem s_bool_int {Q : Bool → Prop} : WO (isiF .bool (.int i)) Q ↔ Q false := Iff.rfl
theorem s_bool_str {Q : Bool → Prop} : WO (isiF .bool (.str x)) Q ↔ Q false := Iff.rfl
theorem s_bool_lst {Q : Bool → Prop} : WO (isiF .bool (.lst xs)) Q ↔ Q false := Iff.rfl
theorem s_bool_tup {Q : Bool → Prop} : WO (isiF .bool (.tup xs)) Q ↔ Q false := Iff.rfl
theorem s_str_non {Q : Bool → Prop} : WO (isiF .str .non) Q ↔ Q false := Iff.rfl
theorem s_str_bl {Q : Bool → Prop} : WO (isiF .str (.bl b)) Q ↔ Q false := Iff.rfl
theorem s_str_int {Q : Bool → Prop} : WO (isiF .str (.int i)) Q ↔ Q false := Iff.rfl
theorem s_str_str {Q : Bool → Prop} : WO (isiF .str (.str x)) Q ↔ Q true := Iff.rfl
theorem s_str_lst {Q : Bool → Prop} : WO (isiF .str (.lst xs)) Q ↔ Q false := Iff.rfl
theorem s_str_tup {Q : Bool → Prop} : WO (isiF .str (.tup xs)) Q ↔ Q false := Iff.rfl
theorem s_list_non {Q : Bool → Prop} : WO (isiF .list .non) Q ↔ Q false := Iff.rfl
theorem s_list_bl {Q : Bool → Prop} : WO (isiF .list (.bl b)) Q ↔ Q false := Iff.rfl
theorem s_list_int {Q : Bool → Prop} : WO (isiF .list (.int i)) Q ↔ Q false := Iff.rfl
theorem s_list_str {Q : Bool → Prop} : WO (isiF .list (.str x)) Q ↔ Q false := Iff.rfl
theorem s_list_lst {Q : Bool → Prop} : WO (isiF .list (.lst xs)) Q ↔ Q true := Iff.rfl
theorem s_list_tup {Q : Bool → Prop} : WO (isiF .list (.tup xs)) Q ↔ Q false := Iff.rfl
theorem s_tuple_non {Q : Bool → Prop} : WO (isiF .tuple .non) Q ↔ Q false := Iff.rfl
theorem s_tuple_bl {Q : Bool → Prop} : WO (isiF .tuple (.bl b)) Q ↔ Q false := Iff.rfl
theorem s_tuple_int {Q : Bool → Prop} : WO (isiF .tuple (.int i)) Q ↔ Q false := Iff.rfl
theorem s_tuple_str {Q : Bool → Prop} : WO (isiF .tuple (.str x)) Q ↔ Q false := Iff.rfl
theorem s_tuple_lst {Q : Bool → Prop} : WO (isiF .tuple (.lst xs)) Q ↔ Q false := Iff.rfl
theorem s_tuple_tup {Q : Bool → Prop} : WO (isiF .tuple (.tup xs)) Q ↔ Q true := Iff.rfl
theorem b_len : WO (b1F .len (.lst xs)) Q ↔ Q (.int xs.length) := Iff.rfl
theorem b_lenT : WO (b1F .len (.tup xs)) Q ↔ Q (.int xs.length) := Iff.rfl
theorem b_list : WO (b1F .list (.lst xs)) Q ↔ Q (.lst xs) := Iff.rfl
theorem b_listT : WO (b1F .list (.tup xs)) Q ↔ Q (.lst xs) := Iff.rfl
theorem b_tuple : WO (b1F .tuple (.lst xs)) Q ↔ Q (.tup xs) := Iff.rfl
theorem b_tupleT : WO (b1F .tuple (.tup xs)) Q ↔ Q (.tup xs) := Iff.rfl
theorem b_int : WO (b1F .int (.int i)) Q ↔ Q (.int i) := Iff.rfl
theorem b_intB : WO (b1F .int (.bl b)) Q ↔ Q (.int (if b then 1 else 0)) := Iff.rfl
theorem b_abs : WO (b1F .abs (.int i)) Q ↔ Q (.int (if i < 0 then -i else i)) := Iff.rfl
theorem bls_map : ∀ bs : List Bool, D.bls (bs.map D.bl) = some bs
  | [] => rfl
  | b :: bs => by simp [D.bls, bls_map bs]
theorem ints_map' : ∀ is : List Int, D.ints (is.map D.int) = some is
  | [] => rfl
  | b :: bs => by simp [D.ints, ints_map' bs]
theorem b_all {bs : List Bool} : WO (b1F .all (.lst (bs.map D.bl))) Q ↔ Q (.bl (bs.all id)) := by simp only [b1F, bls_map, Option.map, WO_some]
theorem b_any {bs : List Bool} : WO (b1F .any (.lst (bs.map D.bl))) Q ↔ Q (.bl (bs.any id)) := by simp only [b1F, bls_map, Option.map, WO_some]
theorem b_sum {is : List Int} : WO (b1F .sum (.lst (is.map D.int))) Q ↔ Q (.int is.sum) := by simp only [b1F, ints_map', Option.map, WO_some]
theorem b_min {a c : Int} : WO (b2F .min (.int a) (.int c)) Q ↔ Q (.int (min a c)) := by
  show Q (.int (if c < a then c else a)) ↔ _
  rw [show (if c < a then c else a) = min a c by rw [Int.min_def]; split <;> split <;> omega]
theorem b_max {a c : Int} : WO (b2F .max (.int a) (.int c)) Q ↔ Q (.int (max a c)) := by
  show Q (.int (if c > a then c else a)) ↔ _
  rw [show (if c > a then c else a) = max a c by rw [Int.max_def]; split <;> split <;> omega]
theorem m_append {e : D} {Q : D × Option (List D) → Prop} : WO (methF .append xs [e]) Q ↔ xs.length < 1000000 ∧ Q (.non, some (xs ++ [e])) := WO_ite
theorem p_loc {n : Nat} {d : D} {Q : Sta → Prop} : WO (put (.v (.loc n)) d st) Q ↔ match st.S[n]? with
  | some (.o c) => D.like c d = true ∧ Q { st with S := st.S.set n (.o d) }
  | _ => False := by
  simp only [put]
  cases st.S[n]? with
  | none => exact Iff.rfl
  | some c =>
    cases c with
    | dead => exact Iff.rfl
    | o c => exact WO_ite
theorem p_own {k : Nat} {d : D} {Q : Sta → Prop} : WO (put (.slot k) d st) Q ↔ match st.env[k]? with
  | some (.own c) => D.like c d = true ∧ Q { st with env := st.env.set k (.own d) }
  | some (.val (.loc n)) => (match st.S[n]? with
    | some (.o c) => D.like c d = true ∧ Q { st with S := st.S.set n (.o d) }
    | _ => False)
  | _ => False := by
  simp only [put]
  cases st.env[k]? with
  | none => exact Iff.rfl
  | some s =>
    cases s with
    | no => exact Iff.rfl
    | busy => exact Iff.rfl
    | own c => exact WO_ite
    | val c =>
      cases c <;> try exact Iff.rfl
      simp only
      rename_i n
      cases st.S[n]? with
      | none => exact Iff.rfl
      | some c =>
        cases c with
        | dead => exact Iff.rfl
        | o c => exact WO_ite
theorem like_lst : D.like (.lst xs) (.lst ys) = true := rfl
theorem like_dct {k : Nat} {us vs : List D} : D.like (.dct k xs ys) (.dct k us vs) = true := by simp [D.like]
theorem m_pop0 {Q : D × Option (List D) → Prop} : WO (methF .pop0 xs []) Q ↔ WO xs[xs.length - 1]? fun x => Q (x, some xs.dropLast) := by
  show WO (mPop0 xs []) Q ↔ _
  unfold mPop0
  cases xs[xs.length - 1]? <;> exact Iff.rfl
theorem m_pop {Q : D × Option (List D) → Prop} : WO (methF .pop xs [.int i]) Q ↔ (0 ≤ i ∧ i < 2 ^ 63) ∧ WO xs[i.toNat]? fun x => Q (x, some (xs.eraseIdx i.toNat)) := by
  show WO (mPop xs [.int i]) Q ↔ _
  unfold mPop
  by_cases h : 0 ≤ i ∧ i < 2 ^ 63
  · simp only [h, and_self, if_true, true_and]
    cases xs[i.toNat]? <;> exact Iff.rfl
  · simp only [h, if_false, false_and]; exact Iff.rfl
theorem m_clear {Q : D × Option (List D) → Prop} : WO (methF .clear xs []) Q ↔ Q (.non, some []) := Iff.rfl
theorem m_insert {e : D} {Q : D × Option (List D) → Prop} : WO (methF .insert xs [.int i, e]) Q ↔ (0 ≤ i ∧ i < 2 ^ 63 ∧ xs.length < 1000000) ∧ Q (.non, some (xs.take i.toNat ++ [e] ++ xs.drop i.toNat)) := WO_ite
theorem m_reverse {Q : D × Option (List D) → Prop} : WO (methF .reverse xs []) Q ↔ Q (.non, some xs.reverse) := Iff.rfl
theorem m_index {is : List Int} {Q : D × Option (List D) → Prop} : WO (methF .index (is.map D.int) [.int i]) Q ↔ i ∈ is ∧ Q (.int (is.idxOf i : Nat), none) := by
  show WO (mIndex (is.map D.int) [.int i]) Q ↔ _
  unfold mIndex
  have : D.ints (is.map D.int) = some is := by
    clear Q
    induction is with
    | nil => rfl
    | cons b bs ih => simp [D.ints, ih]
  simp only [this]
  exact WO_ite
theorem mm_max {is : List Int} {d : D} : WO (mmF true (.lst (is.map D.int)) d) Q ↔ Q (match maxI is with | some i => .int i | none => d) := by
  simp only [mmF, ints_map', Option.map, WO_some, if_true]
  all_goals (cases maxI is <;> exact Iff.rfl)
theorem mm_min {is : List Int} {d : D} : WO (mmF false (.lst (is.map D.int)) d) Q ↔ Q (match minI is with | some i => .int i | none => d) := by
  simp only [mmF, ints_map', Option.map, WO_some, Bool.false_eq_true, if_false]
  all_goals (cases minI is <;> exact Iff.rfl)
theorem b_str : WO (b1F .str (.int i)) Q ↔ strI i ∧ Q (.str (Str.ofString (toString i))) := WO_ite
theorem s_dict_dct {t : Nat} {ks vs : List D} {Q : Bool → Prop} : WO (isiF .dict (.dct t ks vs)) Q ↔ Q true := Iff.rfl
theorem s_int_dct {t : Nat} {ks vs : List D} {Q : Bool → Prop} : WO (isiF .int (.dct t ks vs)) Q ↔ Q false := Iff.rfl
theorem s_bool_dct {t : Nat} {ks vs : List D} {Q : Bool → Prop} : WO (isiF .bool (.dct t ks vs)) Q ↔ Q false := Iff.rfl
theorem s_str_dct {t : Nat} {ks vs : List D} {Q : Bool → Prop} : WO (isiF .str (.dct t ks vs)) Q ↔ Q false := Iff.rfl
theorem s_list_dct {t : Nat} {ks vs : List D} {Q : Bool → Prop} : WO (isiF .list (.dct t ks vs)) Q ↔ Q false := Iff.rfl
theorem s_tuple_dct {t : Nat} {ks vs : List D} {Q : Bool → Prop} : WO (isiF .tuple (.dct t ks vs)) Q ↔ Q false := Iff.rfl
/-! dicts -/
variable {t : Nat} {ks vs : List D} {a d : D}
theorem c_inD : WO (cmpF .inn a (.dct t ks vs)) Q ↔ keyOk t a = true ∧ Q (.bl (dgetL ks vs a).isSome) := by
  show WO ((if keyOk t a = true then some (dgetL ks vs a).isSome else none).map D.bl) Q ↔ _
  rw [WO_map]; exact WO_ite
theorem c_notinD : WO (cmpF .notin a (.dct t ks vs)) Q ↔ keyOk t a = true ∧ Q (.bl (!(dgetL ks vs a).isSome)) := by
  show WO ((if keyOk t a = true then some (dgetL ks vs a).isSome else none).map fun k => D.bl (!k)) Q ↔ _
  rw [WO_map]; exact WO_ite
theorem c_inL : WO (cmpF .inn a (.lst xs)) Q ↔ (a.deep 60 = true ∧ D.deeps 60 xs = true) ∧ Q (.bl (xs.any fun z => D.eqv z a)) := by
  show WO ((if (a.deep 60 && D.deeps 60 xs) = true then some (xs.any fun z => D.eqv z a) else none).map D.bl) Q ↔ _
  rw [WO_map, WO_ite]; simp
theorem c_notinL : WO (cmpF .notin a (.lst xs)) Q ↔ (a.deep 60 = true ∧ D.deeps 60 xs = true) ∧ Q (.bl (!(xs.any fun z => D.eqv z a))) := by
  show WO ((if (a.deep 60 && D.deeps 60 xs) = true then some (xs.any fun z => D.eqv z a) else none).map fun k => D.bl (!k)) Q ↔ _
  rw [WO_map, WO_ite]; simp
theorem c_inT : WO (cmpF .inn a (.tup xs)) Q ↔ (a.plain1 = true ∧ xs.all D.plain1 = true) ∧ Q (.bl (xs.any fun z => D.eqv z a)) := by
  show WO ((if (a.plain1 && xs.all D.plain1) = true then some (xs.any fun z => D.eqv z a) else none).map D.bl) Q ↔ _
  rw [WO_map, WO_ite]; simp
theorem c_notinT : WO (cmpF .notin a (.tup xs)) Q ↔ (a.plain1 = true ∧ xs.all D.plain1 = true) ∧ Q (.bl (!(xs.any fun z => D.eqv z a))) := by
  show WO ((if (a.plain1 && xs.all D.plain1) = true then some (xs.any fun z => D.eqv z a) else none).map fun k => D.bl (!k)) Q ↔ _
  rw [WO_map, WO_ite]; simp
theorem c_isB {j k : Bool} : WO (cmpF .isn (.bl j) (.bl k)) Q ↔ Q (.bl (j == k)) := Iff.rfl
theorem c_isntB {j k : Bool} : WO (cmpF .notn (.bl j) (.bl k)) Q ↔ Q (.bl (!(j == k))) := Iff.rfl
theorem i_dct : WO (itemF (.dct t ks vs) a) Q ↔ keyOk t a = true ∧ WO (dgetL ks vs a) Q := by
  show WO (if keyOk t a = true then dgetL ks vs a else none) Q ↔ _
  by_cases h : keyOk t a = true
  · simp only [h, if_true, true_and]
  · simp [h, WO]
theorem g_dct : WO (dgetF (.dct t ks vs) a d) Q ↔ keyOk t a = true ∧ Q ((dgetL ks vs a).getD d) := WO_ite
theorem b_lenD : WO (b1F .len (.dct 0 ks vs)) Q ↔ Q (.int ks.length) := Iff.rfl
theorem b_dict : WO (b1F .dict (.lst xs)) Q ↔ WO (dmerge xs ([], [])) fun p => Q (.dct 0 p.1 p.2) := WO_map
theorem key_int : keyOk 0 (.int i) = true := rfl
theorem key_str : keyOk 0 (.str x) = true := rfl
theorem o_lst : D.obj (.lst xs) = true := rfl
theorem o_dct : D.obj (.dct t ks vs) = true := rfl
theorem mk_dct : mkSlot (.dct t ks vs) = .own (.dct t ks vs) := rfl
theorem mk_int : mkSlot (.int i) = .val (.int i) := rfl
theorem mk_non : mkSlot .non = .val .non := rfl
theorem mk_bl : mkSlot (.bl b) = .val (.bl b) := rfl
theorem mk_tup : mkSlot (.tup xs) = .val (.tup xs) := rfl
theorem mk_loc {n : Nat} : mkSlot (.loc n) = .val (.loc n) := rfl
theorem bel_non {n : Nat} : D.bel n .non = true := rfl
theorem bel_bl {n : Nat} : D.bel n (.bl b) = true := rfl
theorem bel_int {n : Nat} : D.bel n (.int i) = true := rfl
theorem bel_str {n : Nat} : D.bel n (.str x) = true := rfl
theorem flat_non : D.flat .non = true := rfl
theorem flat_bl : D.flat (.bl b) = true := rfl
theorem flat_int : D.flat (.int i) = true := rfl
theorem flat_str : D.flat (.str x) = true := rfl
theorem flat_lst : D.flat (.lst xs) = false := rfl
theorem flat_tup : D.flat (.tup xs) = false := rfl
theorem lents0 : lents [] st = some [] := rfl
theorem lents1 {t : T} {ts : List T} {Q : List D → Prop} : WO (lents (t :: ts) st) Q ↔ WO (lent t st) fun d => WO (lents ts st) fun ds => Q (d :: ds) := by
  simp only [lents]
  cases lent t st with
  | none => exact Iff.rfl
  | some d => cases lents ts st <;> exact Iff.rfl
theorem lent_v {d : D} {Q : D → Prop} : WO (lent (.v d) st) Q ↔ Q d := Iff.rfl
theorem lent_s {k : Nat} {Q : D → Prop} : WO (lent (.slot k) st) Q ↔ match st.env[k]? with
  | some (.val d) => Q d
  | some (.own d) => Q d
  | _ => False := by
  simp only [lent]
  cases st.env[k]? with
  | none => exact Iff.rfl
  | some s => cases s <;> exact Iff.rfl
/-! the store -/
theorem get_app {S T : Store} {n : Nat} {c : Cell} (h : S[n]? = some c) : (S ++ T)[n]? = some c := by
  have := (List.getElem?_eq_some_iff.mp h).1
  rw [List.getElem?_append_left this]; exact h
theorem get_new {S : Store} {c : Cell} {T : Store} : (S ++ c :: T)[S.length]? = some c := by simp
theorem get_new1 {S : Store} {c d : Cell} {T : Store} : (S ++ c :: d :: T)[S.length + 1]? = some d := by simp
theorem set_new {S : Store} {c x : Cell} {T : Store} : (S ++ c :: T).set S.length x = S ++ x :: T := by simp
theorem set_new1 {S : Store} {c d x : Cell} {T : Store} : (S ++ c :: d :: T).set (S.length + 1) x = S ++ c :: x :: T := by simp
theorem app_two {S : Store} {a b : Cell} : S ++ [a] ++ [b] = S ++ [a, b] := by simp
theorem len_app1 {S : Store} {a : Cell} : (S ++ [a]).length = S.length + 1 := by simp
theorem mk_lst : mkSlot (.lst xs) = .own (.lst xs) := rfl
end
end Gp

namespace K08
open PySem L2 Gp
abbrev F_is_whole : Nat := 0
abbrev F_is_table : Nat := 1
abbrev F_law_odd : Nat := 2
abbrev F_law_thing : Nat := 3
abbrev F_law_due : Nat := 4
abbrev F_law_right : Nat := 5
abbrev F_law : Nat := 6
/-- is_whole: 0=thing -/
def d_is_whole : Def := ⟨"is_whole", 1, 1, [.ret (.and (.isi .int (.var 0)) (.not (.isi .bool (.var 0)))) false], false⟩
/-- is_table: 0=thing 1=many -/
def d_is_table : Def := ⟨"is_table", 2, 2, [.ite (.or (.not (.val (.call F_is_whole [(.var 0)]))) (.or (.not (.val (.call F_is_whole [(.var 1)]))) (.or (.val (.cmp .lt (.var 1) (.cst (.int 0)))) (.val (.cmp .gt (.var 1) (.cst (.int 3))))))) [.ret (.cst (.bl false)) false] [],
  .ret (.chain .le .lt (.cst (.int 0)) (.var 0) (.bin .shl (.cst (.int 1)) (.bin .shl (.cst (.int 1)) (.var 1)))) false], false⟩
/-- _law_odd: 0=_law_number 1=_law_deep 2=_law_k -/
def d_law_odd : Def := ⟨"_law_odd", 1, 3, [.set 1 (.lst [(.var 0)]) false,
  .for (.name 2) (.range1 (.bin .mod (.var 0) (.cst (.int 60)))) [.set 1 (.lst [(.var 1)]) false],
  .ret (.lst [(.cst (.bl true)), (.cst (.bl false)), (.cst .non), (.cst (.str "")), (.b1 .str (.var 0)), (.cst (.str "a")), (.lst [(.var 0)]), (.tup [(.var 0)]), (.dctl [(.var 0), (.var 0)]), (.var 1), (.lst []), (.tup [])]) false], false⟩
/-- _law_thing: 0=_law_cell 1=_law_many 2=_law_most 3=_law_way 4=_law_number 5=_law_odd_here -/
def d_law_thing : Def := ⟨"_law_thing", 2, 6, [.set 2 (.bin .shl (.cst (.int 1)) (.bin .shl (.cst (.int 1)) (.var 1))) false,
  .set 3 (.bin .mod (.var 0) (.cst (.int 5))) false,
  .set 4 (.bin .mod (.bin .fdiv (.var 0) (.cst (.int 5))) (.bin .pow (.cst (.int 10)) (.cst (.int 60)))) false,
  .ite (.val (.cmp .eq (.var 3) (.cst (.int 0)))) [.ret (.bin .sub (.bin .mod (.var 4) (.bin .add (.var 2) (.cst (.int 2)))) (.cst (.int 1))) false] [],
  .ite (.val (.cmp .eq (.var 3) (.cst (.int 1)))) [.ret (.var 4) false] [],
  .ite (.val (.cmp .eq (.var 3) (.cst (.int 2)))) [.ret (.bin .sub (.cst (.int 0)) (.var 4)) false] [],
  .ite (.val (.cmp .eq (.var 3) (.cst (.int 3)))) [.ret (.sub (.lst [(.bin .sub (.var 2) (.cst (.int 1))), (.var 2), (.cst (.int 0)), (.cst (.int 1)), (.neg (.cst (.int 1))), (.cst (.int 16)), (.cst (.int 256))]) (.bin .mod (.var 4) (.cst (.int 7)))) false] [],
  .set 5 (.call F_law_odd [(.bin .mod (.bin .fdiv (.var 4) (.cst (.int 12))) (.bin .pow (.cst (.int 10)) (.cst (.int 40))))]) false,
  .ret (.sub (.var 5) (.bin .mod (.var 4) (.b1 .len (.var 5)))) false], false⟩
/-- _law_due: 0=_law_thing_here 1=_law_many -/
def d_law_due : Def := ⟨"_law_due", 2, 2, [.ite (.or (.val (.isi .bool (.var 0))) (.not (.val (.isi .int (.var 0))))) [.ret (.cst (.bl false)) false] [],
  .ret (.chain .le .lt (.cst (.int 0)) (.var 0) (.bin .shl (.cst (.int 1)) (.bin .shl (.cst (.int 1)) (.var 1)))) false], false⟩
/-- _law_right: 0=_law_thing_here 1=_law_many 2=_law_found -/
def d_law_right : Def := ⟨"_law_right", 2, 3, [.set 2 (.call F_is_table [(.var 0), (.var 1)]) false,
  .ret (.and (.isi .bool (.var 2)) (.cmp .eq (.var 2) (.call F_law_due [(.var 0), (.var 1)]))) false], false⟩
/-- law: 0=_law_script 1=_law_many 2=_law_edges 3=_law_cell 4=_law_thing_here -/
def d_law : Def := ⟨"law", 1, 5, [.for (.name 1) (.range1 (.cst (.int 4))) [.set 2 (.lst [(.neg (.cst (.int 1))), (.cst (.int 0)), (.cst (.int 1)), (.bin .sub (.bin .shl (.cst (.int 1)) (.bin .shl (.cst (.int 1)) (.var 1))) (.cst (.int 1))), (.bin .shl (.cst (.int 1)) (.bin .shl (.cst (.int 1)) (.var 1))), (.bin .pow (.cst (.int 10)) (.cst (.int 59)))]) false,
  .ite (.not (.val (.b1 .all (.comp (.call F_law_right [(.var 4), (.var 1)]) (.name 4) (.seq (.bin .add (.bin .add (.var 2) (.call F_law_odd [(.cst (.int 0))])) (.call F_law_odd [(.cst (.int 1))]))) [] [4])))) [.ret (.cst (.bl false)) false] []],
  .for (.name 3) (.seq (.var 0)) [.set 1 (.bin .mod (.var 3) (.cst (.int 4))) false,
  .ite (.not (.val (.call F_law_right [(.call F_law_thing [(.bin .fdiv (.var 3) (.cst (.int 4))), (.var 1)]), (.var 1)]))) [.ret (.cst (.bl false)) false] []],
  .ret (.cst (.bl true)) false], false⟩
abbrev tab : List Def := [d_is_whole, d_is_table, d_law_odd, d_law_thing, d_law_due, d_law_right, d_law]
theorem t_is_whole : tab[F_is_whole]? = some d_is_whole := rfl
theorem t_is_table : tab[F_is_table]? = some d_is_table := rfl
theorem t_law_odd : tab[F_law_odd]? = some d_law_odd := rfl
theorem t_law_thing : tab[F_law_thing]? = some d_law_thing := rfl
theorem t_law_due : tab[F_law_due]? = some d_law_due := rfl
theorem t_law_right : tab[F_law_right]? = some d_law_right := rfl
theorem t_law : tab[F_law]? = some d_law := rfl
/-! data -/
def nl (xs : List Nat) : List D := xs.map fun (n : Nat) => D.int (n : Int)
theorem nl_len (xs : List Nat) : (nl xs).length = xs.length := List.length_map _
theorem nl_get {xs : List Nat} {k : Nat} (h : k < xs.length) : (nl xs)[k]? = some (D.int (xs.getD k 0 : Nat)) := by
  unfold nl
  rw [List.getElem?_map, List.getElem?_eq_getElem h]
  simp [List.getD, List.getElem?_eq_getElem h]
theorem nl_app (xs ys : List Nat) : nl (xs ++ ys) = nl xs ++ nl ys := List.map_append ..
theorem i_nl {xs : List Nat} {k : Nat} {Q : D → Prop} (h : k < xs.length) : WO (itemF (.lst (nl xs)) (.int (k : Int))) Q ↔ Q (.int (xs.getD k 0 : Nat)) := by
  rw [i_lst, place_nat (by rw [nl_len]; exact h), WO_some, nl_get h, WO_some]
theorem i_nlT {xs : List Nat} {k : Nat} {Q : D → Prop} (h : k < xs.length) : WO (itemF (.tup (nl xs)) (.int (k : Int))) Q ↔ Q (.int (xs.getD k 0 : Nat)) := by
  rw [i_tup, place_nat (by rw [nl_len]; exact h), WO_some, nl_get h, WO_some]
theorem i_at {xs : List D} {k : Nat} {d : D} {Q : D → Prop} (h : xs[k]? = some d) : WO (itemF (.lst xs) (.int (k : Int))) Q ↔ Q d := by
  rw [i_lst, place_nat (List.getElem?_eq_some_iff.mp h).1, WO_some, h, WO_some]
theorem rangeL0 (n : Nat) : rangeL 0 (n : Int) = nl (List.range n) := by
  unfold rangeL nl
  simp
theorem rangeL_nat (a b : Nat) (h : a ≤ b) : rangeL (a : Int) (b : Int) = nl ((List.range (b - a)).map (a + ·)) := by
  unfold rangeL nl
  rw [show ((b : Int) - (a : Int)).toNat = b - a by omega, List.map_map]
  refine List.map_congr_left fun k _ => ?_
  simp
theorem range_get {n k : Nat} {d : D} (h : (nl (List.range n))[k]? = some d) : d = .int k ∧ k < n := by
  unfold nl at h
  rw [List.getElem?_map] at h
  have hk : k < n := by
    rcases Nat.lt_or_ge k n with z | z
    · exact z
    · rw [List.getElem?_eq_none (by simpa using z)] at h; cases h
  rw [List.getElem?_range hk] at h
  cases h
  exact ⟨rfl, hk⟩
theorem small_nat {n : Nat} (h : n ≤ 1000000) : smallI (n : Int) := by unfold smallI; omega
mutual
theorem deep_succ : ∀ (n : Nat) (d : D), d.deep n = true → d.deep (n + 1) = true
  | 0, .non, h => h
  | 0, .bl _, h => h
  | 0, .int _, h => h
  | 0, .str _, h => h
  | 0, .lst _, h => by cases h
  | 0, .tup _, h => by cases h
  | 0, .loc _, h => by cases h
  | 0, .dct _ _ _, h => by cases h
  | 0, .ins _ _ _, h => by cases h
  | n + 1, .non, h => h
  | n + 1, .bl _, h => h
  | n + 1, .int _, h => h
  | n + 1, .str _, h => h
  | n + 1, .lst ds, h => deeps_succ n ds h
  | n + 1, .tup ds, h => deeps_succ n ds h
  | n + 1, .loc _, h => by cases h
  | n + 1, .dct _ _ _, h => by cases h
  | n + 1, .ins _ _ _, h => by cases h
theorem deeps_succ : ∀ (n : Nat) (ds : List D), D.deeps n ds = true → D.deeps (n + 1) ds = true
  | n, [], _ => rfl
  | n, d :: ds, h => by
    have h := Bool.and_eq_true_iff.mp (show (D.deep n d && D.deeps n ds) = true from h)
    show (D.deep (n + 1) d && D.deeps (n + 1) ds) = true
    rw [deep_succ n d h.1, deeps_succ n ds h.2]; rfl
end
theorem deep_mono {n m : Nat} {d : D} (h : d.deep n = true) (hm : n ≤ m) : d.deep m = true := by
  induction hm with
  | refl => exact h
  | step _ ih => exact deep_succ _ _ ih
theorem deeps_all {n : Nat} : ∀ {ds : List D}, (∀ d ∈ ds, d.deep n = true) → D.deeps n ds = true
  | [], _ => rfl
  | d :: ds, h => by
    show (D.deep n d && D.deeps n ds) = true
    rw [h d List.mem_cons_self, deeps_all fun e he => h e (List.mem_cons_of_mem _ he)]; rfl
theorem deeps_map {α : Type} {n : Nat} {f : α → D} (h : ∀ a, (f a).deep n = true) (xs : List α) : D.deeps n (xs.map f) = true := deeps_all fun d hd => by
  obtain ⟨a, _, rfl⟩ := List.mem_map.mp hd
  exact h a
theorem deep_nl (n : Nat) (xs : List Nat) : D.deeps n (nl xs) = true := deeps_map (fun a => by cases n <;> rfl) xs
/-! == tells equal data apart from others -/
mutual
theorem eqv_same : ∀ (n : Nat) (d : D), d.deep n = true → D.eqv d d = true
  | _, .non, _ => rfl
  | _, .bl b, _ => by cases b <;> rfl
  | _, .int i, _ => by show (i == i) = true; exact beq_self_eq_true i
  | _, .str x, _ => by show (x == x) = true; exact beq_self_eq_true x
  | 0, .lst ds, h => by cases h
  | 0, .tup ds, h => by cases h
  | n + 1, .lst ds, h => eqvs_same n ds h
  | n + 1, .tup ds, h => eqvs_same n ds h
  | n, .loc _, h => by cases n <;> cases h
  | n, .dct _ _ _, h => by cases n <;> cases h
  | n, .ins _ _ _, h => by cases n <;> cases h
theorem eqvs_same : ∀ (n : Nat) (ds : List D), D.deeps n ds = true → D.eqvs ds ds = true
  | _, [], _ => rfl
  | n, d :: ds, h => by
    have h := Bool.and_eq_true_iff.mp (show (D.deep n d && D.deeps n ds) = true from h)
    show (D.eqv d d && D.eqvs ds ds) = true
    rw [eqv_same n d h.1, eqvs_same n ds h.2]; rfl
end
theorem eqvs_nl : ∀ {xs ys : List Nat}, D.eqvs (nl xs) (nl ys) = decide (xs = ys)
  | [], [] => rfl
  | [], y :: ys => rfl
  | x :: xs, [] => rfl
  | x :: xs, y :: ys => by
    show (((x : Int) == (y : Int)) && D.eqvs (nl xs) (nl ys)) = _
    rw [eqvs_nl]
    by_cases h : x = y
    · subst h; simp
    · have : ((x : Int) == (y : Int)) = false := by simp; omega
      rw [this]; simp [h]
theorem getD_lt {α : Type} {xs : List α} {k : Nat} {d : α} (h : k < xs.length) : xs.getD k d = xs[k] := by
  rw [List.getD, List.getElem?_eq_getElem h]; rfl
theorem cutD_to {xs : List D} (m : Nat) : cutD xs none (some (m : Int)) = xs.take m := by
  unfold cutD sIx
  simp only [Nat.sub_zero, List.drop_zero]
  rw [if_neg (by omega)]
  simp only [Int.toNat_natCast]
  rw [Nat.min_def]
  split
  · rfl
  · rw [List.take_of_length_le (Nat.le_refl _), List.take_of_length_le (by omega)]
theorem cutD_of {xs : List D} {a b : Nat} (h : a ≤ b) (hb : b ≤ xs.length) : cutD xs (some (a : Int)) (some (b : Int)) = (xs.drop a).take (b - a) := by
  unfold cutD sIx
  simp only
  rw [if_neg (by omega), if_neg (by omega)]
  simp only [Int.toNat_natCast]
  rw [show min a xs.length = a by omega, show min b xs.length = b by omega]
theorem nl_drop (xs : List Nat) (a : Nat) : (nl xs).drop a = nl (xs.drop a) := by unfold nl; rw [List.map_drop]
theorem nl_take (xs : List Nat) (a : Nat) : (nl xs).take a = nl (xs.take a) := by unfold nl; rw [List.map_take]
theorem cut_nl {xs : List Nat} {a b : Nat} (h : a ≤ b) (hb : b ≤ xs.length) : cutD (nl xs) (some (a : Int)) (some (b : Int)) = nl ((xs.drop a).take (b - a)) := by
  rw [cutD_of h (by rw [nl_len]; exact hb), nl_drop, nl_take]
theorem cut_nl' {xs : List Nat} {lo hi : Int} (a b : Nat) (ha : lo = a) (hb : hi = b) (h : a ≤ b) (hl : b ≤ xs.length) : cutD (nl xs) (some lo) (some hi) = nl ((xs.drop a).take (b - a)) := by
  subst ha hb
  exact cut_nl h hl
theorem i_nl' {xs : List Nat} {i : Int} (k : Nat) {Q : D → Prop} (hi : i = k) (h : k < xs.length) : WO (itemF (.lst (nl xs)) (.int i)) Q ↔ Q (.int (xs.getD k 0 : Nat)) := by
  subst hi
  exact i_nl h
theorem nat_of {i : Int} (h : 0 ≤ i) : ∃ n : Nat, i = n := Int.eq_ofNat_of_zero_le h
theorem small_lit {i : Int} (h : 0 ≤ i) (h' : i ≤ 1000000) : smallI i := by unfold smallI; omega
theorem nl_nil : nl [] = [] := rfl
theorem nl_snoc (xs : List Nat) (x : Nat) : nl xs ++ [D.int (x : Int)] = nl (xs ++ [x]) := (nl_app xs [x]).symm
theorem cut_from {xs : List Nat} {lo hi : Int} (a m : Nat) (ha : lo = a) (hb : hi = lo + m) (hl : a + m ≤ xs.length) : cutD (nl xs) (some lo) (some hi) = nl ((xs.drop a).take m) := by
  have := cut_nl' (xs := xs) (lo := lo) (hi := hi) a (a + m) ha (by rw [hb, ha]; push_cast; rfl) (by omega) hl
  rwa [show a + m - a = m by omega] at this
theorem b_allT {α : Type} {as : List α} {Q : D → Prop} : WO (b1F .all (.lst (as.map fun _ => D.bl true))) Q ↔ Q (.bl true) := by
  have e : as.map (fun _ => D.bl true) = (as.map fun _ => true).map D.bl := by rw [List.map_map]; rfl
  rw [e, b_all]
  have : (as.map fun _ => true).all id = true := List.all_eq_true.mpr fun b hb => by obtain ⟨_, _, rfl⟩ := List.mem_map.mp hb; rfl
  rw [this]
theorem c_eq' {a b : D} {Q : D → Prop} (n : Nat) (ha : a.deep n = true) (hb : b.deep n = true) (hn : n ≤ 60) : WO (cmpF .eq a b) Q ↔ Q (.bl (D.eqv a b)) := by
  rw [c_eq]; simp [deep_mono ha hn, deep_mono hb hn]
theorem c_ne' {a b : D} {Q : D → Prop} (n : Nat) (ha : a.deep n = true) (hb : b.deep n = true) (hn : n ≤ 60) : WO (cmpF .ne a b) Q ↔ Q (.bl (!D.eqv a b)) := by
  rw [c_ne]; simp [deep_mono ha hn, deep_mono hb hn]
theorem c_neS {a : D} {Q : D → Prop} (n : Nat) (ha : a.deep n = true) (hn : n ≤ 60) : WO (cmpF .ne a a) Q ↔ Q (.bl false) := by
  rw [c_ne' n ha ha hn, eqv_same n a ha]; rfl
theorem c_eqS {a : D} {Q : D → Prop} (n : Nat) (ha : a.deep n = true) (hn : n ≤ 60) : WO (cmpF .eq a a) Q ↔ Q (.bl true) := by
  rw [c_eq' n ha ha hn, eqv_same n a ha]
/-- [f(x) for x in numbers] -/
theorem w_compS {cl : CallF} {e : E} {i : Nat} {it : I} {st : Sta} {Q : T → Sta → Prop} (as : List Nat) (f : Nat → Nat) (hit : Wp (evI cl true it st) fun p s => p.1 = nl as ∧ gdB p.2 { st with env := st.env.set i .no } = true ∧ s = st) (hi : i < st.env.length) (hl : as.length ≤ 1000000)
    (h : ∀ a ∈ as, Wp (lk (evT cl e { st with env := st.env.set i (.val (.int (a : Int))) })) fun x s => x = .int (f a : Nat) ∧ s = { st with env := st.env.set i (.val (.int (a : Int))) })
    (hQ : Q (.v (.lst (nl (as.map f)))) { st with env := st.env.set i (unSlot st.env i) }) : Wp (evT cl (.comp e (.name i) it [] [i]) st) Q := by
  refine w_compM (fun n : Nat => D.int (n : Int)) (fun n => D.int (f n : Nat)) as hit hi hl h ?_
  have : as.map (fun n => D.int (f n : Nat)) = nl (as.map f) := by unfold nl; rw [List.map_map]; rfl
  rw [this]; exact hQ
theorem len_slice {xs : List Nat} {a m : Nat} (h : a + m ≤ xs.length) : ((xs.drop a).take m).length = m := by rw [List.length_take, List.length_drop]; omega
theorem getD_app1 {α : Type} {xs ys : List α} {k : Nat} {d : α} (h : k < xs.length) : (xs ++ ys).getD k d = xs.getD k d := by
  rw [List.getD, List.getD, List.getElem?_append_left h]
theorem getD_app2 {α : Type} {xs ys : List α} {y d : α} : (xs ++ y :: ys).getD xs.length d = y := by
  rw [List.getD, List.getElem?_append_right (Nat.le_refl _), Nat.sub_self]; rfl
theorem cutD_from {xs : List D} {a : Nat} (h : a ≤ xs.length) : cutD xs (some (a : Int)) none = xs.drop a := by
  unfold cutD sIx
  simp only
  rw [if_neg (by omega), Int.toNat_natCast, Nat.min_eq_left h, List.take_of_length_le (by rw [List.length_drop]; exact Nat.le_refl _)]
theorem cut_drop {xs : List Nat} {lo : Int} (a : Nat) (ha : lo = a) (h : a ≤ xs.length) : cutD (nl xs) (some lo) none = nl (xs.drop a) := by
  subst ha
  rw [cutD_from (by rw [nl_len]; exact h), nl_drop]
theorem cut_take {xs : List Nat} (a : Nat) : cutD (nl xs) none (some (a : Int)) = nl (xs.take a) := by rw [cutD_to, nl_take]
theorem deep_lnl (n : Nat) (xs : List Nat) : (D.lst (nl xs)).deep (n + 1) = true := deep_nl n xs
/-- [e for x in it], e changing cells -/
theorem w_compK {cl : CallF} {e : E} {i : Nat} {it : I} {st : Sta} {Q : T → Sta → Prop} (ds : List D) (I : Nat → List D → Store → Prop) (hit : Wp (evI cl true it st) fun p s => p.1 = ds ∧ p.2 = [] ∧ s.env = st.env ∧ I 0 [] s.S) (hi : i < st.env.length) (hl : ds.length ≤ 1000000)
    (h : ∀ k d acc S, ds[k]? = some d → I k acc S → Wp (lk (evT cl e ⟨st.env.set i (.val d), S⟩)) fun x s => s.env = st.env.set i (.val d) ∧ I (k + 1) (acc ++ [x]) s.S)
    (hQ : ∀ xs S, xs.length = ds.length → I ds.length xs S → Q (.v (.lst xs)) ⟨st.env.set i (unSlot st.env i), S⟩) : Wp (evT cl (.comp e (.name i) it [] [i]) st) Q := by
  rw [w_comp]
  refine Wp.mono hit fun ⟨xs, gd⟩ s ⟨e1, e2, e3, h0⟩ => ?_
  have e1 : xs = ds := e1
  have e2 : gd = [] := e2
  subst e1 e2
  rw [← e3] at hi h hQ
  refine w_compL (fun es acc s' => ∃ k, es = xs.drop k ∧ k ≤ xs.length ∧ acc.length = k ∧ I k acc s'.S ∧ ∃ sl, s'.env = s.env.set i sl) (fun _ _ _ _ => rfl) ?_ ?_ _ [] s ⟨0, rfl, Nat.zero_le _, rfl, h0, ?_⟩
  · rintro d es acc s' ⟨k, ek, hk, hal, hI, sl, hE⟩
    have hlt : k < xs.length := by
      rcases Nat.lt_or_eq_of_le hk with z | z
      · exact z
      · rw [z, List.drop_length] at ek; cases ek
    rw [List.drop_eq_getElem_cons hlt] at ek
    injection ek with e1 e2
    have hs : ({ s' with env := (wipeE s'.env [i]).set i (.val d) } : Sta) = ⟨s.env.set i (.val d), s'.S⟩ := by
      rw [wipe1, hE, List.set_set]
    rw [w_gname]
    refine ⟨?_, ?_⟩
    · show i < (s'.env.set i .no).length
      rw [List.length_set, hE, List.length_set]; exact hi
    · show Wp (evAll cl [] { s' with env := (wipeE s'.env [i]).set i (.val d) }) _
      rw [hs, w_all0, if_pos rfl]
      refine Wp.mono (h k d acc s'.S (by rw [e1]; exact List.getElem?_eq_getElem hlt) hI) fun x s3 ⟨ex, hI'⟩ => ?_
      exact ⟨by omega, k + 1, e2, hlt, by simp [hal], hI', _, ex⟩
  · rintro acc s' ⟨k, ek, hk, hal, hI, sl, hE⟩
    have : k = xs.length := by
      have := congrArg List.length ek
      rw [List.length_drop, List.length_nil] at this
      omega
    subst this
    have : ({ s' with env := unwipe s.env s'.env [i] } : Sta) = ⟨s.env.set i (unSlot s.env i), s'.S⟩ := by
      show ({ s' with env := s'.env.set i (unSlot s.env i) } : Sta) = _
      rw [hE, List.set_set]
    rw [this]
    exact hQ acc s'.S hal hI
  · cases hz : s.env[i]? with
    | none => rw [List.getElem?_eq_none_iff] at hz; omega
    | some sl => exact ⟨sl, by
        obtain ⟨h1, h2⟩ := List.getElem?_eq_some_iff.mp hz
        rw [← h2, List.set_getElem_self]⟩
theorem i_atT {xs : List D} {k : Nat} {d : D} {Q : D → Prop} (h : xs[k]? = some d) : WO (itemF (.tup xs) (.int (k : Int))) Q ↔ Q d := by
  rw [i_tup, place_nat (List.getElem?_eq_some_iff.mp h).1, WO_some, h, WO_some]
/-- a thing that the law draws -/
def Kind : D → Prop
  | .loc _ => False
  | .ins _ _ _ => False
  | _ => True
def whole : D → Bool
  | .int _ => true
  | _ => false
def due (m : Nat) : D → Bool
  | .int i => decide (0 ≤ i) && decide (i < 2 ^ 2 ^ m)
  | _ => false
theorem s_is_whole (n : Nat) (d : D) (S : Store) (h : Kind d) : callN tab (n + 1) F_is_whole [d] S = some (.bl (whole d), S) := by
  refine call_eq t_is_whole rfl ?_
  cases d <;> first | exact h.elim | simp only [d_is_whole, ↓w_leak, ↓w_lk, ↓w_int, ↓w_vF, ↓w_two, ↓w_var, ↓w_mv, ↓w_cst, ↓w_bin, ↓w_cmp, ↓w_sub, ↓w_neg, ↓w_chain, ↓w_and, ↓w_or, ↓w_not, ↓w_ife, ↓w_cut, ↓w_back, ↓w_tup, ↓w_lst, ↓w_rep, ↓w_call, ↓w_pcall, ↓w_b1, ↓w_b2, ↓w_lrange, ↓w_lrange1, ↓w_isi, ↓w_meth, ↓w_ext, ↓w_extO, ↓w_Es0, ↓w_Es1, ↓w_Ts0, ↓w_Ts1, ↓w_P0, ↓w_P1, ↓w_tand, ↓w_tor, ↓w_tnot, ↓w_tval, ↓w_all0, ↓w_all1, ↓w_iseq, ↓w_irange1, ↓w_irange, ↓w_ienum, ↓w_izip, ↓w_irev, ↓w_gname, ↓w_gtup, ↓w_gsub, ↓w_glob, ↓w_new, ↓w_dct0, ↓w_dget, ↓w_dgetd, ↓w_fld, ↓w_make, ↓w_mcall, ↓w_tcall, ↓w_tmcall, ↓w_fset, ↓w_ins, ↓w_gs0, ↓w_gs1, nx_nx, nx_nx0, ↓nx_rt, ↓nx_bk, ↓nx_ct, ↓w_ss0, ↓w_ss1, ↓w_set, ↓w_asg, ↓w_aug, ↓w_ex, ↓w_ret, ↓w_retN, ↓w_ite, ↓w_for, ↓w_wh, ↓w_pass, ↓w_brk, ↓w_cont, ↓Wp_ok, ↓WO_some, ↓v_add, ↓v_sub, ↓v_mul, ↓v_fdiv, ↓v_mod, ↓v_shl, ↓v_shr, ↓v_band, ↓v_bor, ↓v_bxor, ↓v_pow, ↓v_cat, ↓vi_add, ↓vi_sub, ↓vi_bor, ↓v_rep, ↓c_eqI, ↓c_neI, ↓c_lt, ↓c_le, ↓c_gt, ↓c_ge, ↓c_is, ↓c_isnt, ↓t_bl, ↓t_int, ↓t_lst, ↓t_tup, ↓l_non, ↓l_bl, ↓l_int, ↓l_str, ↓l_lst, ↓l_tup, ↓l_dct, ↓l_ins, ↓l_loc, ↓l_slot, ↓i_tup, ↓k_lst, ↓b_len, ↓b_lenT, ↓b_list, ↓b_listT, ↓b_tuple, ↓b_tupleT, ↓b_int, ↓b_intB, ↓b_abs, ↓b_all, ↓b_any, ↓b_sum, ↓b_min, ↓b_max, ↓m_append, ↓p_own, ↓p_loc, like_lst, like_dct, ↓m_pop0, ↓m_pop, ↓m_clear, ↓m_insert, ↓m_reverse, ↓c_inD, ↓c_notinD, ↓c_isB, ↓c_isntB, ↓i_dct, ↓g_dct, ↓b_lenD, ↓b_dict, key_int, key_str, o_lst, o_dct, mk_dct, mk_int, mk_non, mk_bl, mk_tup, mk_loc, storeB_rfl, storeB_app, mk_lst, pl_1_0, pl_2_0, pl_2_1, pl_3_0, pl_3_1, pl_3_2, pl_4_0, pl_4_1, pl_4_2, pl_4_3, pl_5_0, pl_5_1, pl_5_2, pl_5_3, pl_5_4, pl_6_0, pl_6_1, pl_6_2, pl_6_3, pl_6_4, pl_6_5, pl_7_0, pl_7_1, pl_7_2, pl_7_3, pl_7_4, pl_7_5, pl_7_6, pl_8_0, pl_8_1, pl_8_2, pl_8_3, pl_8_4, pl_8_5, pl_8_6, pl_8_7, pl_1_m1, pl_2_m1, pl_3_m1, pl_4_m1, pl_5_m1, pl_6_m1, pl_7_m1, pl_8_m1, WO_ite, WO_map, WO_bind, List.getElem?_cons_zero, List.getElem?_cons_succ, List.set_cons_zero, List.set_cons_succ, List.length_cons, List.length_nil, List.length_map, List.map_cons, List.map_nil, List.replicate, List.cons_append, List.nil_append, if_true, if_false, Bool.false_eq_true, decide_eq_true_eq, Bool.not_eq_true', decide_eq_false_iff_not, true_and, and_true, Nat.reduceAdd, Nat.reduceSub, Nat.reduceLT, Nat.reduceLeDiff, Int.reduceLT, Int.reduceLE, ite_not, ↓s_int_non, ↓s_int_bl, ↓s_int_int, ↓s_int_str, ↓s_int_lst, ↓s_int_tup, ↓s_bool_non, ↓s_bool_bl, ↓s_bool_int, ↓s_bool_str, ↓s_bool_lst, ↓s_bool_tup, ↓s_str_non, ↓s_str_bl, ↓s_str_int, ↓s_str_str, ↓s_str_lst, ↓s_str_tup, ↓s_list_non, ↓s_list_bl, ↓s_list_int, ↓s_list_str, ↓s_list_lst, ↓s_list_tup, ↓s_tuple_non, ↓s_tuple_bl, ↓s_tuple_int, ↓s_tuple_str, ↓s_tuple_lst, ↓s_tuple_tup, Bool.not_true, Bool.not_false, ↓i_l0, ↓i_l1, ↓i_l2, ↓i_l3, ↓i_l4, ↓i_l5, ↓i_l6, ↓i_l7, ↓w_hold, ↓w_cellG, gd0, gd1, beq_self, ↓w_forO, bel_non, bel_bl, bel_int, bel_str, flat_non, flat_bl, flat_int, flat_str, flat_lst, flat_tup, lents0, ↓lents1, ↓lent_v, ↓lent_s, reduceCtorEq, ↓m_index, decide_true, decide_false, ↓u_loop0, ↓w_mmd, ↓w_dctl, ↓b_str, ↓s_dict_dct, ↓s_int_dct, ↓s_bool_dct, ↓s_str_dct, ↓s_list_dct, ↓s_tuple_dct, whole]
theorem pow2 (m : Nat) : (2 : Int) ^ m = ((2 ^ m : Nat) : Int) := by push_cast; rfl
theorem toNat_pow (m : Nat) : ((1 : Int) * 2 ^ m).toNat = 2 ^ m := by rw [Int.one_mul, pow2, Int.toNat_natCast]
theorem pow_small {m : Nat} (hm : m < 4) : 2 ^ m ≤ 8 := by
  match m, hm with
  | 0, _ => decide
  | 1, _ => decide
  | 2, _ => decide
  | 3, _ => decide
theorem pow_big {m : Nat} (hm : m < 4) : (0 : Int) ≤ 1 * 2 ^ m ∧ (1 : Int) * 2 ^ m ≤ 1000000 ∧ (0 : Int) < 1 * 2 ^ 2 ^ m + 2 := by
  match m, hm with
  | 0, _ => decide
  | 1, _ => decide
  | 2, _ => decide
  | 3, _ => decide
theorem s_is_table (n : Nat) (d : D) (m : Nat) (S : Store) (h : Kind d) (hm : m < 4) : callN tab (n + 2) F_is_table [d, .int (m : Nat)] S = some (.bl (due m d), S) := by
  have hp := pow_small hm
  have hb := pow_big hm
  have h0 : ¬ ((m : Int) < 0) := by omega
  have h3 : ¬ (3 < (m : Int)) := by omega
  refine call_eq t_is_table rfl ?_
  cases d <;> first | exact h.elim | skip
  case int i =>
    simp only [d_is_table, ↓w_leak, ↓w_lk, ↓w_int, ↓w_vF, ↓w_two, ↓w_var, ↓w_mv, ↓w_cst, ↓w_bin, ↓w_cmp, ↓w_sub, ↓w_neg, ↓w_chain, ↓w_and, ↓w_or, ↓w_not, ↓w_ife, ↓w_cut, ↓w_back, ↓w_tup, ↓w_lst, ↓w_rep, ↓w_call, ↓w_pcall, ↓w_b1, ↓w_b2, ↓w_lrange, ↓w_lrange1, ↓w_isi, ↓w_meth, ↓w_ext, ↓w_extO, ↓w_Es0, ↓w_Es1, ↓w_Ts0, ↓w_Ts1, ↓w_P0, ↓w_P1, ↓w_tand, ↓w_tor, ↓w_tnot, ↓w_tval, ↓w_all0, ↓w_all1, ↓w_iseq, ↓w_irange1, ↓w_irange, ↓w_ienum, ↓w_izip, ↓w_irev, ↓w_gname, ↓w_gtup, ↓w_gsub, ↓w_glob, ↓w_new, ↓w_dct0, ↓w_dget, ↓w_dgetd, ↓w_fld, ↓w_make, ↓w_mcall, ↓w_tcall, ↓w_tmcall, ↓w_fset, ↓w_ins, ↓w_gs0, ↓w_gs1, nx_nx, nx_nx0, ↓nx_rt, ↓nx_bk, ↓nx_ct, ↓w_ss0, ↓w_ss1, ↓w_set, ↓w_asg, ↓w_aug, ↓w_ex, ↓w_ret, ↓w_retN, ↓w_ite, ↓w_for, ↓w_wh, ↓w_pass, ↓w_brk, ↓w_cont, ↓Wp_ok, ↓WO_some, ↓v_add, ↓v_sub, ↓v_mul, ↓v_fdiv, ↓v_mod, ↓v_shl, ↓v_shr, ↓v_band, ↓v_bor, ↓v_bxor, ↓v_pow, ↓v_cat, ↓vi_add, ↓vi_sub, ↓vi_bor, ↓v_rep, ↓c_eqI, ↓c_neI, ↓c_lt, ↓c_le, ↓c_gt, ↓c_ge, ↓c_is, ↓c_isnt, ↓t_bl, ↓t_int, ↓t_lst, ↓t_tup, ↓l_non, ↓l_bl, ↓l_int, ↓l_str, ↓l_lst, ↓l_tup, ↓l_dct, ↓l_ins, ↓l_loc, ↓l_slot, ↓i_tup, ↓k_lst, ↓b_len, ↓b_lenT, ↓b_list, ↓b_listT, ↓b_tuple, ↓b_tupleT, ↓b_int, ↓b_intB, ↓b_abs, ↓b_all, ↓b_any, ↓b_sum, ↓b_min, ↓b_max, ↓m_append, ↓p_own, ↓p_loc, like_lst, like_dct, ↓m_pop0, ↓m_pop, ↓m_clear, ↓m_insert, ↓m_reverse, ↓c_inD, ↓c_notinD, ↓c_isB, ↓c_isntB, ↓i_dct, ↓g_dct, ↓b_lenD, ↓b_dict, key_int, key_str, o_lst, o_dct, mk_dct, mk_int, mk_non, mk_bl, mk_tup, mk_loc, storeB_rfl, storeB_app, mk_lst, pl_1_0, pl_2_0, pl_2_1, pl_3_0, pl_3_1, pl_3_2, pl_4_0, pl_4_1, pl_4_2, pl_4_3, pl_5_0, pl_5_1, pl_5_2, pl_5_3, pl_5_4, pl_6_0, pl_6_1, pl_6_2, pl_6_3, pl_6_4, pl_6_5, pl_7_0, pl_7_1, pl_7_2, pl_7_3, pl_7_4, pl_7_5, pl_7_6, pl_8_0, pl_8_1, pl_8_2, pl_8_3, pl_8_4, pl_8_5, pl_8_6, pl_8_7, pl_1_m1, pl_2_m1, pl_3_m1, pl_4_m1, pl_5_m1, pl_6_m1, pl_7_m1, pl_8_m1, WO_ite, WO_map, WO_bind, List.getElem?_cons_zero, List.getElem?_cons_succ, List.set_cons_zero, List.set_cons_succ, List.length_cons, List.length_nil, List.length_map, List.map_cons, List.map_nil, List.replicate, List.cons_append, List.nil_append, if_true, if_false, Bool.false_eq_true, decide_eq_true_eq, Bool.not_eq_true', decide_eq_false_iff_not, true_and, and_true, Nat.reduceAdd, Nat.reduceSub, Nat.reduceLT, Nat.reduceLeDiff, Int.reduceLT, Int.reduceLE, ite_not, ↓s_int_non, ↓s_int_bl, ↓s_int_int, ↓s_int_str, ↓s_int_lst, ↓s_int_tup, ↓s_bool_non, ↓s_bool_bl, ↓s_bool_int, ↓s_bool_str, ↓s_bool_lst, ↓s_bool_tup, ↓s_str_non, ↓s_str_bl, ↓s_str_int, ↓s_str_str, ↓s_str_lst, ↓s_str_tup, ↓s_list_non, ↓s_list_bl, ↓s_list_int, ↓s_list_str, ↓s_list_lst, ↓s_list_tup, ↓s_tuple_non, ↓s_tuple_bl, ↓s_tuple_int, ↓s_tuple_str, ↓s_tuple_lst, ↓s_tuple_tup, Bool.not_true, Bool.not_false, ↓i_l0, ↓i_l1, ↓i_l2, ↓i_l3, ↓i_l4, ↓i_l5, ↓i_l6, ↓i_l7, ↓w_hold, ↓w_cellG, gd0, gd1, beq_self, ↓w_forO, bel_non, bel_bl, bel_int, bel_str, flat_non, flat_bl, flat_int, flat_str, flat_lst, flat_tup, lents0, ↓lents1, ↓lent_v, ↓lent_s, reduceCtorEq, ↓m_index, decide_true, decide_false, ↓u_loop0, ↓w_mmd, ↓w_dctl, ↓b_str, ↓s_dict_dct, ↓s_int_dct, ↓s_bool_dct, ↓s_str_dct, ↓s_list_dct, ↓s_tuple_dct, s_is_whole _ (.int i) S trivial, s_is_whole _ (.int (m : Int)) S trivial, whole, due, h0, h3, Int.toNat_natCast, toNat_pow]
    split
    · rename_i hi
      refine ⟨⟨by omega, by omega, by decide⟩, ⟨hb.1, hb.2.1, by decide⟩, ?_⟩
      simp only [Int.one_mul, decide_eq_true hi, Bool.true_and]
    · rename_i hi
      simp only [decide_eq_false hi, Bool.false_and]
  all_goals simp only [d_is_table, ↓w_leak, ↓w_lk, ↓w_int, ↓w_vF, ↓w_two, ↓w_var, ↓w_mv, ↓w_cst, ↓w_bin, ↓w_cmp, ↓w_sub, ↓w_neg, ↓w_chain, ↓w_and, ↓w_or, ↓w_not, ↓w_ife, ↓w_cut, ↓w_back, ↓w_tup, ↓w_lst, ↓w_rep, ↓w_call, ↓w_pcall, ↓w_b1, ↓w_b2, ↓w_lrange, ↓w_lrange1, ↓w_isi, ↓w_meth, ↓w_ext, ↓w_extO, ↓w_Es0, ↓w_Es1, ↓w_Ts0, ↓w_Ts1, ↓w_P0, ↓w_P1, ↓w_tand, ↓w_tor, ↓w_tnot, ↓w_tval, ↓w_all0, ↓w_all1, ↓w_iseq, ↓w_irange1, ↓w_irange, ↓w_ienum, ↓w_izip, ↓w_irev, ↓w_gname, ↓w_gtup, ↓w_gsub, ↓w_glob, ↓w_new, ↓w_dct0, ↓w_dget, ↓w_dgetd, ↓w_fld, ↓w_make, ↓w_mcall, ↓w_tcall, ↓w_tmcall, ↓w_fset, ↓w_ins, ↓w_gs0, ↓w_gs1, nx_nx, nx_nx0, ↓nx_rt, ↓nx_bk, ↓nx_ct, ↓w_ss0, ↓w_ss1, ↓w_set, ↓w_asg, ↓w_aug, ↓w_ex, ↓w_ret, ↓w_retN, ↓w_ite, ↓w_for, ↓w_wh, ↓w_pass, ↓w_brk, ↓w_cont, ↓Wp_ok, ↓WO_some, ↓v_add, ↓v_sub, ↓v_mul, ↓v_fdiv, ↓v_mod, ↓v_shl, ↓v_shr, ↓v_band, ↓v_bor, ↓v_bxor, ↓v_pow, ↓v_cat, ↓vi_add, ↓vi_sub, ↓vi_bor, ↓v_rep, ↓c_eqI, ↓c_neI, ↓c_lt, ↓c_le, ↓c_gt, ↓c_ge, ↓c_is, ↓c_isnt, ↓t_bl, ↓t_int, ↓t_lst, ↓t_tup, ↓l_non, ↓l_bl, ↓l_int, ↓l_str, ↓l_lst, ↓l_tup, ↓l_dct, ↓l_ins, ↓l_loc, ↓l_slot, ↓i_tup, ↓k_lst, ↓b_len, ↓b_lenT, ↓b_list, ↓b_listT, ↓b_tuple, ↓b_tupleT, ↓b_int, ↓b_intB, ↓b_abs, ↓b_all, ↓b_any, ↓b_sum, ↓b_min, ↓b_max, ↓m_append, ↓p_own, ↓p_loc, like_lst, like_dct, ↓m_pop0, ↓m_pop, ↓m_clear, ↓m_insert, ↓m_reverse, ↓c_inD, ↓c_notinD, ↓c_isB, ↓c_isntB, ↓i_dct, ↓g_dct, ↓b_lenD, ↓b_dict, key_int, key_str, o_lst, o_dct, mk_dct, mk_int, mk_non, mk_bl, mk_tup, mk_loc, storeB_rfl, storeB_app, mk_lst, pl_1_0, pl_2_0, pl_2_1, pl_3_0, pl_3_1, pl_3_2, pl_4_0, pl_4_1, pl_4_2, pl_4_3, pl_5_0, pl_5_1, pl_5_2, pl_5_3, pl_5_4, pl_6_0, pl_6_1, pl_6_2, pl_6_3, pl_6_4, pl_6_5, pl_7_0, pl_7_1, pl_7_2, pl_7_3, pl_7_4, pl_7_5, pl_7_6, pl_8_0, pl_8_1, pl_8_2, pl_8_3, pl_8_4, pl_8_5, pl_8_6, pl_8_7, pl_1_m1, pl_2_m1, pl_3_m1, pl_4_m1, pl_5_m1, pl_6_m1, pl_7_m1, pl_8_m1, WO_ite, WO_map, WO_bind, List.getElem?_cons_zero, List.getElem?_cons_succ, List.set_cons_zero, List.set_cons_succ, List.length_cons, List.length_nil, List.length_map, List.map_cons, List.map_nil, List.replicate, List.cons_append, List.nil_append, if_true, if_false, Bool.false_eq_true, decide_eq_true_eq, Bool.not_eq_true', decide_eq_false_iff_not, true_and, and_true, Nat.reduceAdd, Nat.reduceSub, Nat.reduceLT, Nat.reduceLeDiff, Int.reduceLT, Int.reduceLE, ite_not, ↓s_int_non, ↓s_int_bl, ↓s_int_int, ↓s_int_str, ↓s_int_lst, ↓s_int_tup, ↓s_bool_non, ↓s_bool_bl, ↓s_bool_int, ↓s_bool_str, ↓s_bool_lst, ↓s_bool_tup, ↓s_str_non, ↓s_str_bl, ↓s_str_int, ↓s_str_str, ↓s_str_lst, ↓s_str_tup, ↓s_list_non, ↓s_list_bl, ↓s_list_int, ↓s_list_str, ↓s_list_lst, ↓s_list_tup, ↓s_tuple_non, ↓s_tuple_bl, ↓s_tuple_int, ↓s_tuple_str, ↓s_tuple_lst, ↓s_tuple_tup, Bool.not_true, Bool.not_false, ↓i_l0, ↓i_l1, ↓i_l2, ↓i_l3, ↓i_l4, ↓i_l5, ↓i_l6, ↓i_l7, ↓w_hold, ↓w_cellG, gd0, gd1, beq_self, ↓w_forO, bel_non, bel_bl, bel_int, bel_str, flat_non, flat_bl, flat_int, flat_str, flat_lst, flat_tup, lents0, ↓lents1, ↓lent_v, ↓lent_s, reduceCtorEq, ↓m_index, decide_true, decide_false, ↓u_loop0, ↓w_mmd, ↓w_dctl, ↓b_str, ↓s_dict_dct, ↓s_int_dct, ↓s_bool_dct, ↓s_str_dct, ↓s_list_dct, ↓s_tuple_dct, s_is_whole _ _ S h, whole, due]
theorem s_law_due (n : Nat) (d : D) (m : Nat) (S : Store) (h : Kind d) (hm : m < 4) : callN tab (n + 1) F_law_due [d, .int (m : Nat)] S = some (.bl (due m d), S) := by
  have hp := pow_small hm
  have hb := pow_big hm
  refine call_eq t_law_due rfl ?_
  cases d <;> first | exact h.elim | skip
  case int i =>
    simp only [d_law_due, ↓w_leak, ↓w_lk, ↓w_int, ↓w_vF, ↓w_two, ↓w_var, ↓w_mv, ↓w_cst, ↓w_bin, ↓w_cmp, ↓w_sub, ↓w_neg, ↓w_chain, ↓w_and, ↓w_or, ↓w_not, ↓w_ife, ↓w_cut, ↓w_back, ↓w_tup, ↓w_lst, ↓w_rep, ↓w_call, ↓w_pcall, ↓w_b1, ↓w_b2, ↓w_lrange, ↓w_lrange1, ↓w_isi, ↓w_meth, ↓w_ext, ↓w_extO, ↓w_Es0, ↓w_Es1, ↓w_Ts0, ↓w_Ts1, ↓w_P0, ↓w_P1, ↓w_tand, ↓w_tor, ↓w_tnot, ↓w_tval, ↓w_all0, ↓w_all1, ↓w_iseq, ↓w_irange1, ↓w_irange, ↓w_ienum, ↓w_izip, ↓w_irev, ↓w_gname, ↓w_gtup, ↓w_gsub, ↓w_glob, ↓w_new, ↓w_dct0, ↓w_dget, ↓w_dgetd, ↓w_fld, ↓w_make, ↓w_mcall, ↓w_tcall, ↓w_tmcall, ↓w_fset, ↓w_ins, ↓w_gs0, ↓w_gs1, nx_nx, nx_nx0, ↓nx_rt, ↓nx_bk, ↓nx_ct, ↓w_ss0, ↓w_ss1, ↓w_set, ↓w_asg, ↓w_aug, ↓w_ex, ↓w_ret, ↓w_retN, ↓w_ite, ↓w_for, ↓w_wh, ↓w_pass, ↓w_brk, ↓w_cont, ↓Wp_ok, ↓WO_some, ↓v_add, ↓v_sub, ↓v_mul, ↓v_fdiv, ↓v_mod, ↓v_shl, ↓v_shr, ↓v_band, ↓v_bor, ↓v_bxor, ↓v_pow, ↓v_cat, ↓vi_add, ↓vi_sub, ↓vi_bor, ↓v_rep, ↓c_eqI, ↓c_neI, ↓c_lt, ↓c_le, ↓c_gt, ↓c_ge, ↓c_is, ↓c_isnt, ↓t_bl, ↓t_int, ↓t_lst, ↓t_tup, ↓l_non, ↓l_bl, ↓l_int, ↓l_str, ↓l_lst, ↓l_tup, ↓l_dct, ↓l_ins, ↓l_loc, ↓l_slot, ↓i_tup, ↓k_lst, ↓b_len, ↓b_lenT, ↓b_list, ↓b_listT, ↓b_tuple, ↓b_tupleT, ↓b_int, ↓b_intB, ↓b_abs, ↓b_all, ↓b_any, ↓b_sum, ↓b_min, ↓b_max, ↓m_append, ↓p_own, ↓p_loc, like_lst, like_dct, ↓m_pop0, ↓m_pop, ↓m_clear, ↓m_insert, ↓m_reverse, ↓c_inD, ↓c_notinD, ↓c_isB, ↓c_isntB, ↓i_dct, ↓g_dct, ↓b_lenD, ↓b_dict, key_int, key_str, o_lst, o_dct, mk_dct, mk_int, mk_non, mk_bl, mk_tup, mk_loc, storeB_rfl, storeB_app, mk_lst, pl_1_0, pl_2_0, pl_2_1, pl_3_0, pl_3_1, pl_3_2, pl_4_0, pl_4_1, pl_4_2, pl_4_3, pl_5_0, pl_5_1, pl_5_2, pl_5_3, pl_5_4, pl_6_0, pl_6_1, pl_6_2, pl_6_3, pl_6_4, pl_6_5, pl_7_0, pl_7_1, pl_7_2, pl_7_3, pl_7_4, pl_7_5, pl_7_6, pl_8_0, pl_8_1, pl_8_2, pl_8_3, pl_8_4, pl_8_5, pl_8_6, pl_8_7, pl_1_m1, pl_2_m1, pl_3_m1, pl_4_m1, pl_5_m1, pl_6_m1, pl_7_m1, pl_8_m1, WO_ite, WO_map, WO_bind, List.getElem?_cons_zero, List.getElem?_cons_succ, List.set_cons_zero, List.set_cons_succ, List.length_cons, List.length_nil, List.length_map, List.map_cons, List.map_nil, List.replicate, List.cons_append, List.nil_append, if_true, if_false, Bool.false_eq_true, decide_eq_true_eq, Bool.not_eq_true', decide_eq_false_iff_not, true_and, and_true, Nat.reduceAdd, Nat.reduceSub, Nat.reduceLT, Nat.reduceLeDiff, Int.reduceLT, Int.reduceLE, ite_not, ↓s_int_non, ↓s_int_bl, ↓s_int_int, ↓s_int_str, ↓s_int_lst, ↓s_int_tup, ↓s_bool_non, ↓s_bool_bl, ↓s_bool_int, ↓s_bool_str, ↓s_bool_lst, ↓s_bool_tup, ↓s_str_non, ↓s_str_bl, ↓s_str_int, ↓s_str_str, ↓s_str_lst, ↓s_str_tup, ↓s_list_non, ↓s_list_bl, ↓s_list_int, ↓s_list_str, ↓s_list_lst, ↓s_list_tup, ↓s_tuple_non, ↓s_tuple_bl, ↓s_tuple_int, ↓s_tuple_str, ↓s_tuple_lst, ↓s_tuple_tup, Bool.not_true, Bool.not_false, ↓i_l0, ↓i_l1, ↓i_l2, ↓i_l3, ↓i_l4, ↓i_l5, ↓i_l6, ↓i_l7, ↓w_hold, ↓w_cellG, gd0, gd1, beq_self, ↓w_forO, bel_non, bel_bl, bel_int, bel_str, flat_non, flat_bl, flat_int, flat_str, flat_lst, flat_tup, lents0, ↓lents1, ↓lent_v, ↓lent_s, reduceCtorEq, ↓m_index, decide_true, decide_false, ↓u_loop0, ↓w_mmd, ↓w_dctl, ↓b_str, ↓s_dict_dct, ↓s_int_dct, ↓s_bool_dct, ↓s_str_dct, ↓s_list_dct, ↓s_tuple_dct, due, Int.toNat_natCast, toNat_pow]
    split
    · rename_i hi
      refine ⟨⟨by omega, by omega, by decide⟩, ⟨hb.1, hb.2.1, by decide⟩, ?_⟩
      simp only [Int.one_mul, decide_eq_true hi, Bool.true_and]
    · rename_i hi
      simp only [decide_eq_false hi, Bool.false_and]
  all_goals simp only [d_law_due, ↓w_leak, ↓w_lk, ↓w_int, ↓w_vF, ↓w_two, ↓w_var, ↓w_mv, ↓w_cst, ↓w_bin, ↓w_cmp, ↓w_sub, ↓w_neg, ↓w_chain, ↓w_and, ↓w_or, ↓w_not, ↓w_ife, ↓w_cut, ↓w_back, ↓w_tup, ↓w_lst, ↓w_rep, ↓w_call, ↓w_pcall, ↓w_b1, ↓w_b2, ↓w_lrange, ↓w_lrange1, ↓w_isi, ↓w_meth, ↓w_ext, ↓w_extO, ↓w_Es0, ↓w_Es1, ↓w_Ts0, ↓w_Ts1, ↓w_P0, ↓w_P1, ↓w_tand, ↓w_tor, ↓w_tnot, ↓w_tval, ↓w_all0, ↓w_all1, ↓w_iseq, ↓w_irange1, ↓w_irange, ↓w_ienum, ↓w_izip, ↓w_irev, ↓w_gname, ↓w_gtup, ↓w_gsub, ↓w_glob, ↓w_new, ↓w_dct0, ↓w_dget, ↓w_dgetd, ↓w_fld, ↓w_make, ↓w_mcall, ↓w_tcall, ↓w_tmcall, ↓w_fset, ↓w_ins, ↓w_gs0, ↓w_gs1, nx_nx, nx_nx0, ↓nx_rt, ↓nx_bk, ↓nx_ct, ↓w_ss0, ↓w_ss1, ↓w_set, ↓w_asg, ↓w_aug, ↓w_ex, ↓w_ret, ↓w_retN, ↓w_ite, ↓w_for, ↓w_wh, ↓w_pass, ↓w_brk, ↓w_cont, ↓Wp_ok, ↓WO_some, ↓v_add, ↓v_sub, ↓v_mul, ↓v_fdiv, ↓v_mod, ↓v_shl, ↓v_shr, ↓v_band, ↓v_bor, ↓v_bxor, ↓v_pow, ↓v_cat, ↓vi_add, ↓vi_sub, ↓vi_bor, ↓v_rep, ↓c_eqI, ↓c_neI, ↓c_lt, ↓c_le, ↓c_gt, ↓c_ge, ↓c_is, ↓c_isnt, ↓t_bl, ↓t_int, ↓t_lst, ↓t_tup, ↓l_non, ↓l_bl, ↓l_int, ↓l_str, ↓l_lst, ↓l_tup, ↓l_dct, ↓l_ins, ↓l_loc, ↓l_slot, ↓i_tup, ↓k_lst, ↓b_len, ↓b_lenT, ↓b_list, ↓b_listT, ↓b_tuple, ↓b_tupleT, ↓b_int, ↓b_intB, ↓b_abs, ↓b_all, ↓b_any, ↓b_sum, ↓b_min, ↓b_max, ↓m_append, ↓p_own, ↓p_loc, like_lst, like_dct, ↓m_pop0, ↓m_pop, ↓m_clear, ↓m_insert, ↓m_reverse, ↓c_inD, ↓c_notinD, ↓c_isB, ↓c_isntB, ↓i_dct, ↓g_dct, ↓b_lenD, ↓b_dict, key_int, key_str, o_lst, o_dct, mk_dct, mk_int, mk_non, mk_bl, mk_tup, mk_loc, storeB_rfl, storeB_app, mk_lst, pl_1_0, pl_2_0, pl_2_1, pl_3_0, pl_3_1, pl_3_2, pl_4_0, pl_4_1, pl_4_2, pl_4_3, pl_5_0, pl_5_1, pl_5_2, pl_5_3, pl_5_4, pl_6_0, pl_6_1, pl_6_2, pl_6_3, pl_6_4, pl_6_5, pl_7_0, pl_7_1, pl_7_2, pl_7_3, pl_7_4, pl_7_5, pl_7_6, pl_8_0, pl_8_1, pl_8_2, pl_8_3, pl_8_4, pl_8_5, pl_8_6, pl_8_7, pl_1_m1, pl_2_m1, pl_3_m1, pl_4_m1, pl_5_m1, pl_6_m1, pl_7_m1, pl_8_m1, WO_ite, WO_map, WO_bind, List.getElem?_cons_zero, List.getElem?_cons_succ, List.set_cons_zero, List.set_cons_succ, List.length_cons, List.length_nil, List.length_map, List.map_cons, List.map_nil, List.replicate, List.cons_append, List.nil_append, if_true, if_false, Bool.false_eq_true, decide_eq_true_eq, Bool.not_eq_true', decide_eq_false_iff_not, true_and, and_true, Nat.reduceAdd, Nat.reduceSub, Nat.reduceLT, Nat.reduceLeDiff, Int.reduceLT, Int.reduceLE, ite_not, ↓s_int_non, ↓s_int_bl, ↓s_int_int, ↓s_int_str, ↓s_int_lst, ↓s_int_tup, ↓s_bool_non, ↓s_bool_bl, ↓s_bool_int, ↓s_bool_str, ↓s_bool_lst, ↓s_bool_tup, ↓s_str_non, ↓s_str_bl, ↓s_str_int, ↓s_str_str, ↓s_str_lst, ↓s_str_tup, ↓s_list_non, ↓s_list_bl, ↓s_list_int, ↓s_list_str, ↓s_list_lst, ↓s_list_tup, ↓s_tuple_non, ↓s_tuple_bl, ↓s_tuple_int, ↓s_tuple_str, ↓s_tuple_lst, ↓s_tuple_tup, Bool.not_true, Bool.not_false, ↓i_l0, ↓i_l1, ↓i_l2, ↓i_l3, ↓i_l4, ↓i_l5, ↓i_l6, ↓i_l7, ↓w_hold, ↓w_cellG, gd0, gd1, beq_self, ↓w_forO, bel_non, bel_bl, bel_int, bel_str, flat_non, flat_bl, flat_int, flat_str, flat_lst, flat_tup, lents0, ↓lents1, ↓lent_v, ↓lent_s, reduceCtorEq, ↓m_index, decide_true, decide_false, ↓u_loop0, ↓w_mmd, ↓w_dctl, ↓b_str, ↓s_dict_dct, ↓s_int_dct, ↓s_bool_dct, ↓s_str_dct, ↓s_list_dct, ↓s_tuple_dct, due]
theorem s_law_right (n : Nat) (d : D) (m : Nat) (S : Store) (h : Kind d) (hm : m < 4) : callN tab (n + 3) F_law_right [d, .int (m : Nat)] S = some (.bl true, S) := by
  refine call_eq t_law_right rfl ?_
  simp only [d_law_right, ↓w_leak, ↓w_lk, ↓w_int, ↓w_vF, ↓w_two, ↓w_var, ↓w_mv, ↓w_cst, ↓w_bin, ↓w_cmp, ↓w_sub, ↓w_neg, ↓w_chain, ↓w_and, ↓w_or, ↓w_not, ↓w_ife, ↓w_cut, ↓w_back, ↓w_tup, ↓w_lst, ↓w_rep, ↓w_call, ↓w_pcall, ↓w_b1, ↓w_b2, ↓w_lrange, ↓w_lrange1, ↓w_isi, ↓w_meth, ↓w_ext, ↓w_extO, ↓w_Es0, ↓w_Es1, ↓w_Ts0, ↓w_Ts1, ↓w_P0, ↓w_P1, ↓w_tand, ↓w_tor, ↓w_tnot, ↓w_tval, ↓w_all0, ↓w_all1, ↓w_iseq, ↓w_irange1, ↓w_irange, ↓w_ienum, ↓w_izip, ↓w_irev, ↓w_gname, ↓w_gtup, ↓w_gsub, ↓w_glob, ↓w_new, ↓w_dct0, ↓w_dget, ↓w_dgetd, ↓w_fld, ↓w_make, ↓w_mcall, ↓w_tcall, ↓w_tmcall, ↓w_fset, ↓w_ins, ↓w_gs0, ↓w_gs1, nx_nx, nx_nx0, ↓nx_rt, ↓nx_bk, ↓nx_ct, ↓w_ss0, ↓w_ss1, ↓w_set, ↓w_asg, ↓w_aug, ↓w_ex, ↓w_ret, ↓w_retN, ↓w_ite, ↓w_for, ↓w_wh, ↓w_pass, ↓w_brk, ↓w_cont, ↓Wp_ok, ↓WO_some, ↓v_add, ↓v_sub, ↓v_mul, ↓v_fdiv, ↓v_mod, ↓v_shl, ↓v_shr, ↓v_band, ↓v_bor, ↓v_bxor, ↓v_pow, ↓v_cat, ↓vi_add, ↓vi_sub, ↓vi_bor, ↓v_rep, ↓c_eqI, ↓c_neI, ↓c_lt, ↓c_le, ↓c_gt, ↓c_ge, ↓c_is, ↓c_isnt, ↓t_bl, ↓t_int, ↓t_lst, ↓t_tup, ↓l_non, ↓l_bl, ↓l_int, ↓l_str, ↓l_lst, ↓l_tup, ↓l_dct, ↓l_ins, ↓l_loc, ↓l_slot, ↓i_tup, ↓k_lst, ↓b_len, ↓b_lenT, ↓b_list, ↓b_listT, ↓b_tuple, ↓b_tupleT, ↓b_int, ↓b_intB, ↓b_abs, ↓b_all, ↓b_any, ↓b_sum, ↓b_min, ↓b_max, ↓m_append, ↓p_own, ↓p_loc, like_lst, like_dct, ↓m_pop0, ↓m_pop, ↓m_clear, ↓m_insert, ↓m_reverse, ↓c_inD, ↓c_notinD, ↓c_isB, ↓c_isntB, ↓i_dct, ↓g_dct, ↓b_lenD, ↓b_dict, key_int, key_str, o_lst, o_dct, mk_dct, mk_int, mk_non, mk_bl, mk_tup, mk_loc, storeB_rfl, storeB_app, mk_lst, pl_1_0, pl_2_0, pl_2_1, pl_3_0, pl_3_1, pl_3_2, pl_4_0, pl_4_1, pl_4_2, pl_4_3, pl_5_0, pl_5_1, pl_5_2, pl_5_3, pl_5_4, pl_6_0, pl_6_1, pl_6_2, pl_6_3, pl_6_4, pl_6_5, pl_7_0, pl_7_1, pl_7_2, pl_7_3, pl_7_4, pl_7_5, pl_7_6, pl_8_0, pl_8_1, pl_8_2, pl_8_3, pl_8_4, pl_8_5, pl_8_6, pl_8_7, pl_1_m1, pl_2_m1, pl_3_m1, pl_4_m1, pl_5_m1, pl_6_m1, pl_7_m1, pl_8_m1, WO_ite, WO_map, WO_bind, List.getElem?_cons_zero, List.getElem?_cons_succ, List.set_cons_zero, List.set_cons_succ, List.length_cons, List.length_nil, List.length_map, List.map_cons, List.map_nil, List.replicate, List.cons_append, List.nil_append, if_true, if_false, Bool.false_eq_true, decide_eq_true_eq, Bool.not_eq_true', decide_eq_false_iff_not, true_and, and_true, Nat.reduceAdd, Nat.reduceSub, Nat.reduceLT, Nat.reduceLeDiff, Int.reduceLT, Int.reduceLE, ite_not, ↓s_int_non, ↓s_int_bl, ↓s_int_int, ↓s_int_str, ↓s_int_lst, ↓s_int_tup, ↓s_bool_non, ↓s_bool_bl, ↓s_bool_int, ↓s_bool_str, ↓s_bool_lst, ↓s_bool_tup, ↓s_str_non, ↓s_str_bl, ↓s_str_int, ↓s_str_str, ↓s_str_lst, ↓s_str_tup, ↓s_list_non, ↓s_list_bl, ↓s_list_int, ↓s_list_str, ↓s_list_lst, ↓s_list_tup, ↓s_tuple_non, ↓s_tuple_bl, ↓s_tuple_int, ↓s_tuple_str, ↓s_tuple_lst, ↓s_tuple_tup, Bool.not_true, Bool.not_false, ↓i_l0, ↓i_l1, ↓i_l2, ↓i_l3, ↓i_l4, ↓i_l5, ↓i_l6, ↓i_l7, ↓w_hold, ↓w_cellG, gd0, gd1, beq_self, ↓w_forO, bel_non, bel_bl, bel_int, bel_str, flat_non, flat_bl, flat_int, flat_str, flat_lst, flat_tup, lents0, ↓lents1, ↓lent_v, ↓lent_s, reduceCtorEq, ↓m_index, decide_true, decide_false, ↓u_loop0, ↓w_mmd, ↓w_dctl, ↓b_str, ↓s_dict_dct, ↓s_int_dct, ↓s_bool_dct, ↓s_str_dct, ↓s_list_dct, ↓s_tuple_dct, s_is_table _ d m S h hm, s_law_due _ d m S h hm, c_eqS 1 (show (D.bl (due m d)).deep 1 = true from rfl) (by decide)]
theorem s_law_odd (n : Nat) (x : Nat) (S : Store) (hx : x ≤ 10 ^ 40) : ∃ ds : List D, ds.length = 12 ∧ (∀ d ∈ ds, Kind d) ∧ callN tab (n + 1) F_law_odd [.int (x : Nat)] S = some (.lst ds, S) := by
  suffices h : ∃ d S', callN tab (n + 1) F_law_odd [.int (x : Nat)] S = some (d, S') ∧ S' = S ∧ ∃ ds : List D, ds.length = 12 ∧ (∀ d ∈ ds, Kind d) ∧ d = .lst ds by
    obtain ⟨d, S', e, rfl, ds, h1, h2, rfl⟩ := h
    exact ⟨ds, h1, h2, e⟩
  refine call_of t_law_odd rfl ?_
  have e60 : (x : Int) % 60 = ((x % 60 : Nat) : Int) := by push_cast; rfl
  simp only [d_law_odd, ↓w_leak, ↓w_lk, ↓w_int, ↓w_vF, ↓w_two, ↓w_var, ↓w_mv, ↓w_cst, ↓w_bin, ↓w_cmp, ↓w_sub, ↓w_neg, ↓w_chain, ↓w_and, ↓w_or, ↓w_not, ↓w_ife, ↓w_cut, ↓w_back, ↓w_tup, ↓w_lst, ↓w_rep, ↓w_call, ↓w_pcall, ↓w_b1, ↓w_b2, ↓w_lrange, ↓w_lrange1, ↓w_isi, ↓w_meth, ↓w_ext, ↓w_extO, ↓w_Es0, ↓w_Es1, ↓w_Ts0, ↓w_Ts1, ↓w_P0, ↓w_P1, ↓w_tand, ↓w_tor, ↓w_tnot, ↓w_tval, ↓w_all0, ↓w_all1, ↓w_iseq, ↓w_irange1, ↓w_irange, ↓w_ienum, ↓w_izip, ↓w_irev, ↓w_gname, ↓w_gtup, ↓w_gsub, ↓w_glob, ↓w_new, ↓w_dct0, ↓w_dget, ↓w_dgetd, ↓w_fld, ↓w_make, ↓w_mcall, ↓w_tcall, ↓w_tmcall, ↓w_fset, ↓w_ins, ↓w_gs0, ↓w_gs1, nx_nx, nx_nx0, ↓nx_rt, ↓nx_bk, ↓nx_ct, ↓w_ss0, ↓w_ss1, ↓w_set, ↓w_asg, ↓w_aug, ↓w_ex, ↓w_ret, ↓w_retN, ↓w_ite, ↓w_for, ↓w_wh, ↓w_pass, ↓w_brk, ↓w_cont, ↓Wp_ok, ↓WO_some, ↓v_add, ↓v_sub, ↓v_mul, ↓v_fdiv, ↓v_mod, ↓v_shl, ↓v_shr, ↓v_band, ↓v_bor, ↓v_bxor, ↓v_pow, ↓v_cat, ↓vi_add, ↓vi_sub, ↓vi_bor, ↓v_rep, ↓c_eqI, ↓c_neI, ↓c_lt, ↓c_le, ↓c_gt, ↓c_ge, ↓c_is, ↓c_isnt, ↓t_bl, ↓t_int, ↓t_lst, ↓t_tup, ↓l_non, ↓l_bl, ↓l_int, ↓l_str, ↓l_lst, ↓l_tup, ↓l_dct, ↓l_ins, ↓l_loc, ↓l_slot, ↓i_tup, ↓k_lst, ↓b_len, ↓b_lenT, ↓b_list, ↓b_listT, ↓b_tuple, ↓b_tupleT, ↓b_int, ↓b_intB, ↓b_abs, ↓b_all, ↓b_any, ↓b_sum, ↓b_min, ↓b_max, ↓m_append, ↓p_own, ↓p_loc, like_lst, like_dct, ↓m_pop0, ↓m_pop, ↓m_clear, ↓m_insert, ↓m_reverse, ↓c_inD, ↓c_notinD, ↓c_isB, ↓c_isntB, ↓i_dct, ↓g_dct, ↓b_lenD, ↓b_dict, key_int, key_str, o_lst, o_dct, mk_dct, mk_int, mk_non, mk_bl, mk_tup, mk_loc, storeB_rfl, storeB_app, mk_lst, pl_1_0, pl_2_0, pl_2_1, pl_3_0, pl_3_1, pl_3_2, pl_4_0, pl_4_1, pl_4_2, pl_4_3, pl_5_0, pl_5_1, pl_5_2, pl_5_3, pl_5_4, pl_6_0, pl_6_1, pl_6_2, pl_6_3, pl_6_4, pl_6_5, pl_7_0, pl_7_1, pl_7_2, pl_7_3, pl_7_4, pl_7_5, pl_7_6, pl_8_0, pl_8_1, pl_8_2, pl_8_3, pl_8_4, pl_8_5, pl_8_6, pl_8_7, pl_1_m1, pl_2_m1, pl_3_m1, pl_4_m1, pl_5_m1, pl_6_m1, pl_7_m1, pl_8_m1, WO_ite, WO_map, WO_bind, List.getElem?_cons_zero, List.getElem?_cons_succ, List.set_cons_zero, List.set_cons_succ, List.length_cons, List.length_nil, List.length_map, List.map_cons, List.map_nil, List.replicate, List.cons_append, List.nil_append, if_true, if_false, Bool.false_eq_true, decide_eq_true_eq, Bool.not_eq_true', decide_eq_false_iff_not, true_and, and_true, Nat.reduceAdd, Nat.reduceSub, Nat.reduceLT, Nat.reduceLeDiff, Int.reduceLT, Int.reduceLE, ite_not, ↓s_int_non, ↓s_int_bl, ↓s_int_int, ↓s_int_str, ↓s_int_lst, ↓s_int_tup, ↓s_bool_non, ↓s_bool_bl, ↓s_bool_int, ↓s_bool_str, ↓s_bool_lst, ↓s_bool_tup, ↓s_str_non, ↓s_str_bl, ↓s_str_int, ↓s_str_str, ↓s_str_lst, ↓s_str_tup, ↓s_list_non, ↓s_list_bl, ↓s_list_int, ↓s_list_str, ↓s_list_lst, ↓s_list_tup, ↓s_tuple_non, ↓s_tuple_bl, ↓s_tuple_int, ↓s_tuple_str, ↓s_tuple_lst, ↓s_tuple_tup, Bool.not_true, Bool.not_false, ↓i_l0, ↓i_l1, ↓i_l2, ↓i_l3, ↓i_l4, ↓i_l5, ↓i_l6, ↓i_l7, ↓w_hold, ↓w_cellG, gd0, gd1, beq_self, ↓w_forO, bel_non, bel_bl, bel_int, bel_str, flat_non, flat_bl, flat_int, flat_str, flat_lst, flat_tup, lents0, ↓lents1, ↓lent_v, ↓lent_s, reduceCtorEq, ↓m_index, decide_true, decide_false, ↓u_loop0, ↓w_mmd, ↓w_dctl, ↓b_str, ↓s_dict_dct, ↓s_int_dct, ↓s_bool_dct, ↓s_str_dct, ↓s_list_dct, ↓s_tuple_dct, e60]
  refine ⟨small_nat (by omega), ?_⟩
  rw [rangeL0]
  refine w_loopN (fun k s => ∃ (ds : List D) (u : Slot), s = ⟨[.val (.int (x : Nat)), .val (.lst ds), u], S⟩) ⟨_, _, rfl⟩ ?_ ?_
  · rintro k d s hd ⟨ds, u, rfl⟩
    simp only [↓w_leak, ↓w_lk, ↓w_int, ↓w_vF, ↓w_two, ↓w_var, ↓w_mv, ↓w_cst, ↓w_bin, ↓w_cmp, ↓w_sub, ↓w_neg, ↓w_chain, ↓w_and, ↓w_or, ↓w_not, ↓w_ife, ↓w_cut, ↓w_back, ↓w_tup, ↓w_lst, ↓w_rep, ↓w_call, ↓w_pcall, ↓w_b1, ↓w_b2, ↓w_lrange, ↓w_lrange1, ↓w_isi, ↓w_meth, ↓w_ext, ↓w_extO, ↓w_Es0, ↓w_Es1, ↓w_Ts0, ↓w_Ts1, ↓w_P0, ↓w_P1, ↓w_tand, ↓w_tor, ↓w_tnot, ↓w_tval, ↓w_all0, ↓w_all1, ↓w_iseq, ↓w_irange1, ↓w_irange, ↓w_ienum, ↓w_izip, ↓w_irev, ↓w_gname, ↓w_gtup, ↓w_gsub, ↓w_glob, ↓w_new, ↓w_dct0, ↓w_dget, ↓w_dgetd, ↓w_fld, ↓w_make, ↓w_mcall, ↓w_tcall, ↓w_tmcall, ↓w_fset, ↓w_ins, ↓w_gs0, ↓w_gs1, nx_nx, nx_nx0, ↓nx_rt, ↓nx_bk, ↓nx_ct, ↓w_ss0, ↓w_ss1, ↓w_set, ↓w_asg, ↓w_aug, ↓w_ex, ↓w_ret, ↓w_retN, ↓w_ite, ↓w_for, ↓w_wh, ↓w_pass, ↓w_brk, ↓w_cont, ↓Wp_ok, ↓WO_some, ↓v_add, ↓v_sub, ↓v_mul, ↓v_fdiv, ↓v_mod, ↓v_shl, ↓v_shr, ↓v_band, ↓v_bor, ↓v_bxor, ↓v_pow, ↓v_cat, ↓vi_add, ↓vi_sub, ↓vi_bor, ↓v_rep, ↓c_eqI, ↓c_neI, ↓c_lt, ↓c_le, ↓c_gt, ↓c_ge, ↓c_is, ↓c_isnt, ↓t_bl, ↓t_int, ↓t_lst, ↓t_tup, ↓l_non, ↓l_bl, ↓l_int, ↓l_str, ↓l_lst, ↓l_tup, ↓l_dct, ↓l_ins, ↓l_loc, ↓l_slot, ↓i_tup, ↓k_lst, ↓b_len, ↓b_lenT, ↓b_list, ↓b_listT, ↓b_tuple, ↓b_tupleT, ↓b_int, ↓b_intB, ↓b_abs, ↓b_all, ↓b_any, ↓b_sum, ↓b_min, ↓b_max, ↓m_append, ↓p_own, ↓p_loc, like_lst, like_dct, ↓m_pop0, ↓m_pop, ↓m_clear, ↓m_insert, ↓m_reverse, ↓c_inD, ↓c_notinD, ↓c_isB, ↓c_isntB, ↓i_dct, ↓g_dct, ↓b_lenD, ↓b_dict, key_int, key_str, o_lst, o_dct, mk_dct, mk_int, mk_non, mk_bl, mk_tup, mk_loc, storeB_rfl, storeB_app, mk_lst, pl_1_0, pl_2_0, pl_2_1, pl_3_0, pl_3_1, pl_3_2, pl_4_0, pl_4_1, pl_4_2, pl_4_3, pl_5_0, pl_5_1, pl_5_2, pl_5_3, pl_5_4, pl_6_0, pl_6_1, pl_6_2, pl_6_3, pl_6_4, pl_6_5, pl_7_0, pl_7_1, pl_7_2, pl_7_3, pl_7_4, pl_7_5, pl_7_6, pl_8_0, pl_8_1, pl_8_2, pl_8_3, pl_8_4, pl_8_5, pl_8_6, pl_8_7, pl_1_m1, pl_2_m1, pl_3_m1, pl_4_m1, pl_5_m1, pl_6_m1, pl_7_m1, pl_8_m1, WO_ite, WO_map, WO_bind, List.getElem?_cons_zero, List.getElem?_cons_succ, List.set_cons_zero, List.set_cons_succ, List.length_cons, List.length_nil, List.length_map, List.map_cons, List.map_nil, List.replicate, List.cons_append, List.nil_append, if_true, if_false, Bool.false_eq_true, decide_eq_true_eq, Bool.not_eq_true', decide_eq_false_iff_not, true_and, and_true, Nat.reduceAdd, Nat.reduceSub, Nat.reduceLT, Nat.reduceLeDiff, Int.reduceLT, Int.reduceLE, ite_not, ↓s_int_non, ↓s_int_bl, ↓s_int_int, ↓s_int_str, ↓s_int_lst, ↓s_int_tup, ↓s_bool_non, ↓s_bool_bl, ↓s_bool_int, ↓s_bool_str, ↓s_bool_lst, ↓s_bool_tup, ↓s_str_non, ↓s_str_bl, ↓s_str_int, ↓s_str_str, ↓s_str_lst, ↓s_str_tup, ↓s_list_non, ↓s_list_bl, ↓s_list_int, ↓s_list_str, ↓s_list_lst, ↓s_list_tup, ↓s_tuple_non, ↓s_tuple_bl, ↓s_tuple_int, ↓s_tuple_str, ↓s_tuple_lst, ↓s_tuple_tup, Bool.not_true, Bool.not_false, ↓i_l0, ↓i_l1, ↓i_l2, ↓i_l3, ↓i_l4, ↓i_l5, ↓i_l6, ↓i_l7, ↓w_hold, ↓w_cellG, gd0, gd1, beq_self, ↓w_forO, bel_non, bel_bl, bel_int, bel_str, flat_non, flat_bl, flat_int, flat_str, flat_lst, flat_tup, lents0, ↓lents1, ↓lent_v, ↓lent_s, reduceCtorEq, ↓m_index, decide_true, decide_false, ↓u_loop0, ↓w_mmd, ↓w_dctl, ↓b_str, ↓s_dict_dct, ↓s_int_dct, ↓s_bool_dct, ↓s_str_dct, ↓s_list_dct, ↓s_tuple_dct]
    exact ⟨_, _, rfl⟩
  · rintro s ⟨ds, u, rfl⟩
    simp only [↓w_leak, ↓w_lk, ↓w_int, ↓w_vF, ↓w_two, ↓w_var, ↓w_mv, ↓w_cst, ↓w_bin, ↓w_cmp, ↓w_sub, ↓w_neg, ↓w_chain, ↓w_and, ↓w_or, ↓w_not, ↓w_ife, ↓w_cut, ↓w_back, ↓w_tup, ↓w_lst, ↓w_rep, ↓w_call, ↓w_pcall, ↓w_b1, ↓w_b2, ↓w_lrange, ↓w_lrange1, ↓w_isi, ↓w_meth, ↓w_ext, ↓w_extO, ↓w_Es0, ↓w_Es1, ↓w_Ts0, ↓w_Ts1, ↓w_P0, ↓w_P1, ↓w_tand, ↓w_tor, ↓w_tnot, ↓w_tval, ↓w_all0, ↓w_all1, ↓w_iseq, ↓w_irange1, ↓w_irange, ↓w_ienum, ↓w_izip, ↓w_irev, ↓w_gname, ↓w_gtup, ↓w_gsub, ↓w_glob, ↓w_new, ↓w_dct0, ↓w_dget, ↓w_dgetd, ↓w_fld, ↓w_make, ↓w_mcall, ↓w_tcall, ↓w_tmcall, ↓w_fset, ↓w_ins, ↓w_gs0, ↓w_gs1, nx_nx, nx_nx0, ↓nx_rt, ↓nx_bk, ↓nx_ct, ↓w_ss0, ↓w_ss1, ↓w_set, ↓w_asg, ↓w_aug, ↓w_ex, ↓w_ret, ↓w_retN, ↓w_ite, ↓w_for, ↓w_wh, ↓w_pass, ↓w_brk, ↓w_cont, ↓Wp_ok, ↓WO_some, ↓v_add, ↓v_sub, ↓v_mul, ↓v_fdiv, ↓v_mod, ↓v_shl, ↓v_shr, ↓v_band, ↓v_bor, ↓v_bxor, ↓v_pow, ↓v_cat, ↓vi_add, ↓vi_sub, ↓vi_bor, ↓v_rep, ↓c_eqI, ↓c_neI, ↓c_lt, ↓c_le, ↓c_gt, ↓c_ge, ↓c_is, ↓c_isnt, ↓t_bl, ↓t_int, ↓t_lst, ↓t_tup, ↓l_non, ↓l_bl, ↓l_int, ↓l_str, ↓l_lst, ↓l_tup, ↓l_dct, ↓l_ins, ↓l_loc, ↓l_slot, ↓i_tup, ↓k_lst, ↓b_len, ↓b_lenT, ↓b_list, ↓b_listT, ↓b_tuple, ↓b_tupleT, ↓b_int, ↓b_intB, ↓b_abs, ↓b_all, ↓b_any, ↓b_sum, ↓b_min, ↓b_max, ↓m_append, ↓p_own, ↓p_loc, like_lst, like_dct, ↓m_pop0, ↓m_pop, ↓m_clear, ↓m_insert, ↓m_reverse, ↓c_inD, ↓c_notinD, ↓c_isB, ↓c_isntB, ↓i_dct, ↓g_dct, ↓b_lenD, ↓b_dict, key_int, key_str, o_lst, o_dct, mk_dct, mk_int, mk_non, mk_bl, mk_tup, mk_loc, storeB_rfl, storeB_app, mk_lst, pl_1_0, pl_2_0, pl_2_1, pl_3_0, pl_3_1, pl_3_2, pl_4_0, pl_4_1, pl_4_2, pl_4_3, pl_5_0, pl_5_1, pl_5_2, pl_5_3, pl_5_4, pl_6_0, pl_6_1, pl_6_2, pl_6_3, pl_6_4, pl_6_5, pl_7_0, pl_7_1, pl_7_2, pl_7_3, pl_7_4, pl_7_5, pl_7_6, pl_8_0, pl_8_1, pl_8_2, pl_8_3, pl_8_4, pl_8_5, pl_8_6, pl_8_7, pl_1_m1, pl_2_m1, pl_3_m1, pl_4_m1, pl_5_m1, pl_6_m1, pl_7_m1, pl_8_m1, WO_ite, WO_map, WO_bind, List.getElem?_cons_zero, List.getElem?_cons_succ, List.set_cons_zero, List.set_cons_succ, List.length_cons, List.length_nil, List.length_map, List.map_cons, List.map_nil, List.replicate, List.cons_append, List.nil_append, if_true, if_false, Bool.false_eq_true, decide_eq_true_eq, Bool.not_eq_true', decide_eq_false_iff_not, true_and, and_true, Nat.reduceAdd, Nat.reduceSub, Nat.reduceLT, Nat.reduceLeDiff, Int.reduceLT, Int.reduceLE, ite_not, ↓s_int_non, ↓s_int_bl, ↓s_int_int, ↓s_int_str, ↓s_int_lst, ↓s_int_tup, ↓s_bool_non, ↓s_bool_bl, ↓s_bool_int, ↓s_bool_str, ↓s_bool_lst, ↓s_bool_tup, ↓s_str_non, ↓s_str_bl, ↓s_str_int, ↓s_str_str, ↓s_str_lst, ↓s_str_tup, ↓s_list_non, ↓s_list_bl, ↓s_list_int, ↓s_list_str, ↓s_list_lst, ↓s_list_tup, ↓s_tuple_non, ↓s_tuple_bl, ↓s_tuple_int, ↓s_tuple_str, ↓s_tuple_lst, ↓s_tuple_tup, Bool.not_true, Bool.not_false, ↓i_l0, ↓i_l1, ↓i_l2, ↓i_l3, ↓i_l4, ↓i_l5, ↓i_l6, ↓i_l7, ↓w_hold, ↓w_cellG, gd0, gd1, beq_self, ↓w_forO, bel_non, bel_bl, bel_int, bel_str, flat_non, flat_bl, flat_int, flat_str, flat_lst, flat_tup, lents0, ↓lents1, ↓lent_v, ↓lent_s, reduceCtorEq, ↓m_index, decide_true, decide_false, ↓u_loop0, ↓w_mmd, ↓w_dctl, ↓b_str, ↓s_dict_dct, ↓s_int_dct, ↓s_bool_dct, ↓s_str_dct, ↓s_list_dct, ↓s_tuple_dct]
    have hdp : dpairs [D.int (x : Int), D.int (x : Int)] ([], []) = some (.dct 0 [.int (x : Int)] [.int (x : Int)]) := rfl
    rw [hdp]
    refine ⟨?_, _, ?_, ?_, rfl⟩
    · unfold strI
      rw [Int.natAbs_natCast]
      by_cases h0 : x = 0
      · subst h0; decide
      · exact (Nat.log2_lt h0).mpr (Nat.lt_of_le_of_lt hx (by decide))
    · rfl
    · intro d hd
      simp only [List.mem_cons, List.not_mem_nil, or_false] at hd
      rcases hd with rfl | rfl | rfl | rfl | rfl | rfl | rfl | rfl | rfl | rfl | rfl | rfl <;> trivial
theorem s_law_thing (n : Nat) (x : Int) (m : Nat) (S : Store) (hm : m < 4) : ∃ d : D, Kind d ∧ callN tab (n + 2) F_law_thing [.int x, .int (m : Nat)] S = some (d, S) := by
  have hp := pow_small hm
  have hb := pow_big hm
  suffices h : ∃ d S', callN tab (n + 2) F_law_thing [.int x, .int (m : Nat)] S = some (d, S') ∧ S' = S ∧ Kind d by
    obtain ⟨d, S', e, rfl, h1⟩ := h
    exact ⟨d, h1, e⟩
  refine call_of t_law_thing rfl ?_
  simp only [d_law_thing, ↓w_leak, ↓w_lk, ↓w_int, ↓w_vF, ↓w_two, ↓w_var, ↓w_mv, ↓w_cst, ↓w_bin, ↓w_cmp, ↓w_sub, ↓w_neg, ↓w_chain, ↓w_and, ↓w_or, ↓w_not, ↓w_ife, ↓w_cut, ↓w_back, ↓w_tup, ↓w_lst, ↓w_rep, ↓w_call, ↓w_pcall, ↓w_b1, ↓w_b2, ↓w_lrange, ↓w_lrange1, ↓w_isi, ↓w_meth, ↓w_ext, ↓w_extO, ↓w_Es0, ↓w_Es1, ↓w_Ts0, ↓w_Ts1, ↓w_P0, ↓w_P1, ↓w_tand, ↓w_tor, ↓w_tnot, ↓w_tval, ↓w_all0, ↓w_all1, ↓w_iseq, ↓w_irange1, ↓w_irange, ↓w_ienum, ↓w_izip, ↓w_irev, ↓w_gname, ↓w_gtup, ↓w_gsub, ↓w_glob, ↓w_new, ↓w_dct0, ↓w_dget, ↓w_dgetd, ↓w_fld, ↓w_make, ↓w_mcall, ↓w_tcall, ↓w_tmcall, ↓w_fset, ↓w_ins, ↓w_gs0, ↓w_gs1, nx_nx, nx_nx0, ↓nx_rt, ↓nx_bk, ↓nx_ct, ↓w_ss0, ↓w_ss1, ↓w_set, ↓w_asg, ↓w_aug, ↓w_ex, ↓w_ret, ↓w_retN, ↓w_ite, ↓w_for, ↓w_wh, ↓w_pass, ↓w_brk, ↓w_cont, ↓Wp_ok, ↓WO_some, ↓v_add, ↓v_sub, ↓v_mul, ↓v_fdiv, ↓v_mod, ↓v_shl, ↓v_shr, ↓v_band, ↓v_bor, ↓v_bxor, ↓v_pow, ↓v_cat, ↓vi_add, ↓vi_sub, ↓vi_bor, ↓v_rep, ↓c_eqI, ↓c_neI, ↓c_lt, ↓c_le, ↓c_gt, ↓c_ge, ↓c_is, ↓c_isnt, ↓t_bl, ↓t_int, ↓t_lst, ↓t_tup, ↓l_non, ↓l_bl, ↓l_int, ↓l_str, ↓l_lst, ↓l_tup, ↓l_dct, ↓l_ins, ↓l_loc, ↓l_slot, ↓i_tup, ↓k_lst, ↓b_len, ↓b_lenT, ↓b_list, ↓b_listT, ↓b_tuple, ↓b_tupleT, ↓b_int, ↓b_intB, ↓b_abs, ↓b_all, ↓b_any, ↓b_sum, ↓b_min, ↓b_max, ↓m_append, ↓p_own, ↓p_loc, like_lst, like_dct, ↓m_pop0, ↓m_pop, ↓m_clear, ↓m_insert, ↓m_reverse, ↓c_inD, ↓c_notinD, ↓c_isB, ↓c_isntB, ↓i_dct, ↓g_dct, ↓b_lenD, ↓b_dict, key_int, key_str, o_lst, o_dct, mk_dct, mk_int, mk_non, mk_bl, mk_tup, mk_loc, storeB_rfl, storeB_app, mk_lst, pl_1_0, pl_2_0, pl_2_1, pl_3_0, pl_3_1, pl_3_2, pl_4_0, pl_4_1, pl_4_2, pl_4_3, pl_5_0, pl_5_1, pl_5_2, pl_5_3, pl_5_4, pl_6_0, pl_6_1, pl_6_2, pl_6_3, pl_6_4, pl_6_5, pl_7_0, pl_7_1, pl_7_2, pl_7_3, pl_7_4, pl_7_5, pl_7_6, pl_8_0, pl_8_1, pl_8_2, pl_8_3, pl_8_4, pl_8_5, pl_8_6, pl_8_7, pl_1_m1, pl_2_m1, pl_3_m1, pl_4_m1, pl_5_m1, pl_6_m1, pl_7_m1, pl_8_m1, WO_ite, WO_map, WO_bind, List.getElem?_cons_zero, List.getElem?_cons_succ, List.set_cons_zero, List.set_cons_succ, List.length_cons, List.length_nil, List.length_map, List.map_cons, List.map_nil, List.replicate, List.cons_append, List.nil_append, if_true, if_false, Bool.false_eq_true, decide_eq_true_eq, Bool.not_eq_true', decide_eq_false_iff_not, true_and, and_true, Nat.reduceAdd, Nat.reduceSub, Nat.reduceLT, Nat.reduceLeDiff, Int.reduceLT, Int.reduceLE, ite_not, ↓s_int_non, ↓s_int_bl, ↓s_int_int, ↓s_int_str, ↓s_int_lst, ↓s_int_tup, ↓s_bool_non, ↓s_bool_bl, ↓s_bool_int, ↓s_bool_str, ↓s_bool_lst, ↓s_bool_tup, ↓s_str_non, ↓s_str_bl, ↓s_str_int, ↓s_str_str, ↓s_str_lst, ↓s_str_tup, ↓s_list_non, ↓s_list_bl, ↓s_list_int, ↓s_list_str, ↓s_list_lst, ↓s_list_tup, ↓s_tuple_non, ↓s_tuple_bl, ↓s_tuple_int, ↓s_tuple_str, ↓s_tuple_lst, ↓s_tuple_tup, Bool.not_true, Bool.not_false, ↓i_l0, ↓i_l1, ↓i_l2, ↓i_l3, ↓i_l4, ↓i_l5, ↓i_l6, ↓i_l7, ↓w_hold, ↓w_cellG, gd0, gd1, beq_self, ↓w_forO, bel_non, bel_bl, bel_int, bel_str, flat_non, flat_bl, flat_int, flat_str, flat_lst, flat_tup, lents0, ↓lents1, ↓lent_v, ↓lent_s, reduceCtorEq, ↓m_index, decide_true, decide_false, ↓u_loop0, ↓w_mmd, ↓w_dctl, ↓b_str, ↓s_dict_dct, ↓s_int_dct, ↓s_bool_dct, ↓s_str_dct, ↓s_list_dct, ↓s_tuple_dct, Int.toNat_natCast, toNat_pow]
  refine ⟨⟨by omega, by omega, by decide⟩, ⟨hb.1, hb.2.1, by decide⟩, by decide, by decide, ?_⟩
  split
  · exact ⟨hb.2.2, trivial⟩
  split
  · trivial
  split
  · trivial
  have hN : 0 ≤ x / 5 % 10 ^ Int.toNat 60 := Int.emod_nonneg _ (by decide)
  generalize x / 5 % 10 ^ Int.toNat 60 = y at hN
  obtain ⟨y, rfl⟩ := nat_of hN
  split
  · have e : (y : Int) % 7 = ((y % 7 : Nat) : Int) := by push_cast; rfl
    have hl : y % 7 < 7 := Nat.mod_lt _ (by decide)
    rw [e]
    match y % 7, hl with
    | 0, _ => exact trivial
    | 1, _ => exact trivial
    | 2, _ => exact trivial
    | 3, _ => exact trivial
    | 4, _ => exact trivial
    | 5, _ => exact trivial
    | 6, _ => exact trivial
  · have e : (y : Int) / 12 % 10 ^ Int.toNat 40 = ((y / 12 % 10 ^ 40 : Nat) : Int) := by
      have e1 : (10 : Int) ^ Int.toNat 40 = ((10 ^ 40 : Nat) : Int) := by
        rw [Int.natCast_pow]; rfl
      rw [e1, show ((12 : Int)) = ((12 : Nat) : Int) from rfl, ← Int.natCast_ediv, ← Int.natCast_emod]
    obtain ⟨ds, hl, hd, ed⟩ := s_law_odd n (y / 12 % 10 ^ 40) S (Nat.le_of_lt (Nat.mod_lt _ (by decide)))
    rw [e]
    generalize y / 12 % 10 ^ 40 = z at ed
    simp only [↓w_leak, ↓w_lk, ↓w_int, ↓w_vF, ↓w_two, ↓w_var, ↓w_mv, ↓w_cst, ↓w_bin, ↓w_cmp, ↓w_sub, ↓w_neg, ↓w_chain, ↓w_and, ↓w_or, ↓w_not, ↓w_ife, ↓w_cut, ↓w_back, ↓w_tup, ↓w_lst, ↓w_rep, ↓w_call, ↓w_pcall, ↓w_b1, ↓w_b2, ↓w_lrange, ↓w_lrange1, ↓w_isi, ↓w_meth, ↓w_ext, ↓w_extO, ↓w_Es0, ↓w_Es1, ↓w_Ts0, ↓w_Ts1, ↓w_P0, ↓w_P1, ↓w_tand, ↓w_tor, ↓w_tnot, ↓w_tval, ↓w_all0, ↓w_all1, ↓w_iseq, ↓w_irange1, ↓w_irange, ↓w_ienum, ↓w_izip, ↓w_irev, ↓w_gname, ↓w_gtup, ↓w_gsub, ↓w_glob, ↓w_new, ↓w_dct0, ↓w_dget, ↓w_dgetd, ↓w_fld, ↓w_make, ↓w_mcall, ↓w_tcall, ↓w_tmcall, ↓w_fset, ↓w_ins, ↓w_gs0, ↓w_gs1, nx_nx, nx_nx0, ↓nx_rt, ↓nx_bk, ↓nx_ct, ↓w_ss0, ↓w_ss1, ↓w_set, ↓w_asg, ↓w_aug, ↓w_ex, ↓w_ret, ↓w_retN, ↓w_ite, ↓w_for, ↓w_wh, ↓w_pass, ↓w_brk, ↓w_cont, ↓Wp_ok, ↓WO_some, ↓v_add, ↓v_sub, ↓v_mul, ↓v_fdiv, ↓v_mod, ↓v_shl, ↓v_shr, ↓v_band, ↓v_bor, ↓v_bxor, ↓v_pow, ↓v_cat, ↓vi_add, ↓vi_sub, ↓vi_bor, ↓v_rep, ↓c_eqI, ↓c_neI, ↓c_lt, ↓c_le, ↓c_gt, ↓c_ge, ↓c_is, ↓c_isnt, ↓t_bl, ↓t_int, ↓t_lst, ↓t_tup, ↓l_non, ↓l_bl, ↓l_int, ↓l_str, ↓l_lst, ↓l_tup, ↓l_dct, ↓l_ins, ↓l_loc, ↓l_slot, ↓i_tup, ↓k_lst, ↓b_len, ↓b_lenT, ↓b_list, ↓b_listT, ↓b_tuple, ↓b_tupleT, ↓b_int, ↓b_intB, ↓b_abs, ↓b_all, ↓b_any, ↓b_sum, ↓b_min, ↓b_max, ↓m_append, ↓p_own, ↓p_loc, like_lst, like_dct, ↓m_pop0, ↓m_pop, ↓m_clear, ↓m_insert, ↓m_reverse, ↓c_inD, ↓c_notinD, ↓c_isB, ↓c_isntB, ↓i_dct, ↓g_dct, ↓b_lenD, ↓b_dict, key_int, key_str, o_lst, o_dct, mk_dct, mk_int, mk_non, mk_bl, mk_tup, mk_loc, storeB_rfl, storeB_app, mk_lst, pl_1_0, pl_2_0, pl_2_1, pl_3_0, pl_3_1, pl_3_2, pl_4_0, pl_4_1, pl_4_2, pl_4_3, pl_5_0, pl_5_1, pl_5_2, pl_5_3, pl_5_4, pl_6_0, pl_6_1, pl_6_2, pl_6_3, pl_6_4, pl_6_5, pl_7_0, pl_7_1, pl_7_2, pl_7_3, pl_7_4, pl_7_5, pl_7_6, pl_8_0, pl_8_1, pl_8_2, pl_8_3, pl_8_4, pl_8_5, pl_8_6, pl_8_7, pl_1_m1, pl_2_m1, pl_3_m1, pl_4_m1, pl_5_m1, pl_6_m1, pl_7_m1, pl_8_m1, WO_ite, WO_map, WO_bind, List.getElem?_cons_zero, List.getElem?_cons_succ, List.set_cons_zero, List.set_cons_succ, List.length_cons, List.length_nil, List.length_map, List.map_cons, List.map_nil, List.replicate, List.cons_append, List.nil_append, if_true, if_false, Bool.false_eq_true, decide_eq_true_eq, Bool.not_eq_true', decide_eq_false_iff_not, true_and, and_true, Nat.reduceAdd, Nat.reduceSub, Nat.reduceLT, Nat.reduceLeDiff, Int.reduceLT, Int.reduceLE, ite_not, ↓s_int_non, ↓s_int_bl, ↓s_int_int, ↓s_int_str, ↓s_int_lst, ↓s_int_tup, ↓s_bool_non, ↓s_bool_bl, ↓s_bool_int, ↓s_bool_str, ↓s_bool_lst, ↓s_bool_tup, ↓s_str_non, ↓s_str_bl, ↓s_str_int, ↓s_str_str, ↓s_str_lst, ↓s_str_tup, ↓s_list_non, ↓s_list_bl, ↓s_list_int, ↓s_list_str, ↓s_list_lst, ↓s_list_tup, ↓s_tuple_non, ↓s_tuple_bl, ↓s_tuple_int, ↓s_tuple_str, ↓s_tuple_lst, ↓s_tuple_tup, Bool.not_true, Bool.not_false, ↓i_l0, ↓i_l1, ↓i_l2, ↓i_l3, ↓i_l4, ↓i_l5, ↓i_l6, ↓i_l7, ↓w_hold, ↓w_cellG, gd0, gd1, beq_self, ↓w_forO, bel_non, bel_bl, bel_int, bel_str, flat_non, flat_bl, flat_int, flat_str, flat_lst, flat_tup, lents0, ↓lents1, ↓lent_v, ↓lent_s, reduceCtorEq, ↓m_index, decide_true, decide_false, ↓u_loop0, ↓w_mmd, ↓w_dctl, ↓b_str, ↓s_dict_dct, ↓s_int_dct, ↓s_bool_dct, ↓s_str_dct, ↓s_list_dct, ↓s_tuple_dct, ed, hl]
    refine ⟨by decide, by decide, by decide, ?_⟩
    have e2 : (y : Int) % ((12 : Nat) : Int) = ((y % 12 : Nat) : Int) := by push_cast; rfl
    have hlt : y % 12 < ds.length := by rw [hl]; exact Nat.mod_lt _ (by decide)
    rw [e2, i_at (List.getElem?_eq_getElem hlt)]
    exact hd _ (List.getElem_mem _)
theorem hF : ∀ ns : List Int, ns.length ≤ 63 → ∃ S', callN tab 5 6 [.lst (ns.map D.int)] [] = some (.bl true, S') := by
  intro ns hns
  refine ⟨[], call_eq (tab := tab) (n := 4) t_law rfl ?_⟩
  obtain ⟨o0, h01, h02, h03⟩ := s_law_odd 3 0 [] (by decide)
  obtain ⟨o1, h11, h12, h13⟩ := s_law_odd 3 1 [] (by decide)
  have h03' : callN tab 4 F_law_odd [D.int 0] [] = some (D.lst o0, []) := h03
  have h13' : callN tab 4 F_law_odd [D.int 1] [] = some (D.lst o1, []) := h13
  simp only [d_law, ↓w_leak, ↓w_lk, ↓w_int, ↓w_vF, ↓w_two, ↓w_var, ↓w_mv, ↓w_cst, ↓w_bin, ↓w_cmp, ↓w_sub, ↓w_neg, ↓w_chain, ↓w_and, ↓w_or, ↓w_not, ↓w_ife, ↓w_cut, ↓w_back, ↓w_tup, ↓w_lst, ↓w_rep, ↓w_call, ↓w_pcall, ↓w_b1, ↓w_b2, ↓w_lrange, ↓w_lrange1, ↓w_isi, ↓w_meth, ↓w_ext, ↓w_extO, ↓w_Es0, ↓w_Es1, ↓w_Ts0, ↓w_Ts1, ↓w_P0, ↓w_P1, ↓w_tand, ↓w_tor, ↓w_tnot, ↓w_tval, ↓w_all0, ↓w_all1, ↓w_iseq, ↓w_irange1, ↓w_irange, ↓w_ienum, ↓w_izip, ↓w_irev, ↓w_gname, ↓w_gtup, ↓w_gsub, ↓w_glob, ↓w_new, ↓w_dct0, ↓w_dget, ↓w_dgetd, ↓w_fld, ↓w_make, ↓w_mcall, ↓w_tcall, ↓w_tmcall, ↓w_fset, ↓w_ins, ↓w_gs0, ↓w_gs1, nx_nx, nx_nx0, ↓nx_rt, ↓nx_bk, ↓nx_ct, ↓w_ss0, ↓w_ss1, ↓w_set, ↓w_asg, ↓w_aug, ↓w_ex, ↓w_ret, ↓w_retN, ↓w_ite, ↓w_for, ↓w_wh, ↓w_pass, ↓w_brk, ↓w_cont, ↓Wp_ok, ↓WO_some, ↓v_add, ↓v_sub, ↓v_mul, ↓v_fdiv, ↓v_mod, ↓v_shl, ↓v_shr, ↓v_band, ↓v_bor, ↓v_bxor, ↓v_pow, ↓v_cat, ↓vi_add, ↓vi_sub, ↓vi_bor, ↓v_rep, ↓c_eqI, ↓c_neI, ↓c_lt, ↓c_le, ↓c_gt, ↓c_ge, ↓c_is, ↓c_isnt, ↓t_bl, ↓t_int, ↓t_lst, ↓t_tup, ↓l_non, ↓l_bl, ↓l_int, ↓l_str, ↓l_lst, ↓l_tup, ↓l_dct, ↓l_ins, ↓l_loc, ↓l_slot, ↓i_tup, ↓k_lst, ↓b_len, ↓b_lenT, ↓b_list, ↓b_listT, ↓b_tuple, ↓b_tupleT, ↓b_int, ↓b_intB, ↓b_abs, ↓b_all, ↓b_any, ↓b_sum, ↓b_min, ↓b_max, ↓m_append, ↓p_own, ↓p_loc, like_lst, like_dct, ↓m_pop0, ↓m_pop, ↓m_clear, ↓m_insert, ↓m_reverse, ↓c_inD, ↓c_notinD, ↓c_isB, ↓c_isntB, ↓i_dct, ↓g_dct, ↓b_lenD, ↓b_dict, key_int, key_str, o_lst, o_dct, mk_dct, mk_int, mk_non, mk_bl, mk_tup, mk_loc, storeB_rfl, storeB_app, mk_lst, pl_1_0, pl_2_0, pl_2_1, pl_3_0, pl_3_1, pl_3_2, pl_4_0, pl_4_1, pl_4_2, pl_4_3, pl_5_0, pl_5_1, pl_5_2, pl_5_3, pl_5_4, pl_6_0, pl_6_1, pl_6_2, pl_6_3, pl_6_4, pl_6_5, pl_7_0, pl_7_1, pl_7_2, pl_7_3, pl_7_4, pl_7_5, pl_7_6, pl_8_0, pl_8_1, pl_8_2, pl_8_3, pl_8_4, pl_8_5, pl_8_6, pl_8_7, pl_1_m1, pl_2_m1, pl_3_m1, pl_4_m1, pl_5_m1, pl_6_m1, pl_7_m1, pl_8_m1, WO_ite, WO_map, WO_bind, List.getElem?_cons_zero, List.getElem?_cons_succ, List.set_cons_zero, List.set_cons_succ, List.length_cons, List.length_nil, List.length_map, List.map_cons, List.map_nil, List.replicate, List.cons_append, List.nil_append, if_true, if_false, Bool.false_eq_true, decide_eq_true_eq, Bool.not_eq_true', decide_eq_false_iff_not, true_and, and_true, Nat.reduceAdd, Nat.reduceSub, Nat.reduceLT, Nat.reduceLeDiff, Int.reduceLT, Int.reduceLE, ite_not, ↓s_int_non, ↓s_int_bl, ↓s_int_int, ↓s_int_str, ↓s_int_lst, ↓s_int_tup, ↓s_bool_non, ↓s_bool_bl, ↓s_bool_int, ↓s_bool_str, ↓s_bool_lst, ↓s_bool_tup, ↓s_str_non, ↓s_str_bl, ↓s_str_int, ↓s_str_str, ↓s_str_lst, ↓s_str_tup, ↓s_list_non, ↓s_list_bl, ↓s_list_int, ↓s_list_str, ↓s_list_lst, ↓s_list_tup, ↓s_tuple_non, ↓s_tuple_bl, ↓s_tuple_int, ↓s_tuple_str, ↓s_tuple_lst, ↓s_tuple_tup, Bool.not_true, Bool.not_false, ↓i_l0, ↓i_l1, ↓i_l2, ↓i_l3, ↓i_l4, ↓i_l5, ↓i_l6, ↓i_l7, ↓w_hold, ↓w_cellG, gd0, gd1, beq_self, ↓w_forO, bel_non, bel_bl, bel_int, bel_str, flat_non, flat_bl, flat_int, flat_str, flat_lst, flat_tup, lents0, ↓lents1, ↓lent_v, ↓lent_s, reduceCtorEq, ↓m_index, decide_true, decide_false, ↓u_loop0, ↓w_mmd, ↓w_dctl, ↓b_str, ↓s_dict_dct, ↓s_int_dct, ↓s_bool_dct, ↓s_str_dct, ↓s_list_dct, ↓s_tuple_dct]
  refine ⟨small_lit (by decide) (by decide), ?_⟩
  rw [show rangeL 0 4 = nl (List.range 4) from rangeL0 4]
  refine w_loopN (fun k s => ∃ u1 u2 u3 : Slot, s = ⟨[.val (.lst (ns.map D.int)), u1, u2, u3, .no], []⟩) ⟨_, _, _, rfl⟩ ?_ ?_
  · rintro k d s hd ⟨u1, u2, u3, rfl⟩
    obtain ⟨rfl, hk⟩ := range_get hd
    have hp := pow_small hk
    have hb := pow_big hk
    simp only [↓w_leak, ↓w_lk, ↓w_int, ↓w_vF, ↓w_two, ↓w_var, ↓w_mv, ↓w_cst, ↓w_bin, ↓w_cmp, ↓w_sub, ↓w_neg, ↓w_chain, ↓w_and, ↓w_or, ↓w_not, ↓w_ife, ↓w_cut, ↓w_back, ↓w_tup, ↓w_lst, ↓w_rep, ↓w_call, ↓w_pcall, ↓w_b1, ↓w_b2, ↓w_lrange, ↓w_lrange1, ↓w_isi, ↓w_meth, ↓w_ext, ↓w_extO, ↓w_Es0, ↓w_Es1, ↓w_Ts0, ↓w_Ts1, ↓w_P0, ↓w_P1, ↓w_tand, ↓w_tor, ↓w_tnot, ↓w_tval, ↓w_all0, ↓w_all1, ↓w_iseq, ↓w_irange1, ↓w_irange, ↓w_ienum, ↓w_izip, ↓w_irev, ↓w_gname, ↓w_gtup, ↓w_gsub, ↓w_glob, ↓w_new, ↓w_dct0, ↓w_dget, ↓w_dgetd, ↓w_fld, ↓w_make, ↓w_mcall, ↓w_tcall, ↓w_tmcall, ↓w_fset, ↓w_ins, ↓w_gs0, ↓w_gs1, nx_nx, nx_nx0, ↓nx_rt, ↓nx_bk, ↓nx_ct, ↓w_ss0, ↓w_ss1, ↓w_set, ↓w_asg, ↓w_aug, ↓w_ex, ↓w_ret, ↓w_retN, ↓w_ite, ↓w_for, ↓w_wh, ↓w_pass, ↓w_brk, ↓w_cont, ↓Wp_ok, ↓WO_some, ↓v_add, ↓v_sub, ↓v_mul, ↓v_fdiv, ↓v_mod, ↓v_shl, ↓v_shr, ↓v_band, ↓v_bor, ↓v_bxor, ↓v_pow, ↓v_cat, ↓vi_add, ↓vi_sub, ↓vi_bor, ↓v_rep, ↓c_eqI, ↓c_neI, ↓c_lt, ↓c_le, ↓c_gt, ↓c_ge, ↓c_is, ↓c_isnt, ↓t_bl, ↓t_int, ↓t_lst, ↓t_tup, ↓l_non, ↓l_bl, ↓l_int, ↓l_str, ↓l_lst, ↓l_tup, ↓l_dct, ↓l_ins, ↓l_loc, ↓l_slot, ↓i_tup, ↓k_lst, ↓b_len, ↓b_lenT, ↓b_list, ↓b_listT, ↓b_tuple, ↓b_tupleT, ↓b_int, ↓b_intB, ↓b_abs, ↓b_all, ↓b_any, ↓b_sum, ↓b_min, ↓b_max, ↓m_append, ↓p_own, ↓p_loc, like_lst, like_dct, ↓m_pop0, ↓m_pop, ↓m_clear, ↓m_insert, ↓m_reverse, ↓c_inD, ↓c_notinD, ↓c_isB, ↓c_isntB, ↓i_dct, ↓g_dct, ↓b_lenD, ↓b_dict, key_int, key_str, o_lst, o_dct, mk_dct, mk_int, mk_non, mk_bl, mk_tup, mk_loc, storeB_rfl, storeB_app, mk_lst, pl_1_0, pl_2_0, pl_2_1, pl_3_0, pl_3_1, pl_3_2, pl_4_0, pl_4_1, pl_4_2, pl_4_3, pl_5_0, pl_5_1, pl_5_2, pl_5_3, pl_5_4, pl_6_0, pl_6_1, pl_6_2, pl_6_3, pl_6_4, pl_6_5, pl_7_0, pl_7_1, pl_7_2, pl_7_3, pl_7_4, pl_7_5, pl_7_6, pl_8_0, pl_8_1, pl_8_2, pl_8_3, pl_8_4, pl_8_5, pl_8_6, pl_8_7, pl_1_m1, pl_2_m1, pl_3_m1, pl_4_m1, pl_5_m1, pl_6_m1, pl_7_m1, pl_8_m1, WO_ite, WO_map, WO_bind, List.getElem?_cons_zero, List.getElem?_cons_succ, List.set_cons_zero, List.set_cons_succ, List.length_cons, List.length_nil, List.length_map, List.map_cons, List.map_nil, List.replicate, List.cons_append, List.nil_append, if_true, if_false, Bool.false_eq_true, decide_eq_true_eq, Bool.not_eq_true', decide_eq_false_iff_not, true_and, and_true, Nat.reduceAdd, Nat.reduceSub, Nat.reduceLT, Nat.reduceLeDiff, Int.reduceLT, Int.reduceLE, ite_not, ↓s_int_non, ↓s_int_bl, ↓s_int_int, ↓s_int_str, ↓s_int_lst, ↓s_int_tup, ↓s_bool_non, ↓s_bool_bl, ↓s_bool_int, ↓s_bool_str, ↓s_bool_lst, ↓s_bool_tup, ↓s_str_non, ↓s_str_bl, ↓s_str_int, ↓s_str_str, ↓s_str_lst, ↓s_str_tup, ↓s_list_non, ↓s_list_bl, ↓s_list_int, ↓s_list_str, ↓s_list_lst, ↓s_list_tup, ↓s_tuple_non, ↓s_tuple_bl, ↓s_tuple_int, ↓s_tuple_str, ↓s_tuple_lst, ↓s_tuple_tup, Bool.not_true, Bool.not_false, ↓i_l0, ↓i_l1, ↓i_l2, ↓i_l3, ↓i_l4, ↓i_l5, ↓i_l6, ↓i_l7, ↓w_hold, ↓w_cellG, gd0, gd1, beq_self, ↓w_forO, bel_non, bel_bl, bel_int, bel_str, flat_non, flat_bl, flat_int, flat_str, flat_lst, flat_tup, lents0, ↓lents1, ↓lent_v, ↓lent_s, reduceCtorEq, ↓m_index, decide_true, decide_false, ↓u_loop0, ↓w_mmd, ↓w_dctl, ↓b_str, ↓s_dict_dct, ↓s_int_dct, ↓s_bool_dct, ↓s_str_dct, ↓s_list_dct, ↓s_tuple_dct, Int.toNat_natCast, toNat_pow]
    refine ⟨⟨by omega, by omega, by decide⟩, ⟨hb.1, hb.2.1, by decide⟩, ⟨by omega, by omega, by decide⟩, ⟨hb.1, hb.2.1, by decide⟩, by decide, ?_⟩
    refine w_compM id (fun _ => D.bl true) ([.int (-1), .int 0, .int 1, .int (1 * 2 ^ 2 ^ k - 1), .int (1 * 2 ^ 2 ^ k), .int (10 ^ Int.toNat 59)] ++ o0 ++ o1) ?_ (by show 4 < 5; decide) ?_ ?_ ?_
    · simp only [↓w_leak, ↓w_lk, ↓w_int, ↓w_vF, ↓w_two, ↓w_var, ↓w_mv, ↓w_cst, ↓w_bin, ↓w_cmp, ↓w_sub, ↓w_neg, ↓w_chain, ↓w_and, ↓w_or, ↓w_not, ↓w_ife, ↓w_cut, ↓w_back, ↓w_tup, ↓w_lst, ↓w_rep, ↓w_call, ↓w_pcall, ↓w_b1, ↓w_b2, ↓w_lrange, ↓w_lrange1, ↓w_isi, ↓w_meth, ↓w_ext, ↓w_extO, ↓w_Es0, ↓w_Es1, ↓w_Ts0, ↓w_Ts1, ↓w_P0, ↓w_P1, ↓w_tand, ↓w_tor, ↓w_tnot, ↓w_tval, ↓w_all0, ↓w_all1, ↓w_iseq, ↓w_irange1, ↓w_irange, ↓w_ienum, ↓w_izip, ↓w_irev, ↓w_gname, ↓w_gtup, ↓w_gsub, ↓w_glob, ↓w_new, ↓w_dct0, ↓w_dget, ↓w_dgetd, ↓w_fld, ↓w_make, ↓w_mcall, ↓w_tcall, ↓w_tmcall, ↓w_fset, ↓w_ins, ↓w_gs0, ↓w_gs1, nx_nx, nx_nx0, ↓nx_rt, ↓nx_bk, ↓nx_ct, ↓w_ss0, ↓w_ss1, ↓w_set, ↓w_asg, ↓w_aug, ↓w_ex, ↓w_ret, ↓w_retN, ↓w_ite, ↓w_for, ↓w_wh, ↓w_pass, ↓w_brk, ↓w_cont, ↓Wp_ok, ↓WO_some, ↓v_add, ↓v_sub, ↓v_mul, ↓v_fdiv, ↓v_mod, ↓v_shl, ↓v_shr, ↓v_band, ↓v_bor, ↓v_bxor, ↓v_pow, ↓v_cat, ↓vi_add, ↓vi_sub, ↓vi_bor, ↓v_rep, ↓c_eqI, ↓c_neI, ↓c_lt, ↓c_le, ↓c_gt, ↓c_ge, ↓c_is, ↓c_isnt, ↓t_bl, ↓t_int, ↓t_lst, ↓t_tup, ↓l_non, ↓l_bl, ↓l_int, ↓l_str, ↓l_lst, ↓l_tup, ↓l_dct, ↓l_ins, ↓l_loc, ↓l_slot, ↓i_tup, ↓k_lst, ↓b_len, ↓b_lenT, ↓b_list, ↓b_listT, ↓b_tuple, ↓b_tupleT, ↓b_int, ↓b_intB, ↓b_abs, ↓b_all, ↓b_any, ↓b_sum, ↓b_min, ↓b_max, ↓m_append, ↓p_own, ↓p_loc, like_lst, like_dct, ↓m_pop0, ↓m_pop, ↓m_clear, ↓m_insert, ↓m_reverse, ↓c_inD, ↓c_notinD, ↓c_isB, ↓c_isntB, ↓i_dct, ↓g_dct, ↓b_lenD, ↓b_dict, key_int, key_str, o_lst, o_dct, mk_dct, mk_int, mk_non, mk_bl, mk_tup, mk_loc, storeB_rfl, storeB_app, mk_lst, pl_1_0, pl_2_0, pl_2_1, pl_3_0, pl_3_1, pl_3_2, pl_4_0, pl_4_1, pl_4_2, pl_4_3, pl_5_0, pl_5_1, pl_5_2, pl_5_3, pl_5_4, pl_6_0, pl_6_1, pl_6_2, pl_6_3, pl_6_4, pl_6_5, pl_7_0, pl_7_1, pl_7_2, pl_7_3, pl_7_4, pl_7_5, pl_7_6, pl_8_0, pl_8_1, pl_8_2, pl_8_3, pl_8_4, pl_8_5, pl_8_6, pl_8_7, pl_1_m1, pl_2_m1, pl_3_m1, pl_4_m1, pl_5_m1, pl_6_m1, pl_7_m1, pl_8_m1, WO_ite, WO_map, WO_bind, List.getElem?_cons_zero, List.getElem?_cons_succ, List.set_cons_zero, List.set_cons_succ, List.length_cons, List.length_nil, List.length_map, List.map_cons, List.map_nil, List.replicate, List.cons_append, List.nil_append, if_true, if_false, Bool.false_eq_true, decide_eq_true_eq, Bool.not_eq_true', decide_eq_false_iff_not, true_and, and_true, Nat.reduceAdd, Nat.reduceSub, Nat.reduceLT, Nat.reduceLeDiff, Int.reduceLT, Int.reduceLE, ite_not, ↓s_int_non, ↓s_int_bl, ↓s_int_int, ↓s_int_str, ↓s_int_lst, ↓s_int_tup, ↓s_bool_non, ↓s_bool_bl, ↓s_bool_int, ↓s_bool_str, ↓s_bool_lst, ↓s_bool_tup, ↓s_str_non, ↓s_str_bl, ↓s_str_int, ↓s_str_str, ↓s_str_lst, ↓s_str_tup, ↓s_list_non, ↓s_list_bl, ↓s_list_int, ↓s_list_str, ↓s_list_lst, ↓s_list_tup, ↓s_tuple_non, ↓s_tuple_bl, ↓s_tuple_int, ↓s_tuple_str, ↓s_tuple_lst, ↓s_tuple_tup, Bool.not_true, Bool.not_false, ↓i_l0, ↓i_l1, ↓i_l2, ↓i_l3, ↓i_l4, ↓i_l5, ↓i_l6, ↓i_l7, ↓w_hold, ↓w_cellG, gd0, gd1, beq_self, ↓w_forO, bel_non, bel_bl, bel_int, bel_str, flat_non, flat_bl, flat_int, flat_str, flat_lst, flat_tup, lents0, ↓lents1, ↓lent_v, ↓lent_s, reduceCtorEq, ↓m_index, decide_true, decide_false, ↓u_loop0, ↓w_mmd, ↓w_dctl, ↓b_str, ↓s_dict_dct, ↓s_int_dct, ↓s_bool_dct, ↓s_str_dct, ↓s_list_dct, ↓s_tuple_dct, h03', h13', h01, h11, List.length_append]
      simp
    · simp [h01, h11]
    · intro d hd
      have hk' : Kind d := by
        rcases List.mem_append.mp hd with z | z
        · rcases List.mem_append.mp z with z | z
          · simp only [List.mem_cons, List.not_mem_nil, or_false] at z
            rcases z with rfl | rfl | rfl | rfl | rfl | rfl <;> trivial
          · exact h02 d z
        · exact h12 d z
      simp only [↓w_leak, ↓w_lk, ↓w_int, ↓w_vF, ↓w_two, ↓w_var, ↓w_mv, ↓w_cst, ↓w_bin, ↓w_cmp, ↓w_sub, ↓w_neg, ↓w_chain, ↓w_and, ↓w_or, ↓w_not, ↓w_ife, ↓w_cut, ↓w_back, ↓w_tup, ↓w_lst, ↓w_rep, ↓w_call, ↓w_pcall, ↓w_b1, ↓w_b2, ↓w_lrange, ↓w_lrange1, ↓w_isi, ↓w_meth, ↓w_ext, ↓w_extO, ↓w_Es0, ↓w_Es1, ↓w_Ts0, ↓w_Ts1, ↓w_P0, ↓w_P1, ↓w_tand, ↓w_tor, ↓w_tnot, ↓w_tval, ↓w_all0, ↓w_all1, ↓w_iseq, ↓w_irange1, ↓w_irange, ↓w_ienum, ↓w_izip, ↓w_irev, ↓w_gname, ↓w_gtup, ↓w_gsub, ↓w_glob, ↓w_new, ↓w_dct0, ↓w_dget, ↓w_dgetd, ↓w_fld, ↓w_make, ↓w_mcall, ↓w_tcall, ↓w_tmcall, ↓w_fset, ↓w_ins, ↓w_gs0, ↓w_gs1, nx_nx, nx_nx0, ↓nx_rt, ↓nx_bk, ↓nx_ct, ↓w_ss0, ↓w_ss1, ↓w_set, ↓w_asg, ↓w_aug, ↓w_ex, ↓w_ret, ↓w_retN, ↓w_ite, ↓w_for, ↓w_wh, ↓w_pass, ↓w_brk, ↓w_cont, ↓Wp_ok, ↓WO_some, ↓v_add, ↓v_sub, ↓v_mul, ↓v_fdiv, ↓v_mod, ↓v_shl, ↓v_shr, ↓v_band, ↓v_bor, ↓v_bxor, ↓v_pow, ↓v_cat, ↓vi_add, ↓vi_sub, ↓vi_bor, ↓v_rep, ↓c_eqI, ↓c_neI, ↓c_lt, ↓c_le, ↓c_gt, ↓c_ge, ↓c_is, ↓c_isnt, ↓t_bl, ↓t_int, ↓t_lst, ↓t_tup, ↓l_non, ↓l_bl, ↓l_int, ↓l_str, ↓l_lst, ↓l_tup, ↓l_dct, ↓l_ins, ↓l_loc, ↓l_slot, ↓i_tup, ↓k_lst, ↓b_len, ↓b_lenT, ↓b_list, ↓b_listT, ↓b_tuple, ↓b_tupleT, ↓b_int, ↓b_intB, ↓b_abs, ↓b_all, ↓b_any, ↓b_sum, ↓b_min, ↓b_max, ↓m_append, ↓p_own, ↓p_loc, like_lst, like_dct, ↓m_pop0, ↓m_pop, ↓m_clear, ↓m_insert, ↓m_reverse, ↓c_inD, ↓c_notinD, ↓c_isB, ↓c_isntB, ↓i_dct, ↓g_dct, ↓b_lenD, ↓b_dict, key_int, key_str, o_lst, o_dct, mk_dct, mk_int, mk_non, mk_bl, mk_tup, mk_loc, storeB_rfl, storeB_app, mk_lst, pl_1_0, pl_2_0, pl_2_1, pl_3_0, pl_3_1, pl_3_2, pl_4_0, pl_4_1, pl_4_2, pl_4_3, pl_5_0, pl_5_1, pl_5_2, pl_5_3, pl_5_4, pl_6_0, pl_6_1, pl_6_2, pl_6_3, pl_6_4, pl_6_5, pl_7_0, pl_7_1, pl_7_2, pl_7_3, pl_7_4, pl_7_5, pl_7_6, pl_8_0, pl_8_1, pl_8_2, pl_8_3, pl_8_4, pl_8_5, pl_8_6, pl_8_7, pl_1_m1, pl_2_m1, pl_3_m1, pl_4_m1, pl_5_m1, pl_6_m1, pl_7_m1, pl_8_m1, WO_ite, WO_map, WO_bind, List.getElem?_cons_zero, List.getElem?_cons_succ, List.set_cons_zero, List.set_cons_succ, List.length_cons, List.length_nil, List.length_map, List.map_cons, List.map_nil, List.replicate, List.cons_append, List.nil_append, if_true, if_false, Bool.false_eq_true, decide_eq_true_eq, Bool.not_eq_true', decide_eq_false_iff_not, true_and, and_true, Nat.reduceAdd, Nat.reduceSub, Nat.reduceLT, Nat.reduceLeDiff, Int.reduceLT, Int.reduceLE, ite_not, ↓s_int_non, ↓s_int_bl, ↓s_int_int, ↓s_int_str, ↓s_int_lst, ↓s_int_tup, ↓s_bool_non, ↓s_bool_bl, ↓s_bool_int, ↓s_bool_str, ↓s_bool_lst, ↓s_bool_tup, ↓s_str_non, ↓s_str_bl, ↓s_str_int, ↓s_str_str, ↓s_str_lst, ↓s_str_tup, ↓s_list_non, ↓s_list_bl, ↓s_list_int, ↓s_list_str, ↓s_list_lst, ↓s_list_tup, ↓s_tuple_non, ↓s_tuple_bl, ↓s_tuple_int, ↓s_tuple_str, ↓s_tuple_lst, ↓s_tuple_tup, Bool.not_true, Bool.not_false, ↓i_l0, ↓i_l1, ↓i_l2, ↓i_l3, ↓i_l4, ↓i_l5, ↓i_l6, ↓i_l7, ↓w_hold, ↓w_cellG, gd0, gd1, beq_self, ↓w_forO, bel_non, bel_bl, bel_int, bel_str, flat_non, flat_bl, flat_int, flat_str, flat_lst, flat_tup, lents0, ↓lents1, ↓lent_v, ↓lent_s, reduceCtorEq, ↓m_index, decide_true, decide_false, ↓u_loop0, ↓w_mmd, ↓w_dctl, ↓b_str, ↓s_dict_dct, ↓s_int_dct, ↓s_bool_dct, ↓s_str_dct, ↓s_list_dct, ↓s_tuple_dct, id, s_law_right 1 d k [] hk' hk]
    · simp only [↓l_lst, b_allT, unSlot]
      simp only [↓w_leak, ↓w_lk, ↓w_int, ↓w_vF, ↓w_two, ↓w_var, ↓w_mv, ↓w_cst, ↓w_bin, ↓w_cmp, ↓w_sub, ↓w_neg, ↓w_chain, ↓w_and, ↓w_or, ↓w_not, ↓w_ife, ↓w_cut, ↓w_back, ↓w_tup, ↓w_lst, ↓w_rep, ↓w_call, ↓w_pcall, ↓w_b1, ↓w_b2, ↓w_lrange, ↓w_lrange1, ↓w_isi, ↓w_meth, ↓w_ext, ↓w_extO, ↓w_Es0, ↓w_Es1, ↓w_Ts0, ↓w_Ts1, ↓w_P0, ↓w_P1, ↓w_tand, ↓w_tor, ↓w_tnot, ↓w_tval, ↓w_all0, ↓w_all1, ↓w_iseq, ↓w_irange1, ↓w_irange, ↓w_ienum, ↓w_izip, ↓w_irev, ↓w_gname, ↓w_gtup, ↓w_gsub, ↓w_glob, ↓w_new, ↓w_dct0, ↓w_dget, ↓w_dgetd, ↓w_fld, ↓w_make, ↓w_mcall, ↓w_tcall, ↓w_tmcall, ↓w_fset, ↓w_ins, ↓w_gs0, ↓w_gs1, nx_nx, nx_nx0, ↓nx_rt, ↓nx_bk, ↓nx_ct, ↓w_ss0, ↓w_ss1, ↓w_set, ↓w_asg, ↓w_aug, ↓w_ex, ↓w_ret, ↓w_retN, ↓w_ite, ↓w_for, ↓w_wh, ↓w_pass, ↓w_brk, ↓w_cont, ↓Wp_ok, ↓WO_some, ↓v_add, ↓v_sub, ↓v_mul, ↓v_fdiv, ↓v_mod, ↓v_shl, ↓v_shr, ↓v_band, ↓v_bor, ↓v_bxor, ↓v_pow, ↓v_cat, ↓vi_add, ↓vi_sub, ↓vi_bor, ↓v_rep, ↓c_eqI, ↓c_neI, ↓c_lt, ↓c_le, ↓c_gt, ↓c_ge, ↓c_is, ↓c_isnt, ↓t_bl, ↓t_int, ↓t_lst, ↓t_tup, ↓l_non, ↓l_bl, ↓l_int, ↓l_str, ↓l_lst, ↓l_tup, ↓l_dct, ↓l_ins, ↓l_loc, ↓l_slot, ↓i_tup, ↓k_lst, ↓b_len, ↓b_lenT, ↓b_list, ↓b_listT, ↓b_tuple, ↓b_tupleT, ↓b_int, ↓b_intB, ↓b_abs, ↓b_all, ↓b_any, ↓b_sum, ↓b_min, ↓b_max, ↓m_append, ↓p_own, ↓p_loc, like_lst, like_dct, ↓m_pop0, ↓m_pop, ↓m_clear, ↓m_insert, ↓m_reverse, ↓c_inD, ↓c_notinD, ↓c_isB, ↓c_isntB, ↓i_dct, ↓g_dct, ↓b_lenD, ↓b_dict, key_int, key_str, o_lst, o_dct, mk_dct, mk_int, mk_non, mk_bl, mk_tup, mk_loc, storeB_rfl, storeB_app, mk_lst, pl_1_0, pl_2_0, pl_2_1, pl_3_0, pl_3_1, pl_3_2, pl_4_0, pl_4_1, pl_4_2, pl_4_3, pl_5_0, pl_5_1, pl_5_2, pl_5_3, pl_5_4, pl_6_0, pl_6_1, pl_6_2, pl_6_3, pl_6_4, pl_6_5, pl_7_0, pl_7_1, pl_7_2, pl_7_3, pl_7_4, pl_7_5, pl_7_6, pl_8_0, pl_8_1, pl_8_2, pl_8_3, pl_8_4, pl_8_5, pl_8_6, pl_8_7, pl_1_m1, pl_2_m1, pl_3_m1, pl_4_m1, pl_5_m1, pl_6_m1, pl_7_m1, pl_8_m1, WO_ite, WO_map, WO_bind, List.getElem?_cons_zero, List.getElem?_cons_succ, List.set_cons_zero, List.set_cons_succ, List.length_cons, List.length_nil, List.length_map, List.map_cons, List.map_nil, List.replicate, List.cons_append, List.nil_append, if_true, if_false, Bool.false_eq_true, decide_eq_true_eq, Bool.not_eq_true', decide_eq_false_iff_not, true_and, and_true, Nat.reduceAdd, Nat.reduceSub, Nat.reduceLT, Nat.reduceLeDiff, Int.reduceLT, Int.reduceLE, ite_not, ↓s_int_non, ↓s_int_bl, ↓s_int_int, ↓s_int_str, ↓s_int_lst, ↓s_int_tup, ↓s_bool_non, ↓s_bool_bl, ↓s_bool_int, ↓s_bool_str, ↓s_bool_lst, ↓s_bool_tup, ↓s_str_non, ↓s_str_bl, ↓s_str_int, ↓s_str_str, ↓s_str_lst, ↓s_str_tup, ↓s_list_non, ↓s_list_bl, ↓s_list_int, ↓s_list_str, ↓s_list_lst, ↓s_list_tup, ↓s_tuple_non, ↓s_tuple_bl, ↓s_tuple_int, ↓s_tuple_str, ↓s_tuple_lst, ↓s_tuple_tup, Bool.not_true, Bool.not_false, ↓i_l0, ↓i_l1, ↓i_l2, ↓i_l3, ↓i_l4, ↓i_l5, ↓i_l6, ↓i_l7, ↓w_hold, ↓w_cellG, gd0, gd1, beq_self, ↓w_forO, bel_non, bel_bl, bel_int, bel_str, flat_non, flat_bl, flat_int, flat_str, flat_lst, flat_tup, lents0, ↓lents1, ↓lent_v, ↓lent_s, reduceCtorEq, ↓m_index, decide_true, decide_false, ↓u_loop0, ↓w_mmd, ↓w_dctl, ↓b_str, ↓s_dict_dct, ↓s_int_dct, ↓s_bool_dct, ↓s_str_dct, ↓s_list_dct, ↓s_tuple_dct]
      exact ⟨_, _, _, rfl⟩
  · rintro s ⟨u1, u2, u3, rfl⟩
    simp only [↓w_leak, ↓w_lk, ↓w_int, ↓w_vF, ↓w_two, ↓w_var, ↓w_mv, ↓w_cst, ↓w_bin, ↓w_cmp, ↓w_sub, ↓w_neg, ↓w_chain, ↓w_and, ↓w_or, ↓w_not, ↓w_ife, ↓w_cut, ↓w_back, ↓w_tup, ↓w_lst, ↓w_rep, ↓w_call, ↓w_pcall, ↓w_b1, ↓w_b2, ↓w_lrange, ↓w_lrange1, ↓w_isi, ↓w_meth, ↓w_ext, ↓w_extO, ↓w_Es0, ↓w_Es1, ↓w_Ts0, ↓w_Ts1, ↓w_P0, ↓w_P1, ↓w_tand, ↓w_tor, ↓w_tnot, ↓w_tval, ↓w_all0, ↓w_all1, ↓w_iseq, ↓w_irange1, ↓w_irange, ↓w_ienum, ↓w_izip, ↓w_irev, ↓w_gname, ↓w_gtup, ↓w_gsub, ↓w_glob, ↓w_new, ↓w_dct0, ↓w_dget, ↓w_dgetd, ↓w_fld, ↓w_make, ↓w_mcall, ↓w_tcall, ↓w_tmcall, ↓w_fset, ↓w_ins, ↓w_gs0, ↓w_gs1, nx_nx, nx_nx0, ↓nx_rt, ↓nx_bk, ↓nx_ct, ↓w_ss0, ↓w_ss1, ↓w_set, ↓w_asg, ↓w_aug, ↓w_ex, ↓w_ret, ↓w_retN, ↓w_ite, ↓w_for, ↓w_wh, ↓w_pass, ↓w_brk, ↓w_cont, ↓Wp_ok, ↓WO_some, ↓v_add, ↓v_sub, ↓v_mul, ↓v_fdiv, ↓v_mod, ↓v_shl, ↓v_shr, ↓v_band, ↓v_bor, ↓v_bxor, ↓v_pow, ↓v_cat, ↓vi_add, ↓vi_sub, ↓vi_bor, ↓v_rep, ↓c_eqI, ↓c_neI, ↓c_lt, ↓c_le, ↓c_gt, ↓c_ge, ↓c_is, ↓c_isnt, ↓t_bl, ↓t_int, ↓t_lst, ↓t_tup, ↓l_non, ↓l_bl, ↓l_int, ↓l_str, ↓l_lst, ↓l_tup, ↓l_dct, ↓l_ins, ↓l_loc, ↓l_slot, ↓i_tup, ↓k_lst, ↓b_len, ↓b_lenT, ↓b_list, ↓b_listT, ↓b_tuple, ↓b_tupleT, ↓b_int, ↓b_intB, ↓b_abs, ↓b_all, ↓b_any, ↓b_sum, ↓b_min, ↓b_max, ↓m_append, ↓p_own, ↓p_loc, like_lst, like_dct, ↓m_pop0, ↓m_pop, ↓m_clear, ↓m_insert, ↓m_reverse, ↓c_inD, ↓c_notinD, ↓c_isB, ↓c_isntB, ↓i_dct, ↓g_dct, ↓b_lenD, ↓b_dict, key_int, key_str, o_lst, o_dct, mk_dct, mk_int, mk_non, mk_bl, mk_tup, mk_loc, storeB_rfl, storeB_app, mk_lst, pl_1_0, pl_2_0, pl_2_1, pl_3_0, pl_3_1, pl_3_2, pl_4_0, pl_4_1, pl_4_2, pl_4_3, pl_5_0, pl_5_1, pl_5_2, pl_5_3, pl_5_4, pl_6_0, pl_6_1, pl_6_2, pl_6_3, pl_6_4, pl_6_5, pl_7_0, pl_7_1, pl_7_2, pl_7_3, pl_7_4, pl_7_5, pl_7_6, pl_8_0, pl_8_1, pl_8_2, pl_8_3, pl_8_4, pl_8_5, pl_8_6, pl_8_7, pl_1_m1, pl_2_m1, pl_3_m1, pl_4_m1, pl_5_m1, pl_6_m1, pl_7_m1, pl_8_m1, WO_ite, WO_map, WO_bind, List.getElem?_cons_zero, List.getElem?_cons_succ, List.set_cons_zero, List.set_cons_succ, List.length_cons, List.length_nil, List.length_map, List.map_cons, List.map_nil, List.replicate, List.cons_append, List.nil_append, if_true, if_false, Bool.false_eq_true, decide_eq_true_eq, Bool.not_eq_true', decide_eq_false_iff_not, true_and, and_true, Nat.reduceAdd, Nat.reduceSub, Nat.reduceLT, Nat.reduceLeDiff, Int.reduceLT, Int.reduceLE, ite_not, ↓s_int_non, ↓s_int_bl, ↓s_int_int, ↓s_int_str, ↓s_int_lst, ↓s_int_tup, ↓s_bool_non, ↓s_bool_bl, ↓s_bool_int, ↓s_bool_str, ↓s_bool_lst, ↓s_bool_tup, ↓s_str_non, ↓s_str_bl, ↓s_str_int, ↓s_str_str, ↓s_str_lst, ↓s_str_tup, ↓s_list_non, ↓s_list_bl, ↓s_list_int, ↓s_list_str, ↓s_list_lst, ↓s_list_tup, ↓s_tuple_non, ↓s_tuple_bl, ↓s_tuple_int, ↓s_tuple_str, ↓s_tuple_lst, ↓s_tuple_tup, Bool.not_true, Bool.not_false, ↓i_l0, ↓i_l1, ↓i_l2, ↓i_l3, ↓i_l4, ↓i_l5, ↓i_l6, ↓i_l7, ↓w_hold, ↓w_cellG, gd0, gd1, beq_self, ↓w_forO, bel_non, bel_bl, bel_int, bel_str, flat_non, flat_bl, flat_int, flat_str, flat_lst, flat_tup, lents0, ↓lents1, ↓lent_v, ↓lent_s, reduceCtorEq, ↓m_index, decide_true, decide_false, ↓u_loop0, ↓w_mmd, ↓w_dctl, ↓b_str, ↓s_dict_dct, ↓s_int_dct, ↓s_bool_dct, ↓s_str_dct, ↓s_list_dct, ↓s_tuple_dct]
    refine w_loop (fun ds s => ∃ (rest : List Int) (u1 u2 u3 : Slot), ds = rest.map D.int ∧ s = ⟨[.val (.lst (ns.map D.int)), u1, u2, u3, .no], []⟩) ?_ ?_ _ _ ⟨ns, _, _, _, rfl, rfl⟩
    · rintro d ds s ⟨rest, u1, u2, u3, e, rfl⟩
      cases rest with
      | nil => cases e
      | cons x rest =>
        injection e with e1 e2
        subst e1
        obtain ⟨m, hm⟩ := nat_of (Int.emod_nonneg x (show (4 : Int) ≠ 0 by decide))
        have hm4 : m < 4 := by omega
        obtain ⟨t, ht, et⟩ := s_law_thing 2 (x / 4) m [] hm4
        simp only [↓w_leak, ↓w_lk, ↓w_int, ↓w_vF, ↓w_two, ↓w_var, ↓w_mv, ↓w_cst, ↓w_bin, ↓w_cmp, ↓w_sub, ↓w_neg, ↓w_chain, ↓w_and, ↓w_or, ↓w_not, ↓w_ife, ↓w_cut, ↓w_back, ↓w_tup, ↓w_lst, ↓w_rep, ↓w_call, ↓w_pcall, ↓w_b1, ↓w_b2, ↓w_lrange, ↓w_lrange1, ↓w_isi, ↓w_meth, ↓w_ext, ↓w_extO, ↓w_Es0, ↓w_Es1, ↓w_Ts0, ↓w_Ts1, ↓w_P0, ↓w_P1, ↓w_tand, ↓w_tor, ↓w_tnot, ↓w_tval, ↓w_all0, ↓w_all1, ↓w_iseq, ↓w_irange1, ↓w_irange, ↓w_ienum, ↓w_izip, ↓w_irev, ↓w_gname, ↓w_gtup, ↓w_gsub, ↓w_glob, ↓w_new, ↓w_dct0, ↓w_dget, ↓w_dgetd, ↓w_fld, ↓w_make, ↓w_mcall, ↓w_tcall, ↓w_tmcall, ↓w_fset, ↓w_ins, ↓w_gs0, ↓w_gs1, nx_nx, nx_nx0, ↓nx_rt, ↓nx_bk, ↓nx_ct, ↓w_ss0, ↓w_ss1, ↓w_set, ↓w_asg, ↓w_aug, ↓w_ex, ↓w_ret, ↓w_retN, ↓w_ite, ↓w_for, ↓w_wh, ↓w_pass, ↓w_brk, ↓w_cont, ↓Wp_ok, ↓WO_some, ↓v_add, ↓v_sub, ↓v_mul, ↓v_fdiv, ↓v_mod, ↓v_shl, ↓v_shr, ↓v_band, ↓v_bor, ↓v_bxor, ↓v_pow, ↓v_cat, ↓vi_add, ↓vi_sub, ↓vi_bor, ↓v_rep, ↓c_eqI, ↓c_neI, ↓c_lt, ↓c_le, ↓c_gt, ↓c_ge, ↓c_is, ↓c_isnt, ↓t_bl, ↓t_int, ↓t_lst, ↓t_tup, ↓l_non, ↓l_bl, ↓l_int, ↓l_str, ↓l_lst, ↓l_tup, ↓l_dct, ↓l_ins, ↓l_loc, ↓l_slot, ↓i_tup, ↓k_lst, ↓b_len, ↓b_lenT, ↓b_list, ↓b_listT, ↓b_tuple, ↓b_tupleT, ↓b_int, ↓b_intB, ↓b_abs, ↓b_all, ↓b_any, ↓b_sum, ↓b_min, ↓b_max, ↓m_append, ↓p_own, ↓p_loc, like_lst, like_dct, ↓m_pop0, ↓m_pop, ↓m_clear, ↓m_insert, ↓m_reverse, ↓c_inD, ↓c_notinD, ↓c_isB, ↓c_isntB, ↓i_dct, ↓g_dct, ↓b_lenD, ↓b_dict, key_int, key_str, o_lst, o_dct, mk_dct, mk_int, mk_non, mk_bl, mk_tup, mk_loc, storeB_rfl, storeB_app, mk_lst, pl_1_0, pl_2_0, pl_2_1, pl_3_0, pl_3_1, pl_3_2, pl_4_0, pl_4_1, pl_4_2, pl_4_3, pl_5_0, pl_5_1, pl_5_2, pl_5_3, pl_5_4, pl_6_0, pl_6_1, pl_6_2, pl_6_3, pl_6_4, pl_6_5, pl_7_0, pl_7_1, pl_7_2, pl_7_3, pl_7_4, pl_7_5, pl_7_6, pl_8_0, pl_8_1, pl_8_2, pl_8_3, pl_8_4, pl_8_5, pl_8_6, pl_8_7, pl_1_m1, pl_2_m1, pl_3_m1, pl_4_m1, pl_5_m1, pl_6_m1, pl_7_m1, pl_8_m1, WO_ite, WO_map, WO_bind, List.getElem?_cons_zero, List.getElem?_cons_succ, List.set_cons_zero, List.set_cons_succ, List.length_cons, List.length_nil, List.length_map, List.map_cons, List.map_nil, List.replicate, List.cons_append, List.nil_append, if_true, if_false, Bool.false_eq_true, decide_eq_true_eq, Bool.not_eq_true', decide_eq_false_iff_not, true_and, and_true, Nat.reduceAdd, Nat.reduceSub, Nat.reduceLT, Nat.reduceLeDiff, Int.reduceLT, Int.reduceLE, ite_not, ↓s_int_non, ↓s_int_bl, ↓s_int_int, ↓s_int_str, ↓s_int_lst, ↓s_int_tup, ↓s_bool_non, ↓s_bool_bl, ↓s_bool_int, ↓s_bool_str, ↓s_bool_lst, ↓s_bool_tup, ↓s_str_non, ↓s_str_bl, ↓s_str_int, ↓s_str_str, ↓s_str_lst, ↓s_str_tup, ↓s_list_non, ↓s_list_bl, ↓s_list_int, ↓s_list_str, ↓s_list_lst, ↓s_list_tup, ↓s_tuple_non, ↓s_tuple_bl, ↓s_tuple_int, ↓s_tuple_str, ↓s_tuple_lst, ↓s_tuple_tup, Bool.not_true, Bool.not_false, ↓i_l0, ↓i_l1, ↓i_l2, ↓i_l3, ↓i_l4, ↓i_l5, ↓i_l6, ↓i_l7, ↓w_hold, ↓w_cellG, gd0, gd1, beq_self, ↓w_forO, bel_non, bel_bl, bel_int, bel_str, flat_non, flat_bl, flat_int, flat_str, flat_lst, flat_tup, lents0, ↓lents1, ↓lent_v, ↓lent_s, reduceCtorEq, ↓m_index, decide_true, decide_false, ↓u_loop0, ↓w_mmd, ↓w_dctl, ↓b_str, ↓s_dict_dct, ↓s_int_dct, ↓s_bool_dct, ↓s_str_dct, ↓s_list_dct, ↓s_tuple_dct, hm, et, s_law_right 1 t m [] ht hm4]
        exact ⟨rest, _, _, _, e2, rfl⟩
    · rintro s ⟨rest, u1, u2, u3, e, rfl⟩
      simp only [↓w_leak, ↓w_lk, ↓w_int, ↓w_vF, ↓w_two, ↓w_var, ↓w_mv, ↓w_cst, ↓w_bin, ↓w_cmp, ↓w_sub, ↓w_neg, ↓w_chain, ↓w_and, ↓w_or, ↓w_not, ↓w_ife, ↓w_cut, ↓w_back, ↓w_tup, ↓w_lst, ↓w_rep, ↓w_call, ↓w_pcall, ↓w_b1, ↓w_b2, ↓w_lrange, ↓w_lrange1, ↓w_isi, ↓w_meth, ↓w_ext, ↓w_extO, ↓w_Es0, ↓w_Es1, ↓w_Ts0, ↓w_Ts1, ↓w_P0, ↓w_P1, ↓w_tand, ↓w_tor, ↓w_tnot, ↓w_tval, ↓w_all0, ↓w_all1, ↓w_iseq, ↓w_irange1, ↓w_irange, ↓w_ienum, ↓w_izip, ↓w_irev, ↓w_gname, ↓w_gtup, ↓w_gsub, ↓w_glob, ↓w_new, ↓w_dct0, ↓w_dget, ↓w_dgetd, ↓w_fld, ↓w_make, ↓w_mcall, ↓w_tcall, ↓w_tmcall, ↓w_fset, ↓w_ins, ↓w_gs0, ↓w_gs1, nx_nx, nx_nx0, ↓nx_rt, ↓nx_bk, ↓nx_ct, ↓w_ss0, ↓w_ss1, ↓w_set, ↓w_asg, ↓w_aug, ↓w_ex, ↓w_ret, ↓w_retN, ↓w_ite, ↓w_for, ↓w_wh, ↓w_pass, ↓w_brk, ↓w_cont, ↓Wp_ok, ↓WO_some, ↓v_add, ↓v_sub, ↓v_mul, ↓v_fdiv, ↓v_mod, ↓v_shl, ↓v_shr, ↓v_band, ↓v_bor, ↓v_bxor, ↓v_pow, ↓v_cat, ↓vi_add, ↓vi_sub, ↓vi_bor, ↓v_rep, ↓c_eqI, ↓c_neI, ↓c_lt, ↓c_le, ↓c_gt, ↓c_ge, ↓c_is, ↓c_isnt, ↓t_bl, ↓t_int, ↓t_lst, ↓t_tup, ↓l_non, ↓l_bl, ↓l_int, ↓l_str, ↓l_lst, ↓l_tup, ↓l_dct, ↓l_ins, ↓l_loc, ↓l_slot, ↓i_tup, ↓k_lst, ↓b_len, ↓b_lenT, ↓b_list, ↓b_listT, ↓b_tuple, ↓b_tupleT, ↓b_int, ↓b_intB, ↓b_abs, ↓b_all, ↓b_any, ↓b_sum, ↓b_min, ↓b_max, ↓m_append, ↓p_own, ↓p_loc, like_lst, like_dct, ↓m_pop0, ↓m_pop, ↓m_clear, ↓m_insert, ↓m_reverse, ↓c_inD, ↓c_notinD, ↓c_isB, ↓c_isntB, ↓i_dct, ↓g_dct, ↓b_lenD, ↓b_dict, key_int, key_str, o_lst, o_dct, mk_dct, mk_int, mk_non, mk_bl, mk_tup, mk_loc, storeB_rfl, storeB_app, mk_lst, pl_1_0, pl_2_0, pl_2_1, pl_3_0, pl_3_1, pl_3_2, pl_4_0, pl_4_1, pl_4_2, pl_4_3, pl_5_0, pl_5_1, pl_5_2, pl_5_3, pl_5_4, pl_6_0, pl_6_1, pl_6_2, pl_6_3, pl_6_4, pl_6_5, pl_7_0, pl_7_1, pl_7_2, pl_7_3, pl_7_4, pl_7_5, pl_7_6, pl_8_0, pl_8_1, pl_8_2, pl_8_3, pl_8_4, pl_8_5, pl_8_6, pl_8_7, pl_1_m1, pl_2_m1, pl_3_m1, pl_4_m1, pl_5_m1, pl_6_m1, pl_7_m1, pl_8_m1, WO_ite, WO_map, WO_bind, List.getElem?_cons_zero, List.getElem?_cons_succ, List.set_cons_zero, List.set_cons_succ, List.length_cons, List.length_nil, List.length_map, List.map_cons, List.map_nil, List.replicate, List.cons_append, List.nil_append, if_true, if_false, Bool.false_eq_true, decide_eq_true_eq, Bool.not_eq_true', decide_eq_false_iff_not, true_and, and_true, Nat.reduceAdd, Nat.reduceSub, Nat.reduceLT, Nat.reduceLeDiff, Int.reduceLT, Int.reduceLE, ite_not, ↓s_int_non, ↓s_int_bl, ↓s_int_int, ↓s_int_str, ↓s_int_lst, ↓s_int_tup, ↓s_bool_non, ↓s_bool_bl, ↓s_bool_int, ↓s_bool_str, ↓s_bool_lst, ↓s_bool_tup, ↓s_str_non, ↓s_str_bl, ↓s_str_int, ↓s_str_str, ↓s_str_lst, ↓s_str_tup, ↓s_list_non, ↓s_list_bl, ↓s_list_int, ↓s_list_str, ↓s_list_lst, ↓s_list_tup, ↓s_tuple_non, ↓s_tuple_bl, ↓s_tuple_int, ↓s_tuple_str, ↓s_tuple_lst, ↓s_tuple_tup, Bool.not_true, Bool.not_false, ↓i_l0, ↓i_l1, ↓i_l2, ↓i_l3, ↓i_l4, ↓i_l5, ↓i_l6, ↓i_l7, ↓w_hold, ↓w_cellG, gd0, gd1, beq_self, ↓w_forO, bel_non, bel_bl, bel_int, bel_str, flat_non, flat_bl, flat_int, flat_str, flat_lst, flat_tup, lents0, ↓lents1, ↓lent_v, ↓lent_s, reduceCtorEq, ↓m_index, decide_true, decide_false, ↓u_loop0, ↓w_mmd, ↓w_dctl, ↓b_str, ↓s_dict_dct, ↓s_int_dct, ↓s_bool_dct, ↓s_str_dct, ↓s_list_dct, ↓s_tuple_dct]

def topS (i : Nat) : Stmt := PySem.Challenge.pw_gatepapers_k08_is_table.main.body.getD i (.Pass ⟨0, 0, 0, 0⟩)
def ents : List Ent := [⟨d_is_whole, "is_whole", topS 1, ["thing"], ["thing"]⟩,
  ⟨d_is_table, "is_table", topS 3, ["thing", "many"], ["thing", "many"]⟩,
  ⟨d_law_odd, "_law_odd", topS 5, ["_law_number", "_law_deep", "_law_k"], ["_law_number"]⟩,
  ⟨d_law_thing, "_law_thing", topS 6, ["_law_cell", "_law_many", "_law_most", "_law_way", "_law_number", "_law_odd_here"], ["_law_cell", "_law_many"]⟩,
  ⟨d_law_due, "_law_due", topS 7, ["_law_thing_here", "_law_many"], ["_law_thing_here", "_law_many"]⟩,
  ⟨d_law_right, "_law_right", topS 8, ["_law_thing_here", "_law_many", "_law_found"], ["_law_thing_here", "_law_many"]⟩,
  ⟨d_law, "law", topS 9, ["_law_script", "_law_many", "_law_edges", "_law_cell", "_law_thing_here"], ["_law_script"]⟩]
theorem tab_eq : ents.map (·.df) = tab := rfl
def TB : Tb := ⟨[], [], [], [], []⟩
theorem ck : ents.all (entB TB (ents.map (·.df))) = true := by decide +kernel
theorem ba : BindAll ents := ⟨(fun _ _ _ _ _ _ us hl => match us, hl with | [_], _ => rfl), (fun _ _ _ _ _ _ us hl => match us, hl with | [_, _], _ => rfl), (fun _ _ _ _ _ _ us hl => match us, hl with | [_], _ => rfl), (fun _ _ _ _ _ _ us hl => match us, hl with | [_, _], _ => rfl), (fun _ _ _ _ _ _ us hl => match us, hl with | [_, _], _ => rfl), (fun _ _ _ _ _ _ us hl => match us, hl with | [_, _], _ => rfl), (fun _ _ _ _ _ _ us hl => match us, hl with | [_], _ => rfl), trivial⟩
theorem hFe : ∀ ns : List Int, ns.length ≤ 63 → ∃ S', callN (ents.map (·.df)) 5 6 [.lst (ns.map D.int)] [] = some (.bl true, S') := hF
theorem all_mk {K : PySem.W.Frag} {h : Heap} {mg : Str → Option Value} (X : K.In h) (G : h.Ns mainGlobals mg) {f0 f1 f2 f3 f4 f5 f6  : Addr} {od0 an0 od1 an1 od2 an2 od3 an3 od4 an4 od5 an5 od6 an6 : Option Addr} {sl0 sl1 sl2 sl3 sl4 sl5 sl6 : Array (Option Value)} {oc0 kV0 dc0 pm0 cd0 ct0 oc1 kV1 dc1 pm1 cd1 ct1 oc2 kV2 dc2 pm2 cd2 ct2 oc3 kV3 dc3 pm3 cd3 ct3 oc4 kV4 dc4 pm4 cd4 ct4 oc5 kV5 dc5 pm5 cd5 ct5 oc6 kV6 dc6 pm6 cd6 ct6 : Value}
    (a0 : PySem.W.nsIn K mainGlobals "is_whole" = some (some (.ref f0)))
    (l0 : K.lookup f0 = some ⟨oc0, od0, .func (PySem.W.fnOf "is_whole" "is_whole" (defArgs (topS 1)) (defBody (topS 1)) (defScope (topS 1)) .none kV0 dc0 pm0 an0 cd0 ct0), sl0⟩)
    (c0 : PySem.W.codeIn K cd0 "is_whole" = true)
    (k0 : PySem.W.keepIn K (.ref f0) = true)
    (a1 : PySem.W.nsIn K mainGlobals "is_table" = some (some (.ref f1)))
    (l1 : K.lookup f1 = some ⟨oc1, od1, .func (PySem.W.fnOf "is_table" "is_table" (defArgs (topS 3)) (defBody (topS 3)) (defScope (topS 3)) .none kV1 dc1 pm1 an1 cd1 ct1), sl1⟩)
    (c1 : PySem.W.codeIn K cd1 "is_table" = true)
    (k1 : PySem.W.keepIn K (.ref f1) = true)
    (a2 : PySem.W.nsIn K mainGlobals "_law_odd" = some (some (.ref f2)))
    (l2 : K.lookup f2 = some ⟨oc2, od2, .func (PySem.W.fnOf "_law_odd" "_law_odd" (defArgs (topS 5)) (defBody (topS 5)) (defScope (topS 5)) .none kV2 dc2 pm2 an2 cd2 ct2), sl2⟩)
    (c2 : PySem.W.codeIn K cd2 "_law_odd" = true)
    (k2 : PySem.W.keepIn K (.ref f2) = true)
    (a3 : PySem.W.nsIn K mainGlobals "_law_thing" = some (some (.ref f3)))
    (l3 : K.lookup f3 = some ⟨oc3, od3, .func (PySem.W.fnOf "_law_thing" "_law_thing" (defArgs (topS 6)) (defBody (topS 6)) (defScope (topS 6)) .none kV3 dc3 pm3 an3 cd3 ct3), sl3⟩)
    (c3 : PySem.W.codeIn K cd3 "_law_thing" = true)
    (k3 : PySem.W.keepIn K (.ref f3) = true)
    (a4 : PySem.W.nsIn K mainGlobals "_law_due" = some (some (.ref f4)))
    (l4 : K.lookup f4 = some ⟨oc4, od4, .func (PySem.W.fnOf "_law_due" "_law_due" (defArgs (topS 7)) (defBody (topS 7)) (defScope (topS 7)) .none kV4 dc4 pm4 an4 cd4 ct4), sl4⟩)
    (c4 : PySem.W.codeIn K cd4 "_law_due" = true)
    (k4 : PySem.W.keepIn K (.ref f4) = true)
    (a5 : PySem.W.nsIn K mainGlobals "_law_right" = some (some (.ref f5)))
    (l5 : K.lookup f5 = some ⟨oc5, od5, .func (PySem.W.fnOf "_law_right" "_law_right" (defArgs (topS 8)) (defBody (topS 8)) (defScope (topS 8)) .none kV5 dc5 pm5 an5 cd5 ct5), sl5⟩)
    (c5 : PySem.W.codeIn K cd5 "_law_right" = true)
    (k5 : PySem.W.keepIn K (.ref f5) = true)
    (a6 : PySem.W.nsIn K mainGlobals "law" = some (some (.ref f6)))
    (l6 : K.lookup f6 = some ⟨oc6, od6, .func (PySem.W.fnOf "law" "law" (defArgs (topS 9)) (defBody (topS 9)) (defScope (topS 9)) .none kV6 dc6 pm6 an6 cd6 ct6), sl6⟩)
    (c6 : PySem.W.codeIn K cd6 "law" = true)
    (k6 : PySem.W.keepIn K (.ref f6) = true)
    (z0 : PySem.W.nsIn K mainGlobals "len" = some none)
    (z1 : PySem.W.nsIn K mainGlobals "all" = some none)
    (z2 : PySem.W.nsIn K mainGlobals "any" = some none)
    (z3 : PySem.W.nsIn K mainGlobals "list" = some none)
    (z4 : PySem.W.nsIn K mainGlobals "sum" = some none)
    (z5 : PySem.W.nsIn K mainGlobals "int" = some none)
    (z6 : PySem.W.nsIn K mainGlobals "abs" = some none)
    (z7 : PySem.W.nsIn K mainGlobals "min" = some none)
    (z8 : PySem.W.nsIn K mainGlobals "max" = some none)
    (z9 : PySem.W.nsIn K mainGlobals "range" = some none)
    (z10 : PySem.W.nsIn K mainGlobals "isinstance" = some none)
    (z11 : PySem.W.nsIn K mainGlobals "bool" = some none)
    (z12 : PySem.W.nsIn K mainGlobals "str" = some none)
    (z13 : PySem.W.nsIn K mainGlobals "tuple" = some none)
    (z14 : PySem.W.nsIn K mainGlobals "enumerate" = some none)
    (z15 : PySem.W.nsIn K mainGlobals "zip" = some none)
    (z16 : PySem.W.nsIn K mainGlobals "reversed" = some none)
    (z17 : PySem.W.nsIn K mainGlobals "sorted" = some none)
    (z18 : PySem.W.nsIn K mainGlobals "dict" = some none) : ∃ C : Cfg, Known0 K mg TB ents := by
  let C : Cfg := ⟨fun k => [].getD k f0, aName TB.at_, fun k => [f0, f1, f2, f3, f4, f5, f6].getD k f0, aName_inj (by decide +kernel)⟩
  refine ⟨C, ?_⟩
  refine @Known0.mk C K mg TB ents (none_mk X G fun x hx => ?_) (fact_mk X G a0 l0 c0 k0 rfl (fact_mk X G a1 l1 c1 k1 rfl (fact_mk X G a2 l2 c2 k2 rfl (fact_mk X G a3 l3 c3 k3 rfl (fact_mk X G a4 l4 c4 k4 rfl (fact_mk X G a5 l5 c5 k5 rfl (fact_mk X G a6 l6 c6 k6 rfl trivial))))))) (fun i => rfl) (fun k x hk => ?_) (fun k f hk => ?_) (fun m k f hk => ?_) (fun x d hk => ?_)
  · simp only [bNames, List.mem_cons, List.not_mem_nil, or_false] at hx
    rcases hx with rfl | rfl | rfl | rfl | rfl | rfl | rfl | rfl | rfl | rfl | rfl | rfl | rfl | rfl | rfl | rfl | rfl | rfl | rfl <;> assumption
  · match k, hk with
    | _, hk => simp [TB] at hk
  · match k, hk with
    | _, hk => simp [TB] at hk
  · simp [TB] at hk
  · simp [TB] at hk
end K08
open PySem PySem.W PyProof.Rows
set_option maxHeartbeats 0 in
theorem PySem.Challenge.cw_gatepapers_k08_is_table_holds : PySem.Challenge.rw_gatepapers_k08_is_table.Holds := by
  w_on; o_law; k_head; (case hw => w_witness2)
  k_fill
  refine Gp.law_walk (l := PySem.Challenge.rw_gatepapers_k08_is_table) (n := 5) (T := K08.TB) (ents := K08.ents) (f := 6) (x := "_law_script") rfl rfl ⟨rfl, by decide, by decide⟩ rfl rfl rfl rfl rfl rfl K08.ba K08.ck K08.hFe (fun w h Y => PySem.W.kIn_of Y) ?F
  case F =>
    intro w mg h KX G
    refine' K08.all_mk KX G ?a0 ?l0 ?c0 ?k0 ?a1 ?l1 ?c1 ?k1 ?a2 ?l2 ?c2 ?k2 ?a3 ?l3 ?c3 ?k3 ?a4 ?l4 ?c4 ?k4 ?a5 ?l5 ?c5 ?k5 ?a6 ?l6 ?c6 ?k6 ?z0 ?z1 ?z2 ?z3 ?z4 ?z5 ?z6 ?z7 ?z8 ?z9 ?z10 ?z11 ?z12 ?z13 ?z14 ?z15 ?z16 ?z17 ?z18
    (case a0 => k_is); (case l0 => k_is); (case c0 => k_is); (case k0 => k_is); (case a1 => k_is); (case l1 => k_is); (case c1 => k_is); (case k1 => k_is); (case a2 => k_is); (case l2 => k_is); (case c2 => k_is); (case k2 => k_is); (case a3 => k_is); (case l3 => k_is); (case c3 => k_is); (case k3 => k_is); (case a4 => k_is); (case l4 => k_is); (case c4 => k_is); (case k4 => k_is); (case a5 => k_is); (case l5 => k_is); (case c5 => k_is); (case k5 => k_is); (case a6 => k_is); (case l6 => k_is); (case c6 => k_is); (case k6 => k_is); (case z0 => k_is); (case z1 => k_is); (case z2 => k_is); (case z3 => k_is); (case z4 => k_is); (case z5 => k_is); (case z6 => k_is); (case z7 => k_is); (case z8 => k_is); (case z9 => k_is); (case z10 => k_is); (case z11 => k_is); (case z12 => k_is); (case z13 => k_is); (case z14 => k_is); (case z15 => k_is); (case z16 => k_is); (case z17 => k_is); (case z18 => k_is)
