import PyProof.Rows.All
import Wide.All
import OpenK.AllK
import Wide.FinOn
import HandS.ForMost
import HandS.ForExc
import HandS.Lambda
import HandS.TupAny
import HandS.TupMul
import HandS.TupLe
import HandS.IsInst
import KE.DataMinMax
import KE.KTupSum
import HandS.CallSlots
import HandS.Conv
import HandS.ExcInit
import HandS.ExcSuper
import KE.KSuper
import KE.KExcSuper
import KE.RegKSuper
import HandS.ExcField
import HandS.Zip
import KE.GoesEnum
import KE.DataCmp
import KE.LtData
import HandS.SortInts
import HandS.Small
import HandS.Dict
import HandS.Deep
import HandS.EndOwn
import HandS.Iter
import HandS.Strs
import HandS.Text
import PySem.Challenge.RW_crosslaid_k24_whole_streaks_and_rows_tha
import KE.SortData
import KE.KNestM
section
set_option Elab.async false
set_option linter.all false
set_option maxRecDepth 100000
set_option maxHeartbeats 4000000
/-! # G: Python's data as plain Lean data, and readings that are plain functions -/
namespace G
open PySem PySem.Spec PyProof.Rows L2
/-! ### data -/
inductive D where
  | non
  | bl (b : Bool)
  | int (i : Int)
  | str (s : List Nat)
  /-- a tuple of texts that is known to have no dict of its own -/
  | nam (ss : List (List Nat))
  | tup (l : List D)
  | loc (n : Nat)
mutual
def D.beq : D → D → Bool
  | .non, .non => true
  | .bl a, .bl b => a == b
  | .int a, .int b => a == b
  | .str a, .str b => a == b
  | .nam a, .nam b => a == b
  | .tup a, .tup b => D.beqs a b
  | .loc a, .loc b => a == b
  | _, _ => false
def D.beqs : List D → List D → Bool
  | [], [] => true
  | x :: a, y :: b => D.beq x y && D.beqs a b
  | _, _ => false
end
mutual
theorem D.beq_iff : ∀ a b : D, D.beq a b = true ↔ a = b
  | .non, b => by cases b <;> simp [D.beq]
  | .bl a, b => by cases b <;> simp [D.beq]
  | .int a, b => by cases b <;> simp [D.beq]
  | .str a, b => by cases b <;> simp [D.beq]
  | .nam a, b => by cases b <;> simp [D.beq]
  | .loc a, b => by cases b <;> simp [D.beq]
  | .tup a, b => by
    cases b with
    | tup b => simp [D.beq, D.beqs_iff a b]
    | _ => simp [D.beq]
theorem D.beqs_iff : ∀ a b : List D, D.beqs a b = true ↔ a = b
  | [], b => by cases b <;> simp [D.beqs]
  | x :: a, b => by
    cases b with
    | nil => simp [D.beqs]
    | cons y b => simp [D.beqs, D.beq_iff x y, D.beqs_iff a b]
end
instance : DecidableEq D := fun a b => decidable_of_iff _ (D.beq_iff a b)
inductive MO where
  | lst (l : List D)
  | frz (l : List D)
  | dic (kvs : List (D × D))
  | ins (c : Nat) (fs : List (Str × D))
  | opq
  deriving DecidableEq
/-! no place from n on -/
mutual
def D.cl (n : Nat) : D → Bool
  | .loc m => decide (m < n)
  | .tup l => D.cls n l
  | _ => true
def D.cls (n : Nat) : List D → Bool
  | [] => true
  | x :: r => D.cl n x && D.cls n r
end
def MO.cl (n : Nat) : MO → Bool
  | .lst l => D.cls n l
  | .frz l => D.cls n l
  | .dic kvs => D.cls n (kvs.map (·.1)) && D.cls n (kvs.map (·.2))
  | .ins _ fs => D.cls n (fs.map (·.2))
  | .opq => true
abbrev Ms := List MO
abbrev Ro := List (Option D)
inductive Res (α : Type) where
  | ok (a : α)
  | ex (c : Nat) (d : D)
abbrev Ot (α : Type) := Option (Res α × Ms)
abbrev EM := Ro → Ms → Ot D
abbrev TM := Ro → Ms → Ot Bool
abbrev AM := Ro → Ms → Ot (List D)
inductive Fl where
  | nx
  | rt (d : D)
  | bk
  | ct
  | ex (c : Nat) (d : D)
abbrev SM := Ro → Ms → Option (Fl × Ro × Ms)
def bnd {α β : Type} (o : Ot α) (k : α → Ms → Ot β) : Ot β :=
  match o with
  | none => none
  | some (.ok a, M) => k a M
  | some (.ex c d, M) => some (.ex c d, M)
section
variable {α β : Type}
@[simp] theorem bnd_ok (a : α) (M : Ms) (k : α → Ms → Ot β) : bnd (some (.ok a, M)) k = k a M := rfl
@[simp] theorem bnd_ex (c : Nat) (d : D) (M : Ms) (k : α → Ms → Ot β) : bnd (some (.ex c d, M)) k = some (.ex c d, M) := rfl
@[simp] theorem bnd_none (k : α → Ms → Ot β) : bnd none k = none := rfl
end
/-! ### the world: the written part, tables of code, classes by number -/
structure Wd where
  K : PySem.W.Frag
  T : List (Addr × Str)
  cl : Nat → Addr
  xc : Nat → Addr
/-- an own exception's field, by the class's number -/
def xf : Nat → Str
  | 0 => "name"
  | 1 => "word"
  | _ => "line"
/-- is it a tuple's? -/
def _root_.L2.HO.isT : HO → Bool
  | .tup _ => true
  | .frz _ (.tup _) => true
  | _ => false
def sV (s : List Nat) : V := .str ⟨s.toArray⟩
def NamAt (K : PySem.W.Frag) (H : Hp) (a : Addr) (ss : List (List Nat)) : Prop := (∃ o, H a = some (.frz o (.tup (ss.map sV))) ∧ o.dict = none) ∨ (SqT K (fun _ => none) a (ss.map sV) ∧ ∃ o, K.lookup a = some o ∧ o.cls = .type "tuple" ∧ o.dict = none)
def TupAt (K : PySem.W.Frag) (H : Hp) (a : Addr) (vs : List V) : Prop := H a = some (.tup vs) ∨ SqT K (fun _ => none) a vs
mutual
def Rep (W : Wd) (φ : List Addr) (H : Hp) : D → V → Prop
  | .non, v => v = .non
  | .bl b, v => v = .bl b
  | .int i, v => v = .int i
  | .str s, v => v = .str ⟨s.toArray⟩
  | .nam ss, v => ∃ a, v = .ref a ∧ NamAt W.K H a ss
  | .tup l, v => ∃ a vs, v = .ref a ∧ TupAt W.K H a vs ∧ Reps W φ H l vs
  | .loc n, v => ∃ a, v = .ref a ∧ φ[n]? = some a
def Reps (W : Wd) (φ : List Addr) (H : Hp) : List D → List V → Prop
  | [], vs => vs = []
  | x :: l, vs => ∃ v r, vs = v :: r ∧ Rep W φ H x v ∧ Reps W φ H l r
end
/-- key of a dict -/
def KeyR : D → Key → Prop
  | .int i, k => k = .inl i
  | .str s, k => k = .inr ⟨s.toArray⟩
  | _, _ => False
def KvR (W : Wd) (φ : List Addr) (H : Hp) : List (D × D) → List (Key × V) → Prop
  | [], r => r = []
  | (k, d) :: l, r => ∃ k' v r', r = (k', v) :: r' ∧ KeyR k k' ∧ Rep W φ H d v ∧ KvR W φ H l r'
def FsR (W : Wd) (φ : List Addr) (H : Hp) : List (Str × D) → List (Str × V) → Prop
  | [], r => r = []
  | (k, d) :: l, r => ∃ v r', r = (k, v) :: r' ∧ Rep W φ H d v ∧ FsR W φ H l r'
def RepA (W : Wd) (φ : List Addr) (H : Hp) (a : Addr) : MO → Prop
  | .lst l => ∃ vs, H a = some (.lst vs) ∧ Reps W φ H l vs
  | .frz l => ∃ vs, ((∃ o, H a = some (.frz o (.lst vs))) ∨ SqL W.K (fun _ => none) a vs) ∧ Reps W φ H l vs
  | .dic l => ∃ vs, H a = some (.dK vs) ∧ KvR W φ H l vs
  | .ins c l => ∃ dx vs, H a = some (.ins (W.cl c) dx vs) ∧ FsR W φ H l vs
  | .opq => True
def MO.isFrz : MO → Bool
  | .frz _ => true
  | .opq => true
  | _ => false
structure HS (W : Wd) (φ : List Addr) (M : Ms) (H : Hp) : Prop where
  len : φ.length = M.length
  at_ : ∀ (n : Nat) (o : MO), M[n]? = some o → ∃ a, φ[n]? = some a ∧ RepA W φ H a o
  inj : ∀ (n m : Nat) (a : Addr) (o u : MO), φ[n]? = some a → φ[m]? = some a → M[n]? = some o → M[m]? = some u → o.isFrz = false → u.isFrz = false → n = m
  tabs : LamX.Tabs W.T H
def RoOk (W : Wd) (φ : List Addr) (H : Hp) : Ro → L2.St → Prop
  | [], σ => σ = []
  | x :: ρ, σ => ∃ v r, σ = v :: r ∧ (∀ d, x = some d → ∃ u, v = some u ∧ Rep W φ H d u) ∧ RoOk W φ H ρ r
structure Grow (φ φ' : List Addr) (H H' : Hp) : Prop where
  pre : ∃ ψ, φ' = φ ++ ψ
  tup : ∀ a u, HO.isT u = true → H a = some u → H' a = some u
theorem Grow.refl (φ : List Addr) (H : Hp) : Grow φ φ H H := ⟨⟨[], by simp⟩, fun _ _ _ h => h⟩
theorem Grow.trans {φ φ1 φ2 : List Addr} {H H1 H2 : Hp} (a : Grow φ φ1 H H1) (b : Grow φ1 φ2 H1 H2) : Grow φ φ2 H H2 := by
  obtain ⟨ψ, rfl⟩ := a.pre
  obtain ⟨χ, rfl⟩ := b.pre
  exact ⟨⟨ψ ++ χ, by simp⟩, fun x u hu h => b.tup x u hu (a.tup x u hu h)⟩
theorem Grow.at_ {φ φ' : List Addr} {H H' : Hp} (g : Grow φ φ' H H') {n : Nat} {a : Addr} (h : φ[n]? = some a) : φ'[n]? = some a := by
  obtain ⟨ψ, rfl⟩ := g.pre
  rw [List.getElem?_append_left (List.getElem?_eq_some_iff.mp h).1]
  exact h
theorem Grow.le {φ φ' : List Addr} {H H' : Hp} (g : Grow φ φ' H H') : φ.length ≤ φ'.length := by
  obtain ⟨ψ, rfl⟩ := g.pre
  simp
section
variable {W : Wd} {φ φ' : List Addr} {H H' : Hp}
theorem TupAt.sq {K : PySem.W.Frag} {a : Addr} {vs : List V} (h : TupAt K H a vs) : SqT K H a vs := by
  rcases h with h | (h | h)
  · exact .inl (.inl h)
  · rcases h with h | ⟨o, h⟩ <;> cases h
  · exact .inr h
theorem NamAt.sq {K : PySem.W.Frag} {a : Addr} {ss : List (List Nat)} (h : NamAt K H a ss) : SqT K H a (ss.map sV) := by
  rcases h with ⟨o, h, _⟩ | ⟨h, _⟩
  · exact .inl (.inr ⟨o, h⟩)
  · rcases h with (h | ⟨o, h⟩) | h
    · cases h
    · cases h
    · exact .inr h
theorem NamAt.grow {K : PySem.W.Frag} {a : Addr} {ss : List (List Nat)} (h : NamAt K H a ss) (g : Grow φ φ' H H') : NamAt K H' a ss := h.imp (fun ⟨o, h1, h2⟩ => ⟨o, g.tup a _ rfl h1, h2⟩) id
theorem reps_nam : ∀ ss : List (List Nat), Reps W φ H (ss.map D.str) (ss.map sV)
  | [] => rfl
  | s :: ss => ⟨_, _, rfl, rfl, reps_nam ss⟩
mutual
theorem Rep.grow (g : Grow φ φ' H H') : ∀ (d : D) (v : V), Rep W φ H d v → Rep W φ' H' d v
  | .non, _, h => h
  | .bl _, _, h => h
  | .int _, _, h => h
  | .str _, _, h => h
  | .nam _, v, h => by
    obtain ⟨a, e, t⟩ := h
    exact ⟨a, e, t.imp (fun ⟨o, h1, h2⟩ => ⟨o, g.tup a _ rfl h1, h2⟩) id⟩
  | .tup l, v, h => by
    obtain ⟨a, vs, e, t, r⟩ := h
    exact ⟨a, vs, e, t.imp (g.tup a _ rfl) id, Reps.grow g l vs r⟩
  | .loc n, v, h => by
    obtain ⟨a, e, t⟩ := h
    exact ⟨a, e, g.at_ t⟩
theorem Reps.grow (g : Grow φ φ' H H') : ∀ (l : List D) (vs : List V), Reps W φ H l vs → Reps W φ' H' l vs
  | [], _, h => h
  | x :: l, vs, h => by
    obtain ⟨v, r, e, a, b⟩ := h
    exact ⟨v, r, e, Rep.grow g x v a, Reps.grow g l r b⟩
end
theorem Reps.len : ∀ {l : List D} {vs : List V}, Reps W φ H l vs → vs.length = l.length
  | [], vs, h => by rw [show vs = [] from h]; rfl
  | x :: l, vs, h => by
    obtain ⟨v, r, rfl, _, b⟩ := h
    simp [Reps.len b]
theorem Reps.get : ∀ {l : List D} {vs : List V} {i : Nat} {d : D}, Reps W φ H l vs → l[i]? = some d → ∃ v, vs[i]? = some v ∧ Rep W φ H d v
  | [], _, _, _, _, e => by simp at e
  | x :: l, vs, 0, d, h, e => by
    obtain ⟨v, r, rfl, a, b⟩ := h
    simp at e
    subst e
    exact ⟨v, rfl, a⟩
  | x :: l, vs, i + 1, d, h, e => by
    obtain ⟨v, r, rfl, a, b⟩ := h
    obtain ⟨u, h1, h2⟩ := Reps.get (i := i) (d := d) b (by simpa using e)
    exact ⟨u, by simpa using h1, h2⟩
theorem Reps.get' : ∀ {l : List D} {vs : List V} {i : Nat} {v : V}, Reps W φ H l vs → vs[i]? = some v → ∃ d, l[i]? = some d ∧ Rep W φ H d v := fun {l vs i v} h e => by
  have hi := (List.getElem?_eq_some_iff.mp e).1
  rw [h.len] at hi
  obtain ⟨u, h1, h2⟩ := h.get (List.getElem?_eq_getElem hi)
  rw [e] at h1
  cases h1
  exact ⟨_, List.getElem?_eq_getElem hi, h2⟩
theorem Reps.append : ∀ {l k : List D} {vs us : List V}, Reps W φ H l vs → Reps W φ H k us → Reps W φ H (l ++ k) (vs ++ us)
  | [], _, _, _, h, h2 => by rw [show _ = [] from h]; exact h2
  | x :: l, k, vs, us, h, h2 => by
    obtain ⟨v, r, rfl, a, b⟩ := h
    exact ⟨v, r ++ us, rfl, a, b.append h2⟩
theorem Reps.take : ∀ {l : List D} {vs : List V} (n : Nat), Reps W φ H l vs → Reps W φ H (l.take n) (vs.take n)
  | [], _, n, h => by rw [show _ = [] from h]; simp [Reps]
  | x :: l, vs, 0, h => by simp [Reps]
  | x :: l, vs, n + 1, h => by
    obtain ⟨v, r, rfl, a, b⟩ := h
    exact ⟨v, r.take n, rfl, a, b.take n⟩
theorem Reps.drop : ∀ {l : List D} {vs : List V} (n : Nat), Reps W φ H l vs → Reps W φ H (l.drop n) (vs.drop n)
  | [], _, n, h => by rw [show _ = [] from h]; simp [Reps]
  | x :: l, vs, 0, h => by simpa using h
  | x :: l, vs, n + 1, h => by
    obtain ⟨v, r, rfl, a, b⟩ := h
    exact b.drop n
theorem Reps.set : ∀ {l : List D} {vs : List V} {d : D} {v : V} (i : Nat), Reps W φ H l vs → Rep W φ H d v → Reps W φ H (l.set i d) (vs.set i v)
  | [], _, _, _, i, h, _ => by rw [show _ = [] from h]; exact rfl
  | x :: l, vs, d, v, 0, h, q => by
    obtain ⟨u, r, rfl, a, b⟩ := h
    exact ⟨v, r, rfl, q, b⟩
  | x :: l, vs, d, v, i + 1, h, q => by
    obtain ⟨u, r, rfl, a, b⟩ := h
    exact ⟨u, r.set i v, rfl, a, b.set i q⟩
theorem Reps.reverse : ∀ {l : List D} {vs : List V}, Reps W φ H l vs → Reps W φ H l.reverse vs.reverse
  | [], _, h => by rw [show _ = [] from h]; exact rfl
  | x :: l, vs, h => by
    obtain ⟨u, r, rfl, a, b⟩ := h
    rw [List.reverse_cons, List.reverse_cons]
    exact b.reverse.append ⟨u, [], rfl, a, rfl⟩
theorem KvR.grow (g : Grow φ φ' H H') : ∀ (l : List (D × D)) (vs : List (Key × V)), KvR W φ H l vs → KvR W φ' H' l vs
  | [], _, h => h
  | (k, d) :: l, vs, h => by
    obtain ⟨k', v, r, e, a, b, c⟩ := h
    exact ⟨k', v, r, e, a, b.grow g, KvR.grow g l r c⟩
theorem FsR.grow (g : Grow φ φ' H H') : ∀ (l : List (Str × D)) (vs : List (Str × V)), FsR W φ H l vs → FsR W φ' H' l vs
  | [], _, h => h
  | (k, d) :: l, vs, h => by
    obtain ⟨v, r, e, a, c⟩ := h
    exact ⟨v, r, e, a.grow g, FsR.grow g l r c⟩
theorem FsR.get : ∀ {l : List (Str × D)} {vs : List (Str × V)} {f : Str} {d : D}, FsR W φ H l vs → l.lookup f = some d → ∃ v, vs.lookup f = some v ∧ Rep W φ H d v
  | [], _, _, _, _, e => by cases e
  | (k, x) :: l, vs, f, d, h, e => by
    obtain ⟨v, r, rfl, a, b⟩ := h
    rw [List.lookup_cons] at e ⊢
    cases hk : f == k with
    | true =>
      rw [hk] at e
      cases e
      exact ⟨v, rfl, a⟩
    | false =>
      rw [hk] at e
      exact b.get e
theorem FsR.none_ : ∀ {l : List (Str × D)} {vs : List (Str × V)} {f : Str}, FsR W φ H l vs → l.lookup f = none → vs.lookup f = none
  | [], vs, _, h, e => by rw [show vs = [] from h]; rfl
  | (k, x) :: l, vs, f, h, e => by
    obtain ⟨v, r, rfl, a, b⟩ := h
    rw [List.lookup_cons] at e ⊢
    cases hk : f == k with
    | true => rw [hk] at e; cases e
    | false =>
      rw [hk] at e
      exact b.none_ e
theorem RepA.grow (g : Grow φ φ' H H') {a : Addr} (ha : H' a = H a) : ∀ (o : MO), RepA W φ H a o → RepA W φ' H' a o
  | .lst l, ⟨vs, e, r⟩ => ⟨vs, ha.trans e, r.grow g⟩
  | .frz l, ⟨vs, e, r⟩ => ⟨vs, e.imp (fun ⟨o, z⟩ => ⟨o, ha.trans z⟩) id, r.grow g⟩
  | .dic l, ⟨vs, e, r⟩ => ⟨vs, ha.trans e, r.grow g⟩
  | .ins c l, ⟨dx, vs, e, r⟩ => ⟨dx, vs, ha.trans e, r.grow g⟩
  | .opq, _ => trivial
theorem RoOk.grow (g : Grow φ φ' H H') : ∀ {ρ : Ro} {σ : L2.St}, RoOk W φ H ρ σ → RoOk W φ' H' ρ σ
  | [], _, h => h
  | x :: ρ, σ, h => by
    obtain ⟨v, r, e, a, b⟩ := h
    exact ⟨v, r, e, fun d hd => by
      obtain ⟨u, e1, e2⟩ := a d hd
      exact ⟨u, e1, e2.grow g⟩, b.grow g⟩
theorem RoOk.get : ∀ {ρ : Ro} {σ : L2.St} {i : Nat} {d : D}, RoOk W φ H ρ σ → ρ[i]? = some (some d) → ∃ v, σ[i]? = some (some v) ∧ Rep W φ H d v
  | [], _, _, _, _, e => by simp at e
  | x :: ρ, σ, 0, d, h, e => by
    obtain ⟨v, r, rfl, a, b⟩ := h
    obtain ⟨u, e1, e2⟩ := a d (by simpa using e)
    subst e1
    exact ⟨u, rfl, e2⟩
  | x :: ρ, σ, i + 1, d, h, e => by
    obtain ⟨v, r, rfl, a, b⟩ := h
    obtain ⟨u, e1, e2⟩ := RoOk.get (i := i) (d := d) b (by simpa using e)
    exact ⟨u, by simpa using e1, e2⟩
theorem RoOk.set : ∀ {ρ : Ro} {σ : L2.St} (i : Nat) {d : D} {v : V}, RoOk W φ H ρ σ → Rep W φ H d v → RoOk W φ H (ρ.set i (some d)) (σ.set i (some v))
  | [], σ, i, d, v, h, q => by rw [show σ = [] from h]; exact rfl
  | x :: ρ, σ, 0, d, v, h, q => by
    obtain ⟨u, r, rfl, a, b⟩ := h
    exact ⟨some v, r, rfl, fun d' e => ⟨v, rfl, by cases e; exact q⟩, b⟩
  | x :: ρ, σ, i + 1, d, v, h, q => by
    obtain ⟨u, r, rfl, a, b⟩ := h
    exact ⟨u, r.set i (some v), rfl, a, b.set i q⟩
theorem RoOk.len : ∀ {ρ : Ro} {σ : L2.St}, RoOk W φ H ρ σ → σ.length = ρ.length
  | [], σ, h => by rw [show σ = [] from h]; rfl
  | x :: ρ, σ, h => by
    obtain ⟨v, r, rfl, a, b⟩ := h
    simp [b.len]
/-- some slots are forgotten -/
theorem RoOk.less : ∀ {ρ ρ' : Ro} {σ : L2.St}, RoOk W φ H ρ σ → ρ'.length = ρ.length → (∀ (i : Nat) (d : D), ρ'[i]? = some (some d) → ρ[i]? = some (some d)) → RoOk W φ H ρ' σ
  | [], ρ', σ, h, hl, _ => by
    have e : ρ' = [] := List.length_eq_zero_iff.mp hl
    subst e
    exact h
  | x :: ρ, ρ', σ, h, hl, hi => by
    obtain ⟨v, r, rfl, a, b⟩ := h
    cases ρ' with
    | nil => simp at hl
    | cons y ρ' =>
      refine ⟨v, r, rfl, fun d e => a d ?_, b.less (by simpa using hl) fun i d e => by simpa using hi (i + 1) d (by simpa using e)⟩
      subst e
      simpa using hi 0 d rfl
theorem RoOk.wipe {ρ : Ro} {σ : L2.St} (h : RoOk W φ H ρ σ) (i : Nat) : RoOk W φ H (ρ.set i none) (σ.set i none) := by
  induction ρ generalizing σ i with
  | nil => rw [show σ = [] from h]; exact rfl
  | cons x ρ ih =>
    obtain ⟨v, r, rfl, a, b⟩ := h
    cases i with
    | zero => exact ⟨none, r, rfl, (fun d e => nomatch e), b⟩
    | succ i => exact ⟨v, r.set i none, rfl, a, ih b i⟩
theorem RoOk.start : ∀ {ds : List D} {vs : List V} (n : Nat), Reps W φ H ds vs → RoOk W φ H (ds.map some ++ List.replicate n none) (vs.map some ++ List.replicate n none)
  | [], vs, n, h => by
    rw [show vs = [] from h]
    show RoOk W φ H (List.replicate n none) (List.replicate n none)
    induction n with
    | zero => exact rfl
    | succ n ih => exact ⟨none, _, List.replicate_succ, (fun d e => nomatch e), ih⟩
  | x :: l, vs, n, h => by
    obtain ⟨v, r, rfl, a, b⟩ := h
    exact ⟨some v, _, rfl, fun d e => ⟨v, rfl, by cases e; exact a⟩, RoOk.start n b⟩
/-! ### the heap changes -/
theorem upd_tup {a : Addr} {ho : HO} (h : ∀ u, H a = some u → HO.isT u = false) : ∀ b u, HO.isT u = true → H b = some u → upd H a ho b = some u := fun b u hu e => by
  have hb : b ≠ a := fun z => by rw [h u (by rw [← z]; exact e)] at hu; cases hu
  rw [upd_ne hb]
  exact e
theorem Grow.upd {a : Addr} {ho : HO} (h : ∀ u, H a = some u → HO.isT u = false) : Grow φ φ H (upd H a ho) := ⟨⟨[], by simp⟩, upd_tup h⟩
theorem tabs_upd {T : List (Addr × Str)} {a : Addr} {ho : HO} (t : LamX.Tabs T H) (h1 : ∀ ps, H a ≠ some (.tbl ps)) (h2 : ∀ q, H a ≠ some (LamX.CodeO a q)) : LamX.Tabs T (upd H a ho) := fun p hp => by
  obtain ⟨ps, e1, e2, e3⟩ := t p hp
  have ne : p.1 ≠ a := fun z => h1 ps (by rw [← z]; exact e1)
  refine ⟨ps, (upd_ne ne).trans e1, e2, fun pos cv hc => ?_⟩
  obtain ⟨c, ec, hcd⟩ := e3 pos cv hc
  have ne2 : c ≠ a := fun z => h2 p.2 (by rw [← z]; exact hcd)
  exact ⟨c, ec, (upd_ne ne2).trans hcd⟩
theorem HS.lt {M : Ms} (h : HS W φ M H) {n : Nat} {o : MO} (e : M[n]? = some o) : n < φ.length := by
  rw [h.len]
  exact (List.getElem?_eq_some_iff.mp e).1
theorem codeO_lst {c : Addr} {q : Str} {xs : List V} : LamX.CodeO c q ≠ .lst xs := fun z => by
  unfold LamX.CodeO at z
  cases z
theorem codeO_frz {c : Addr} {q : Str} {o : Obj} {xs : HO} : LamX.CodeO c q ≠ .frz o xs := fun z => by
  unfold LamX.CodeO at z
  cases z
theorem codeO_dK {c : Addr} {q : Str} {xs : List (Key × V)} : LamX.CodeO c q ≠ .dK xs := fun z => by
  unfold LamX.CodeO at z
  cases z
theorem codeO_ins {c : Addr} {q : Str} {C dx : Addr} {xs : List (Str × V)} : LamX.CodeO c q ≠ .ins C dx xs := fun z => by
  unfold LamX.CodeO at z
  cases z
/-- what stands at a tracked mutable object is no tuple, no table, no code -/
theorem RepA.kind {a : Addr} {o : MO} (h : RepA W φ H a o) (hf : o.isFrz = false) : ∃ ho, H a = some ho ∧ HO.isT ho = false ∧ (∀ ps, ho ≠ .tbl ps) ∧ (∀ q, ho ≠ LamX.CodeO a q) ∧ (∀ ob u, ho ≠ .frz ob u) ∧ (∀ x, ho ≠ .own x) := by
  cases o with
  | lst l =>
    obtain ⟨vs, e, _⟩ := h
    exact ⟨_, e, rfl, (fun _ z => by cases z), fun _ z => codeO_lst z.symm, (fun _ _ z => by cases z), (fun _ z => by cases z)⟩
  | dic l =>
    obtain ⟨vs, e, _⟩ := h
    exact ⟨_, e, rfl, (fun _ z => by cases z), fun _ z => codeO_dK z.symm, (fun _ _ z => by cases z), (fun _ z => by cases z)⟩
  | ins c l =>
    obtain ⟨dx, vs, e, _⟩ := h
    exact ⟨_, e, rfl, (fun _ z => by cases z), fun _ z => codeO_ins z.symm, (fun _ _ z => by cases z), (fun _ z => by cases z)⟩
  | frz l => cases hf
  | opq => cases hf
/-- an object that M does not tell is laid -/
theorem HS.laid {M : Ms} (h : HS W φ M H) {p : Addr} {ho : HO} (n : H p = none) : HS W φ M (upd H p ho) where
  len := h.len
  at_ := fun m o e => by
    obtain ⟨a, ea, r⟩ := h.at_ m o e
    have g : Grow φ φ H (upd H p ho) := Grow.upd fun xs z => by rw [n] at z; cases z
    refine ⟨a, ea, ?_⟩
    by_cases hp : a = p
    · subst hp
      cases o with
      | frz l =>
        obtain ⟨vs, e1, e2⟩ := r
        refine ⟨vs, .inr (e1.resolve_left fun ⟨o, z⟩ => by rw [n] at z; cases z), e2.grow g⟩
      | lst l => obtain ⟨vs, e1, e2⟩ := r; rw [n] at e1; cases e1
      | dic l => obtain ⟨vs, e1, e2⟩ := r; rw [n] at e1; cases e1
      | ins c l => obtain ⟨dx, vs, e1, e2⟩ := r; rw [n] at e1; cases e1
      | opq => trivial
    · exact r.grow g (upd_ne hp)
  inj := h.inj
  tabs := tabs_upd h.tabs (fun ps z => by rw [n] at z; cases z) (fun q z => by rw [n] at z; cases z)
/-- a new mutable object -/
theorem HS.new {M : Ms} (h : HS W φ M H) {p : Addr} {ho : HO} {o : MO} (n : H p = none) (ro : RepA W (φ ++ [p]) (upd H p ho) p o) : HS W (φ ++ [p]) (M ++ [o]) (upd H p ho) := by
  have h1 := h.laid (ho := ho) n
  refine ⟨by simp [h.len], fun m u e => ?_, fun m k a u v e1 e2 e3 e4 f1 f2 => ?_, h1.tabs⟩
  · by_cases hm : m < M.length
    · rw [List.getElem?_append_left hm] at e
      obtain ⟨a, ea, r⟩ := h1.at_ m u e
      exact ⟨a, by rw [List.getElem?_append_left (by rw [h.len]; exact hm)]; exact ea, r.grow ⟨⟨[p], rfl⟩, fun _ _ _ z => z⟩ rfl⟩
    · rw [List.getElem?_append_right (by omega)] at e
      have em : m = M.length := by
        have := (List.getElem?_eq_some_iff.mp e).1
        simp at this
        omega
      subst em
      simp at e
      subst e
      exact ⟨p, by rw [← h.len]; simp, ro⟩
  · have key : ∀ {j : Nat} {b : Addr} {w : MO}, (φ ++ [p])[j]? = some b → (M ++ [o])[j]? = some w → w.isFrz = false → (j < M.length ∧ φ[j]? = some b ∧ M[j]? = some w ∧ b ≠ p) ∨ (j = M.length ∧ b = p) := fun {j b w} x1 x2 x3 => by
      by_cases hj : j < M.length
      · rw [List.getElem?_append_left (by rw [h.len]; exact hj)] at x1
        rw [List.getElem?_append_left hj] at x2
        refine .inl ⟨hj, x1, x2, fun z => ?_⟩
        obtain ⟨a', ea, r⟩ := h.at_ j w x2
        rw [x1] at ea
        cases ea
        obtain ⟨ho', e', _⟩ := r.kind x3
        rw [z, n] at e'
        cases e'
      · have hl := h.len
        rw [List.getElem?_append_right (by omega)] at x1
        have h2 := (List.getElem?_eq_some_iff.mp x1).1
        simp at h2
        have ej : j - φ.length = 0 := by omega
        refine .inr ⟨by omega, ?_⟩
        rw [ej] at x1
        simpa using x1.symm
    rcases key e1 e3 f1 with ⟨a1, a2, a3, a4⟩ | ⟨a1, a2⟩ <;> rcases key e2 e4 f2 with ⟨b1, b2, b3, b4⟩ | ⟨b1, b2⟩
    · exact h.inj m k a u v a2 b2 a3 b3 f1 f2
    · exact absurd b2 a4
    · exact absurd a2 b4
    · omega
/-- a mutable object is written -/
theorem HS.wr {M : Ms} (h : HS W φ M H) {m : Nat} {a : Addr} {u o : MO} {ho : HO} (e : M[m]? = some u) (hu : u.isFrz = false) (hf : o.isFrz = false) (ea : φ[m]? = some a) (ro : RepA W φ (upd H a ho) a o) : HS W φ (M.set m o) (upd H a ho) := by
  obtain ⟨a', ea', r⟩ := h.at_ m u e
  rw [ea] at ea'
  cases ea'
  obtain ⟨h0, e0, k1, k2, k3, k4, k5⟩ := r.kind hu
  have g : Grow φ φ H (upd H a ho) := Grow.upd fun xs z => by rw [e0] at z; cases z; exact k1
  refine ⟨by simp [h.len], fun j w ej => ?_, fun j k b w x e1 e2 e3 e4 f1 f2 => ?_, tabs_upd h.tabs (fun ps z => by rw [e0] at z; exact k2 ps (Option.some.inj z)) (fun q z => by rw [e0] at z; exact k3 q (Option.some.inj z))⟩
  · by_cases hj : j = m
    · subst hj
      have hl := (List.getElem?_eq_some_iff.mp e).1
      rw [List.getElem?_set_self hl] at ej
      cases ej
      exact ⟨a, ea, ro⟩
    · rw [List.getElem?_set_ne (Ne.symm hj)] at ej
      obtain ⟨b, eb, rb⟩ := h.at_ j w ej
      refine ⟨b, eb, ?_⟩
      by_cases hb : b = a
      · subst hb
        cases hw : w.isFrz with
        | false => exact absurd (h.inj j m b w u eb ea ej e hw hu) hj
        | true =>
          cases w with
          | frz l =>
            obtain ⟨vs, e1, e2⟩ := rb
            exact ⟨vs, .inr (e1.resolve_left fun ⟨o, z⟩ => by rw [e0] at z; exact k4 o _ (Option.some.inj z)), e2.grow g⟩
          | lst l => cases hw
          | dic l => cases hw
          | ins c l => cases hw
          | opq => trivial
      · exact rb.grow g (upd_ne hb)
  · have key : ∀ {i : Nat} {w : MO}, (M.set m o)[i]? = some w → w.isFrz = false → ∃ w' : MO, M[i]? = some w' ∧ w'.isFrz = false := fun {i w} x1 x2 => by
      by_cases hi : i = m
      · subst hi
        exact ⟨u, e, hu⟩
      · rw [List.getElem?_set_ne (Ne.symm hi)] at x1
        exact ⟨w, x1, x2⟩
    obtain ⟨w1, y1, y2⟩ := key e3 f1
    obtain ⟨w2, y3, y4⟩ := key e4 f2
    exact h.inj j k b w1 w2 e1 e2 y1 y3 y2 y4
end
end G
end
section
set_option Elab.async false
set_option linter.all false
set_option maxRecDepth 100000
set_option maxHeartbeats 4000000
/-! # judgements: a piece of text does what a plain function says -/
namespace G
open PySem PySem.Spec PyProof.Rows L2
def Out {α : Type} (W : Wd) (w : WX) (σ : L2.St) (φ : List Addr) (H : Hp) (o : Ot α) (Q : α → Ms → List Addr → Hp → Prop) : Prop :=
  ∃ r M', o = some (r, M') ∧ ∀ φ' H', Grow φ φ' H H' → HS W φ' M' H' → match r with
    | .ok d => Q d M' φ' H'
    | .ex c d => ∀ a v, H' a = some (.xd [(xf c, v)]) → Rep W φ' H' d v → w (.ref (W.xc c)) (some a) σ H'
section
variable {α β : Type} {W : Wd} {w : WX} {σ : L2.St} {φ : List Addr} {H : Hp} {o : Ot α}
theorem Out.imp {Q Q' : α → Ms → List Addr → Hp → Prop} (h : Out W w σ φ H o Q) (k : ∀ d M φ' H', o = some (.ok d, M) → Grow φ φ' H H' → HS W φ' M H' → Q d M φ' H' → Q' d M φ' H') : Out W w σ φ H o Q' := by
  obtain ⟨r, M', e, q⟩ := h
  refine ⟨r, M', e, fun φ' H' g hs => ?_⟩
  have q' := q φ' H' g hs
  cases r with
  | ok d => exact k d M' φ' H' e g hs q'
  | ex c d => exact q'
theorem Out.bnd {k : α → Ms → Ot β} {Q : β → Ms → List Addr → Hp → Prop} (h : Out W w σ φ H (G.bnd o k) Q) : Out W w σ φ H o fun d M φ1 H1 => Out W w σ φ1 H1 (k d M) Q := by
  obtain ⟨r, M', e, q⟩ := h
  cases o with
  | none => cases e
  | some p =>
    obtain ⟨r1, M1⟩ := p
    cases r1 with
    | ok d =>
      refine ⟨.ok d, M1, rfl, fun φ1 H1 g1 h1 => ⟨r, M', e, fun φ2 H2 g2 h2 => q φ2 H2 (g1.trans g2) h2⟩⟩
    | ex c d =>
      cases e
      exact ⟨.ex c d, _, rfl, fun φ1 H1 g1 h1 => q φ1 H1 g1 h1⟩
theorem Out.now {d : α} {M : Ms} {Q : α → Ms → List Addr → Hp → Prop} (hs : HS W φ M H) (h : Out W w σ φ H (some (.ok d, M)) Q) : Q d M φ H := by
  obtain ⟨r, M', e, q⟩ := h
  cases e
  exact q φ H (.refl φ H) hs
/-- what is asked behind a change of the heap -/
theorem Out.then_ {d : α} {M : Ms} {φ' : List Addr} {H' : Hp} {Q : α → Ms → List Addr → Hp → Prop} (h : Out W w σ φ H (some (.ok d, M)) Q) (g : Grow φ φ' H H') (hs : HS W φ' M H') : Q d M φ' H' := by
  obtain ⟨r, M', e, q⟩ := h
  cases e
  exact q φ' H' g hs
theorem Out.pre {φ1 : List Addr} {H1 : Hp} {Q : α → Ms → List Addr → Hp → Prop} (h : Out W w σ φ H o Q) (g : Grow φ φ1 H H1) : Out W w σ φ1 H1 o Q := by
  obtain ⟨r, M', e, q⟩ := h
  exact ⟨r, M', e, fun φ' H' g' hs => q φ' H' (g.trans g') hs⟩
end
def toE (W : Wd) (w : WX) (m : EM) : TE := fun σ H Q => ∃ φ ρ M, HS W φ M H ∧ RoOk W φ H ρ σ ∧ Out W w σ φ H (m ρ M) fun d _ φ' H' => ∀ v, Rep W φ' H' d v → Q v H'
def toT (W : Wd) (w : WX) (m : TM) : TT := fun σ H Q => ∃ φ ρ M, HS W φ M H ∧ RoOk W φ H ρ σ ∧ Out W w σ φ H (m ρ M) fun b _ _ H' => Q b H'
def toA (W : Wd) (w : WX) (m : AM) : TA := fun σ H Q => ∃ φ ρ M, HS W φ M H ∧ RoOk W φ H ρ σ ∧ Out W w σ φ H (m ρ M) fun d _ φ' H' => ∀ v, Reps W φ' H' d v → Q v H'
def toS (W : Wd) (w : WX) (m : SM) : TS := fun D σ H => ∃ φ ρ M, HS W φ M H ∧ RoOk W φ H ρ σ ∧ ∃ f ρ' M', m ρ M = some (f, ρ', M') ∧ ∀ φ' σ' H', Grow φ φ' H H' → HS W φ' M' H' → RoOk W φ' H' ρ' σ' → match f with
  | .nx => D.nx σ' H'
  | .rt d => ∀ v, Rep W φ' H' d v → D.rt v H'
  | .bk => D.bk σ' H'
  | .ct => D.ct σ' H'
  | .ex c d => ∀ a v, H' a = some (.xd [(xf c, v)]) → Rep W φ' H' d v → w (.ref (W.xc c)) (some a) σ' H'
abbrev EX (X : Cx) (W : Wd) (w : WX) (e : Expr) (m : EM) : Prop := PE X e (toE W w m)
abbrev TX (X : Cx) (W : Wd) (w : WX) (e : Expr) (m : TM) : Prop := PT X e (toT W w m)
abbrev BX (X : Cx) (W : Wd) (w : WX) (e : Expr) (m : TM) : Prop := PW X e (toT W w m)
abbrev AX (X : Cx) (W : Wd) (w : WX) (es : List Expr) (m : AM) : Prop := PA X es (toA W w m)
abbrev SX (X : Cx) (W : Wd) (w : WX) (s : Stmt) (m : SM) : Prop := PS X s (toS W w m)
abbrev SSX (X : Cx) (W : Wd) (w : WX) (s : List Stmt) (m : SM) : Prop := PSs X s (toS W w m)
section
variable {X : Cx}
theorem _root_.L2.PE.less {e : Expr} {t t' : TE} (h : PE X e t) (k : ∀ σ H Q, t' σ H Q → t σ H Q) : PE X e t' := ⟨fun p s σ H Q I q => h.run p s σ H Q I (k σ H Q q)⟩
theorem _root_.L2.PT.less {e : Expr} {t t' : TT} (h : PT X e t) (k : ∀ σ H Q, t' σ H Q → t σ H Q) : PT X e t' := ⟨fun p s σ H Q I q => h.run p s σ H Q I (k σ H Q q)⟩
theorem _root_.L2.PW.less {e : Expr} {t t' : TT} (h : PW X e t) (k : ∀ σ H Q, t' σ H Q → t σ H Q) : PW X e t' := ⟨fun wh p s σ H Q I q => h.run wh p s σ H Q I (k σ H Q q)⟩
theorem _root_.L2.PA.less {e : List Expr} {t t' : TA} (h : PA X e t) (k : ∀ σ H Q, t' σ H Q → t σ H Q) : PA X e t' := ⟨fun pos p s σ H Q I q => h.run pos p s σ H Q I (k σ H Q q)⟩
theorem _root_.L2.PS.less {e : Stmt} {t t' : TS} (h : PS X e t) (k : ∀ D σ H, t' D σ H → t D σ H) : PS X e t' := ⟨fun p s σ H D I q => h.run p s σ H D I (k D σ H q)⟩
theorem _root_.L2.PSs.less {e : List Stmt} {t t' : TS} (h : PSs X e t) (k : ∀ D σ H, t' D σ H → t D σ H) : PSs X e t' := ⟨fun p s σ H D I q => h.run p s σ H D I (k D σ H q)⟩
end
/-! ### names, constants -/
def eVar (i : Nat) : EM := fun ρ M => match ρ[i]? with
  | some (some d) => some (.ok d, M)
  | _ => none
def eC (d : D) : EM := fun _ M => some (.ok d, M)
section
variable {X : Cx} {W : Wd} {w : WX} {pos : Pos} {a b c e : Expr} {es : List Expr} {ma mb mc me : EM} {ta tb : TM}
theorem x_var (i : Nat) {x : Str} (hN : X.N[i]? = some x := by rfl) (hv : Vis X.env.scope x := by first | exact Or.inl rfl | exact Or.inr (Or.inl rfl) | exact Or.inr (Or.inr rfl)) (hd : (x == ("__debug__" : Str)) = false := by decide)
    (hcd : (x == ("__classdict__" : Str)) = false := by decide) : EX X W w (.Name x pos) (eVar i) := (pe_var hN hv hd hcd).less fun σ H Q ⟨φ, ρ, M, hs, ro, out⟩ => by
  unfold eVar at out
  cases h : ρ[i]? with
  | none => rw [h] at out; obtain ⟨_, _, e, _⟩ := out; cases e
  | some od =>
    cases od with
    | none => rw [h] at out; obtain ⟨_, _, e, _⟩ := out; cases e
    | some d =>
      rw [h] at out
      obtain ⟨v, e, r⟩ := ro.get h
      exact ⟨v, e, out.now hs v r⟩
theorem x_c {d : D} {v : V} (h : PE X e (tC v)) (r : ∀ φ H, Rep W φ H d v) : EX X W w e (eC d) := h.less fun σ H Q ⟨φ, ρ, M, hs, ro, out⟩ => out.now hs v (r φ H)
theorem x_int {i : Int} {j : Nat} : EX X W w (.Constant (.int i) j pos) (eC (.int i)) := x_c pe_int fun _ _ => rfl
theorem x_bl {i : Bool} {j : Nat} : EX X W w (.Constant (.bool i) j pos) (eC (.bl i)) := x_c pe_bl fun _ _ => rfl
theorem x_non {j : Nat} : EX X W w (.Constant .none j pos) (eC .non) := x_c pe_non fun _ _ => rfl
theorem x_str {s : Str} {j : Nat} : EX X W w (.Constant (.str s) j pos) (eC (.str s.cps.toList)) := x_c pe_str fun _ _ => by
  show V.str s = V.str ⟨s.cps.toList.toArray⟩
  rw [Array.toArray_toList]
/-- a module's constant -/
theorem x_gint {x : Str} {i : Int} (hg : Gl X x) (hm : ∃ t, X.mg x = some (.int i t)) (hd : (x == ("__debug__" : Str)) = false := by decide) : EX X W w (.Name x pos) (eC (.int i)) := by
  obtain ⟨t, hm⟩ := hm
  exact x_c (pe_glob (v := .int i) hg hm ⟨t, rfl⟩ hd) fun _ _ => rfl
theorem x_gstr {x : Str} {s : Str} (hg : Gl X x) (hm : ∃ t, X.mg x = some (.str s t)) (hd : (x == ("__debug__" : Str)) = false := by decide) : EX X W w (.Name x pos) (eC (.str s.cps.toList)) := by
  obtain ⟨t, hm⟩ := hm
  exact x_c (pe_glob (v := .str s) hg hm ⟨t, rfl⟩ hd) fun _ _ => by
    show V.str s = V.str ⟨s.cps.toList.toArray⟩
    rw [Array.toArray_toList]
/-! ### operators -/
abbrev DOp := D → D → Ms → Ot D
def eOp (f : DOp) (ma mb : EM) : EM := fun ρ M => bnd (ma ρ M) fun x M1 => bnd (mb ρ M1) fun y M2 => f x y M2
/-- the rule r does what f says -/
def OpD (W : Wd) (r : R2) (f : DOp) : Prop := ∀ (w : WX) (σ : L2.St) (φ : List Addr) (H : Hp) (M : Ms) (x y : D) (u v : V) (Q : VK), HS W φ M H → Rep W φ H x u → Rep W φ H y v →
  (Out W w σ φ H (f x y M) fun d _ φ' H' => ∀ v, Rep W φ' H' d v → Q v H') → r u v H Q
theorem op_run {r : R2} {f : DOp} (ho : OpD W r f) : ∀ (σ : L2.St) (H : Hp) (Q : VK), toE W w (eOp f ma mb) σ H Q → tOp r (toE W w ma) (toE W w mb) σ H Q := fun σ H Q ⟨φ, ρ, M, hs, ro, out⟩ =>
  ⟨φ, ρ, M, hs, ro, (Out.bnd out).imp fun x M1 φ1 H1 _ g1 h1 out1 u ru => ⟨φ1, ρ, M1, h1, ro.grow g1, (Out.bnd out1).imp fun y M2 φ2 H2 _ g2 h2 out2 v rv => ho w σ φ2 H2 M2 x y u v Q h2 (Rep.grow g2 _ _ ru) rv out2⟩⟩
theorem x_op {op : Operator} {r : R2} {f : DOp} (hr : OpR X (binaryOp op) r) (ho : OpD W r f) (ha : EX X W w a ma) (hb : EX X W w b mb) : EX X W w (.BinOp a op b pos) (eOp f ma mb) := (pe_op hr ha hb).less (op_run ho)
theorem x_cmp {op : CmpOp} {r : R2} {f : DOp} (hr : OpR X (compareOp op) r) (ho : OpD W r f) (ha : EX X W w a ma) (hb : EX X W w b mb) (hm : behindInMarks op b = false) : EX X W w (.Compare a [op] [b] pos) (eOp f ma mb) := (pe_cmpR hr ha hb hm).less (op_run ho)
/-- a value as a test -/
def tV (m : EM) : TM := fun ρ M => bnd (m ρ M) fun x M1 => match x with
  | .bl b => some (.ok b, M1)
  | _ => none
theorem tv_run {t : TE} (h : ∀ σ H Q, toE W w ma σ H Q → t σ H Q) : ∀ (σ : L2.St) (H : Hp) (Q : Bool → Hp → Prop), toT W w (tV ma) σ H Q → t σ H fun x H1 => ∃ c, x = .bl c ∧ Q c H1 := fun σ H Q ⟨φ, ρ, M, hs, ro, out⟩ =>
  h σ H _ ⟨φ, ρ, M, hs, ro, (Out.bnd out).imp fun x M1 φ1 H1 _ g1 h1 out1 u ru => by
    cases x with
    | bl b => exact ⟨b, ru, out1.now h1⟩
    | _ => obtain ⟨_, _, e, _⟩ := out1; cases e⟩
theorem t_cmp {op : CmpOp} {r : R2} {f : DOp} (hr : OpR X (compareOp op) r) (ho : OpD W r f) (ha : EX X W w a ma) (hb : EX X W w b mb) (hm : behindInMarks op b = false) : TX X W w (.Compare a [op] [b] pos) (tV (eOp f ma mb)) :=
  (pt_cmpR hr ha hb hm).less (tv_run (op_run ho))
theorem t_val (h : EX X W w e me) (he : ∀ whole, isTrue e X.env whole = (do let v ← whole; standAt e.pos; holding [v] (truthy v)) := by intro _; rfl) : TX X W w e (tV me) := (pt_val h he).less (tv_run fun _ _ _ q => q)
/-! ### and, or, not, if else -/
def tAn (ta tb : TM) : TM := fun ρ M => bnd (ta ρ M) fun c M1 => if c then tb ρ M1 else some (.ok false, M1)
def tO (ta tb : TM) : TM := fun ρ M => bnd (ta ρ M) fun c M1 => if c then some (.ok true, M1) else tb ρ M1
def tN (ta : TM) : TM := fun ρ M => bnd (ta ρ M) fun c M1 => some (.ok (!c), M1)
def eIf (t : TM) (ma mb : EM) : EM := fun ρ M => bnd (t ρ M) fun c M1 => if c then ma ρ M1 else mb ρ M1
def eAn (ma mb : EM) : EM := fun ρ M => bnd (ma ρ M) fun x M1 => match x with
  | .bl true => mb ρ M1
  | .bl false => some (.ok (.bl false), M1)
  | _ => none
def eO (ma mb : EM) : EM := fun ρ M => bnd (ma ρ M) fun x M1 => match x with
  | .bl false => mb ρ M1
  | .bl true => some (.ok (.bl true), M1)
  | _ => none
def eN (ma : EM) : EM := fun ρ M => bnd (ma ρ M) fun x M1 => match x with
  | .bl b => some (.ok (.bl (!b)), M1)
  | _ => none
theorem b_and1 (ha : TX X W w a ta) : BX X W w (.BoolOp .And [a] pos) ta := pw_and1 ha
theorem b_or1 (ha : TX X W w a ta) : BX X W w (.BoolOp .Or [a] pos) ta := pw_or1 ha
theorem b_and {rest : List Expr} (ha : TX X W w a ta) (hb : BX X W w (.BoolOp .And (b :: rest) pos) tb) : BX X W w (.BoolOp .And (a :: b :: rest) pos) (tAn ta tb) := (pw_and ha hb).less fun σ H Q ⟨φ, ρ, M, hs, ro, out⟩ =>
  ⟨φ, ρ, M, hs, ro, (Out.bnd out).imp fun c M1 φ1 H1 _ g1 h1 out1 => by
    cases c with
    | true => exact ⟨φ1, ρ, M1, h1, ro.grow g1, out1⟩
    | false => exact out1.now h1⟩
theorem b_or {rest : List Expr} (ha : TX X W w a ta) (hb : BX X W w (.BoolOp .Or (b :: rest) pos) tb) : BX X W w (.BoolOp .Or (a :: b :: rest) pos) (tO ta tb) := (pw_or ha hb).less fun σ H Q ⟨φ, ρ, M, hs, ro, out⟩ =>
  ⟨φ, ρ, M, hs, ro, (Out.bnd out).imp fun c M1 φ1 H1 _ g1 h1 out1 => by
    cases c with
    | false => exact ⟨φ1, ρ, M1, h1, ro.grow g1, out1⟩
    | true => exact out1.now h1⟩
theorem t_not (ha : TX X W w a ta) : TX X W w (.UnaryOp .Not a pos) (tN ta) := (pt_not ha).less fun σ H Q ⟨φ, ρ, M, hs, ro, out⟩ =>
  ⟨φ, ρ, M, hs, ro, (Out.bnd out).imp fun c M1 φ1 H1 _ g1 h1 out1 => out1.now h1⟩
theorem t_bool (h : BX X W w e ta) : TX X W w e ta := h.pt
theorem x_if (hc : TX X W w c ta) (ha : EX X W w a ma) (hb : EX X W w b mb) : EX X W w (.IfExp c a b pos) (eIf ta ma mb) := (pe_ifExp hc ha hb).less fun σ H Q ⟨φ, ρ, M, hs, ro, out⟩ =>
  ⟨φ, ρ, M, hs, ro, (Out.bnd out).imp fun c M1 φ1 H1 _ g1 h1 out1 => by
    cases c with
    | true => exact ⟨φ1, ρ, M1, h1, ro.grow g1, out1⟩
    | false => exact ⟨φ1, ρ, M1, h1, ro.grow g1, out1⟩⟩
theorem x_one {op : BoolOp} (h : EX X W w a ma) : EX X W w (.BoolOp op [a] pos) ma := pe_one h
theorem x_and {rest : List Expr} (ha : EX X W w a ma) (hb : EX X W w (.BoolOp .And (b :: rest) pos) mb) : EX X W w (.BoolOp .And (a :: b :: rest) pos) (eAn ma mb) := (pe_and ha hb).less fun σ H Q ⟨φ, ρ, M, hs, ro, out⟩ =>
  ⟨φ, ρ, M, hs, ro, (Out.bnd out).imp fun x M1 φ1 H1 _ g1 h1 out1 u ru => by
    cases x with
    | bl c =>
      refine ⟨c, ru, ?_⟩
      cases c with
      | true => exact ⟨φ1, ρ, M1, h1, ro.grow g1, out1⟩
      | false => exact out1.now h1 _ rfl
    | _ => obtain ⟨_, _, e, _⟩ := out1; cases e⟩
theorem x_or {rest : List Expr} (ha : EX X W w a ma) (hb : EX X W w (.BoolOp .Or (b :: rest) pos) mb) : EX X W w (.BoolOp .Or (a :: b :: rest) pos) (eO ma mb) := (pe_or ha hb).less fun σ H Q ⟨φ, ρ, M, hs, ro, out⟩ =>
  ⟨φ, ρ, M, hs, ro, (Out.bnd out).imp fun x M1 φ1 H1 _ g1 h1 out1 u ru => by
    cases x with
    | bl c =>
      refine ⟨c, ru, ?_⟩
      cases c with
      | false => exact ⟨φ1, ρ, M1, h1, ro.grow g1, out1⟩
      | true => exact out1.now h1 _ rfl
    | _ => obtain ⟨_, _, e, _⟩ := out1; cases e⟩
theorem x_not (ha : EX X W w a ma) : EX X W w (.UnaryOp .Not a pos) (eN ma) := (pe_not ha).less fun σ H Q ⟨φ, ρ, M, hs, ro, out⟩ =>
  ⟨φ, ρ, M, hs, ro, (Out.bnd out).imp fun x M1 φ1 H1 _ g1 h1 out1 u ru => by
    cases x with
    | bl c => exact ⟨c, ru, out1.now h1 _ rfl⟩
    | _ => obtain ⟨_, _, e, _⟩ := out1; cases e⟩
/-- a < b < c -/
def eChain (f g : DOp) (ma mb mc : EM) : EM := fun ρ M => bnd (ma ρ M) fun x M1 => bnd (mb ρ M1) fun y M2 => bnd (f x y M2) fun z M3 => match z with
  | .bl true => bnd (mc ρ M3) fun u M4 => g y u M4
  | .bl false => some (.ok (.bl false), M3)
  | _ => none
theorem chain_run {r r' : R2} {f f' : DOp} (ho : OpD W r f) (ho' : OpD W r' f') : ∀ (σ : L2.St) (H : Hp) (Q : VK), toE W w (eChain f f' ma mb mc) σ H Q → tChain r r' (toE W w ma) (toE W w mb) (toE W w mc) σ H Q := fun σ H Q ⟨φ, ρ, M, hs, ro, out⟩ =>
  ⟨φ, ρ, M, hs, ro, (Out.bnd out).imp fun x M1 φ1 H1 _ g1 h1 out1 u ru => ⟨φ1, ρ, M1, h1, ro.grow g1, (Out.bnd out1).imp fun y M2 φ2 H2 _ g2 h2 out2 v rv => ho w σ φ2 H2 M2 x y u v _ h2 (Rep.grow g2 _ _ ru) rv ((Out.bnd out2).imp fun z M3 φ3 H3 _ g3 h3 out3 v3 rv3 => by
    cases z with
    | bl k =>
      refine ⟨k, rv3, ?_⟩
      cases k with
      | false => exact out3.now h3 _ rfl
      | true => exact ⟨φ3, ρ, M3, h3, ((ro.grow g1).grow g2).grow g3, (Out.bnd out3).imp fun u4 M4 φ4 H4 _ g4 h4 out4 v4 rv4 => ho' w σ φ4 H4 M4 y u4 v v4 Q h4 ((rv.grow g3).grow g4) rv4 out4⟩
    | _ => obtain ⟨_, _, e, _⟩ := out3; cases e)⟩⟩
theorem x_chain {op op' : CmpOp} {r r' : R2} {f f' : DOp} (hr : OpR X (compareOp op) r) (hr' : OpR X (compareOp op') r') (ho : OpD W r f) (ho' : OpD W r' f') (ha : EX X W w a ma) (hb : EX X W w b mb) (hc : EX X W w c mc)
    (h1 : lastMarks [op, op'] [b, c] = false := by rfl) : EX X W w (.Compare a [op, op'] [b, c] pos) (eChain f f' ma mb mc) := (pe_chain hr hr' ha hb hc h1).less (chain_run ho ho')
theorem t_chain {op op' : CmpOp} {r r' : R2} {f f' : DOp} (hr : OpR X (compareOp op) r) (hr' : OpR X (compareOp op') r') (ho : OpD W r f) (ho' : OpD W r' f') (ha : EX X W w a ma) (hb : EX X W w b mb) (hc : EX X W w c mc)
    (h1 : lastMarks [op, op'] [b, c] = false := by rfl) : TX X W w (.Compare a [op, op'] [b, c] pos) (tV (eChain f f' ma mb mc)) := (pt_chain hr hr' ha hb hc h1).less (tv_run (chain_run ho ho'))
/-! ### argument lists, displays -/
def aNil : AM := fun _ M => some (.ok [], M)
def aCons (ma : EM) (m : AM) : AM := fun ρ M => bnd (ma ρ M) fun x M1 => bnd (m ρ M1) fun xs M2 => some (.ok (x :: xs), M2)
theorem a_nil : AX X W w [] aNil := pa_nil.less fun σ H Q ⟨φ, ρ, M, hs, ro, out⟩ => out.now hs [] rfl
theorem a_cons {m : AM} (ha : EX X W w e me) (hr : AX X W w es m) (hs : starEach (e :: es) X.env = (false, eval e X.env) :: starEach es X.env := by rfl) : AX X W w (e :: es) (aCons me m) := (pa_cons ha hr hs).less fun σ H Q ⟨φ, ρ, M, hs, ro, out⟩ =>
  ⟨φ, ρ, M, hs, ro, (Out.bnd out).imp fun x M1 φ1 H1 _ g1 h1 out1 u ru => ⟨φ1, ρ, M1, h1, ro.grow g1, (Out.bnd out1).imp fun xs M2 φ2 H2 _ g2 h2 out2 v rv => out2.now h2 _ ⟨u, v, rfl, ru.grow g2, rv⟩⟩⟩
def eTup (m : AM) : EM := fun ρ M => bnd (m ρ M) fun xs M1 => if xs.length ≤ sizeLine then some (.ok (.tup xs), M1) else none
def eLst (m : AM) : EM := fun ρ M => bnd (m ρ M) fun xs M1 => if xs.length ≤ sizeLine then some (.ok (.loc M1.length), M1 ++ [.lst xs]) else none
theorem new_tup {φ : List Addr} {M : Ms} {H : Hp} {p : Addr} {xs : List D} {vs : List V} (h : HS W φ M H) (n : H p = none) (r : Reps W φ H xs vs) :
    Grow φ φ H (upd H p (.tup vs)) ∧ HS W φ M (upd H p (.tup vs)) ∧ Rep W φ (upd H p (.tup vs)) (.tup xs) (.ref p) := by
  have g : Grow φ φ H (upd H p (.tup vs)) := Grow.upd fun xs z => by rw [n] at z; cases z
  exact ⟨g, h.laid n, p, vs, rfl, .inl upd_same, Reps.grow g _ _ r⟩
theorem new_lst {φ : List Addr} {M : Ms} {H : Hp} {p : Addr} {xs : List D} {vs : List V} (h : HS W φ M H) (n : H p = none) (r : Reps W φ H xs vs) :
    Grow φ (φ ++ [p]) H (upd H p (.lst vs)) ∧ HS W (φ ++ [p]) (M ++ [.lst xs]) (upd H p (.lst vs)) ∧ Rep W (φ ++ [p]) (upd H p (.lst vs)) (.loc M.length) (.ref p) := by
  have g : Grow φ (φ ++ [p]) H (upd H p (.lst vs)) := ⟨⟨[p], rfl⟩, upd_tup fun xs z => by rw [n] at z; cases z⟩
  exact ⟨g, h.new n ⟨vs, upd_same, Reps.grow g _ _ r⟩, p, rfl, by rw [← h.len]; simp⟩
theorem x_tup {m : AM} {x1} (h : AX X W w es m) : EX X W w (.Tuple es x1 pos) (eTup m) := (pe_tup h).less fun σ H Q ⟨φ, ρ, M, hs, ro, out⟩ =>
  ⟨φ, ρ, M, hs, ro, (Out.bnd out).imp fun xs M1 φ1 H1 _ g1 h1 out1 vs rv => by
    by_cases hl : xs.length ≤ sizeLine
    · rw [if_pos hl] at out1
      refine ⟨by rw [rv.len]; exact hl, fun p n => ?_⟩
      obtain ⟨g, h2, r2⟩ := new_tup h1 n rv
      exact out1.then_ g h2 _ r2
    · rw [if_neg hl] at out1
      obtain ⟨_, _, e, _⟩ := out1
      cases e⟩
theorem x_lst {m : AM} (h : AX X W w es m) : EX X W w (.List es pos) (eLst m) := (pe_lst h).less fun σ H Q ⟨φ, ρ, M, hs, ro, out⟩ =>
  ⟨φ, ρ, M, hs, ro, (Out.bnd out).imp fun xs M1 φ1 H1 _ g1 h1 out1 vs rv => by
    by_cases hl : xs.length ≤ sizeLine
    · rw [if_pos hl] at out1
      refine ⟨by rw [rv.len]; exact hl, fun p n => ?_⟩
      obtain ⟨g, h2, r2⟩ := new_lst h1 n rv
      exact out1.then_ g h2 _ r2
    · rw [if_neg hl] at out1
      obtain ⟨_, _, e, _⟩ := out1
      cases e⟩
end
end G
end
section
set_option Elab.async false
set_option linter.all false
set_option maxRecDepth 100000
set_option maxHeartbeats 4000000
/-! # operators by data -/
namespace G
open PySem PySem.Spec PyProof.Rows L2
section
variable {α : Type} {W : Wd} {w : WX} {σ : L2.St} {φ : List Addr} {H : Hp}
theorem Out.no {Q : α → Ms → List Addr → Hp → Prop} (h : Out W w σ φ H (none : Ot α) Q) : False := by
  obtain ⟨_, _, e, _⟩ := h
  cases e
end
/-- a pure answer, where it is asked for -/
def ret (c : Prop) [Decidable c] (d : D) (M : Ms) : Ot D := if c then some (.ok d, M) else none
@[simp] theorem ret_true (d : D) (M : Ms) : ret True d M = some (.ok d, M) := rfl
section
variable {W : Wd} {w : WX} {σ : L2.St} {φ : List Addr} {H : Hp} {M : Ms} {d : D} {c : Prop} [Decidable c]
theorem Out.ret {Q : D → Ms → List Addr → Hp → Prop} (h : Out W w σ φ H (ret c d M) Q) : c ∧ Out W w σ φ H (some (.ok d, M)) Q := by
  unfold G.ret at h
  by_cases k : c
  · rw [if_pos k] at h
    exact ⟨k, h⟩
  · rw [if_neg k] at h
    exact h.no.elim
end
/-- the list at a place -/
def lstAt (M : Ms) (n : Nat) : Option (List D) := match M[n]? with
  | some (.lst l) => some l
  | _ => none
/-- .. or one that is locked -/
def seqAt (M : Ms) (n : Nat) : Option (List D) := match M[n]? with
  | some (.lst l) => some l
  | some (.frz l) => some l
  | _ => none
section
variable {W : Wd} {φ : List Addr} {H : Hp} {M : Ms} {n : Nat} {l : List D} {v : V}
theorem HS.lst (h : HS W φ M H) (e : lstAt M n = some l) (r : Rep W φ H (.loc n) v) : ∃ a vs, v = .ref a ∧ φ[n]? = some a ∧ M[n]? = some (.lst l) ∧ H a = some (.lst vs) ∧ Reps W φ H l vs := by
  obtain ⟨a, rfl, ea⟩ := r
  unfold lstAt at e
  cases hm : M[n]? with
  | none => rw [hm] at e; cases e
  | some o =>
    rw [hm] at e
    cases o with
    | lst k =>
      cases e
      obtain ⟨a', ea', vs, h1, h2⟩ := h.at_ n _ hm
      rw [ea] at ea'
      cases ea'
      exact ⟨a, vs, rfl, ea, rfl, h1, h2⟩
    | _ => cases e
theorem HS.seq (h : HS W φ M H) (e : seqAt M n = some l) (r : Rep W φ H (.loc n) v) : ∃ a vs, v = .ref a ∧ φ[n]? = some a ∧ SqL W.K H a vs ∧ Reps W φ H l vs := by
  obtain ⟨a, rfl, ea⟩ := r
  unfold seqAt at e
  cases hm : M[n]? with
  | none => rw [hm] at e; cases e
  | some o =>
    rw [hm] at e
    obtain ⟨a', ea', ra⟩ := h.at_ n _ hm
    rw [ea] at ea'
    cases ea'
    cases o with
    | lst k =>
      cases e
      obtain ⟨vs, h1, h2⟩ := ra
      exact ⟨a, vs, rfl, ea, .inl (.inl h1), h2⟩
    | frz k =>
      cases e
      obtain ⟨vs, h1, h2⟩ := ra
      refine ⟨a, vs, rfl, ea, ?_, h2⟩
      rcases h1 with ⟨o, z⟩ | (z | z)
      · exact .inl (.inr ⟨o, z⟩)
      · rcases z with z | ⟨o, z⟩ <;> cases z
      · exact .inr z
    | _ => cases e
theorem OpD.or {r r' : R2} {f : DOp} (h : ∀ (w : WX) (σ : L2.St) (φ : List Addr) (H : Hp) (M : Ms) (x y : D) (u v : V) (Q : VK), HS W φ M H → Rep W φ H x u → Rep W φ H y v →
    (Out W w σ φ H (f x y M) fun d _ φ' H' => ∀ v, Rep W φ' H' d v → Q v H') → r u v H Q ∨ r' u v H Q) : OpD W (fun x y H Q => r x y H Q ∨ r' x y H Q) f := h
end
/-! ### + - * // % ** -/
def dAdd : DOp
  | .int i, .int j, M => some (.ok (.int (i + j)), M)
  | .str s, .str t, M => ret (s.length + t.length ≤ sizeLine) (.str (s ++ t)) M
  | .tup a, .tup b, M => ret (a.length + b.length ≤ sizeLine) (.tup (a ++ b)) M
  | .loc m, .loc n, M => match lstAt M m, lstAt M n with
    | some a, some b => if a.length + b.length ≤ sizeLine then some (.ok (.loc M.length), M ++ [.lst (a ++ b)]) else none
    | _, _ => none
  | _, _, _ => none
def dSub : DOp
  | .int i, .int j, M => some (.ok (.int (i - j)), M)
  | _, _, _ => none
def dMul : DOp
  | .int i, .int j, M => ret ((-(2 ^ 64) < i ∧ i < 2 ^ 64) ∨ (-(2 ^ 64) < j ∧ j < 2 ^ 64)) (.int (i * j)) M
  | .tup a, .int k, M => ret (a ≠ [] ∧ 2 ≤ k ∧ k ≤ 1000 ∧ a.length ≤ 1000) (.tup (List.replicate k.toNat a).flatten) M
  | .loc n, .int k, M => match lstAt M n with
    | some l => if -(2 ^ 63) ≤ k ∧ k < 2 ^ 63 ∧ l.length * k.toNat ≤ sizeLine then some (.ok (.loc M.length), M ++ [.lst (List.replicate k.toNat l).flatten]) else none
    | none => none
  | _, _, _ => none
def dDiv : DOp
  | .int i, .int j, M => ret (0 < j ∧ j < 1073741824) (.int (i / j)) M
  | _, _, _ => none
def dMod : DOp
  | .int i, .int j, M => ret (0 < j) (.int (i % j)) M
  | _, _, _ => none
def dPow : DOp
  | .int i, .int j, M => ret (0 ≤ j ∧ j ≤ 1000000 ∧ i.natAbs < 2 ^ 64) (.int (i ^ j.toNat)) M
  | _, _, _ => none
theorem Reps.rep {W : Wd} {φ : List Addr} {H : Hp} {l : List D} {vs : List V} (r : Reps W φ H l vs) : ∀ k : Nat, Reps W φ H (List.replicate k l).flatten (List.replicate k vs).flatten
  | 0 => rfl
  | k + 1 => by
    rw [List.replicate_succ, List.replicate_succ, List.flatten_cons, List.flatten_cons]
    exact r.append (r.rep k)
section
variable {X : Cx} {W : Wd} {w : WX} {pos : Pos} {a b c e : Expr} {es : List Expr} {ma mb mc me : EM} {ta tb : TM}
theorem str_len (s : List Nat) : (⟨s.toArray⟩ : Str).length = s.length := by
  show s.toArray.size = s.length
  simp
theorem str_app (s t : List Nat) : ((⟨s.toArray⟩ : Str) ++ (⟨t.toArray⟩ : Str)) = ⟨(s ++ t).toArray⟩ := by
  show (⟨s.toArray ++ t.toArray⟩ : Str) = _
  simp
theorem str_list (s : List Nat) : (⟨s.toArray⟩ : Str).cps.toList = s := by simp
def rAdd4 (K : PySem.W.Frag) : R2 := fun x y H Q => rI0 (fun i j => .int (i + j)) x y H Q ∨ (∃ i j, x = .str i ∧ y = .str j ∧ i.length + j.length ≤ sizeLine ∧ Q (.str (i ++ j)) H) ∨ rCatA K x y H Q ∨ rCat x y H Q
theorem add_r : OpR X (binaryOp .Add) (rAdd4 X.K) := op_add.or (op_add_str.or (op_catA.or op_cat))
theorem add_d : OpD W (rAdd4 W.K) dAdd := fun w σ φ H M x y u v Q hs rx ry out => by
  cases x <;> cases y <;> first
    | exact out.no.elim
    | skip
  case int.int i j => exact .inl ⟨i, j, rx, ry, out.now hs _ rfl⟩
  case str.str s t =>
    obtain ⟨hl, out⟩ := out.ret
    exact .inr (.inl ⟨_, _, rx, ry, by rw [str_len, str_len]; exact hl, out.now hs _ (by rw [str_app]; rfl)⟩)
  case tup.tup l k =>
    obtain ⟨hl, out⟩ := out.ret
    obtain ⟨p, vs, rfl, t1, r1⟩ := rx
    obtain ⟨q, us, rfl, t2, r2⟩ := ry
    refine .inr (.inr (.inl ⟨p, q, vs, us, rfl, rfl, t1.sq, t2.sq, by rw [r1.len, r2.len]; exact hl, fun e => ?_, fun _ e => ?_, fun _ _ z n => ?_⟩))
    · subst e
      have el : l = [] := List.length_eq_zero_iff.mp r1.len.symm
      subst el
      exact out.now hs _ ⟨q, us, rfl, t2, r2⟩
    · subst e
      have el : k = [] := List.length_eq_zero_iff.mp r2.len.symm
      subst el
      rw [List.append_nil] at out
      exact out.now hs _ ⟨p, vs, rfl, t1, r1⟩
    · obtain ⟨g, h2, r3⟩ := new_tup hs n (r1.append r2)
      exact out.then_ g h2 _ r3
  case loc.loc m n =>
    have out2 : Out W w σ φ H (match lstAt M m, lstAt M n with
      | some a, some b => if a.length + b.length ≤ sizeLine then some (.ok (.loc M.length), M ++ [.lst (a ++ b)]) else none
      | _, _ => none) fun d _ φ' H' => ∀ v, Rep W φ' H' d v → Q v H' := out
    cases e1 : lstAt M m with
    | none => rw [e1] at out2; exact out2.no.elim
    | some l =>
      cases e2 : lstAt M n with
      | none => rw [e1, e2] at out2; exact out2.no.elim
      | some k =>
        rw [e1, e2] at out2
        obtain ⟨p, vs, rfl, _, _, h1, r1⟩ := hs.lst e1 rx
        obtain ⟨q, us, rfl, _, _, h2, r2⟩ := hs.lst e2 ry
        by_cases hl : l.length + k.length ≤ sizeLine
        · simp only [hl, if_true] at out2
          refine .inr (.inr (.inr ⟨p, q, vs, us, rfl, rfl, h1, h2, by rw [r1.len, r2.len]; exact hl, fun z n => ?_⟩))
          obtain ⟨g, h3, r3⟩ := new_lst hs n (r1.append r2)
          exact out2.then_ g h3 _ r3
        · simp only [hl, if_false] at out2
          exact out2.no.elim
theorem sub_d : OpD W (rI0 fun i j => .int (i - j)) dSub := fun w σ φ H M x y u v Q hs rx ry out => by
  cases x <;> cases y <;> first
    | exact out.no.elim
    | exact ⟨_, _, rx, ry, out.now hs _ rfl⟩
def rMul2 (K : PySem.W.Frag) : R2 := fun x y H Q => rI CMul (fun i j => .int (i * j)) x y H Q ∨ rRepT K x y H Q ∨ rRep x y H Q
theorem mul_r : OpR X (binaryOp .Mult) (rMul2 X.K) := op_mul.or (op_repT.or op_rep)
theorem mul_d : OpD W (rMul2 W.K) dMul := fun w σ φ H M x y u v Q hs rx ry out => by
  cases x <;> cases y <;> first
    | exact out.no.elim
    | skip
  case int.int i j =>
    obtain ⟨hc, out⟩ := out.ret
    exact .inl ⟨i, j, rx, ry, hc, out.now hs _ rfl⟩
  case tup.int l k =>
    obtain ⟨⟨h1, h2, h3, h4⟩, out⟩ := out.ret
    obtain ⟨p, vs, rfl, t1, r1⟩ := rx
    refine .inr (.inl ⟨p, k, vs, rfl, ry, t1.sq, fun z => h1 ?_, h2, h3, by rw [r1.len]; exact h4, fun q n => ?_⟩)
    · subst z
      exact List.length_eq_zero_iff.mp r1.len.symm
    · obtain ⟨g, h5, r3⟩ := new_tup hs n (r1.rep k.toNat)
      exact out.then_ g h5 _ r3
  case loc.int n k =>
    have out2 : Out W w σ φ H (match lstAt M n with
      | some l => if -(2 ^ 63) ≤ k ∧ k < 2 ^ 63 ∧ l.length * k.toNat ≤ sizeLine then some (.ok (.loc M.length), M ++ [.lst (List.replicate k.toNat l).flatten]) else none
      | none => none) fun d _ φ' H' => ∀ v, Rep W φ' H' d v → Q v H' := out
    cases hl : lstAt M n with
    | none => rw [hl] at out2; exact out2.no.elim
    | some l =>
      rw [hl] at out2
      dsimp only at out2
      split at out2
      · rename_i hc
        obtain ⟨a, us, rfl, ea, em, hH, rs⟩ := hs.lst hl rx
        refine .inr (.inr ⟨a, k, us, rfl, ry, hH, hc.1, hc.2.1, by rw [rs.len]; exact hc.2.2, fun q hn => ?_⟩)
        obtain ⟨g, h2, r3⟩ := new_lst hs hn (rs.rep k.toNat)
        exact out2.then_ g h2 _ r3
      · exact out2.no.elim
theorem div_d : OpD W (rI CDiv fun i j => .int (i / j)) dDiv := fun w σ φ H M x y u v Q hs rx ry out => by
  cases x <;> cases y <;> first
    | exact out.no.elim
    | exact ⟨_, _, rx, ry, out.ret.1, out.ret.2.now hs _ rfl⟩
theorem mod_d : OpD W (rI (fun _ j => 0 < j) fun i j => .int (i % j)) dMod := fun w σ φ H M x y u v Q hs rx ry out => by
  cases x <;> cases y <;> first
    | exact out.no.elim
    | exact ⟨_, _, rx, ry, out.ret.1, out.ret.2.now hs _ rfl⟩
theorem pow_d : OpD W (rI CPow fun i j => .int (i ^ j.toNat)) dPow := fun w σ φ H M x y u v Q hs rx ry out => by
  cases x <;> cases y <;> first
    | exact out.no.elim
    | exact ⟨_, _, rx, ry, out.ret.1, out.ret.2.now hs _ rfl⟩
variable (hK : W.K = X.K := by rfl)
include hK in
theorem x_add (ha : EX X W w a ma) (hb : EX X W w b mb) : EX X W w (.BinOp a .Add b pos) (eOp dAdd ma mb) := x_op add_r (by rw [← hK]; exact add_d) ha hb
theorem x_sub (ha : EX X W w a ma) (hb : EX X W w b mb) : EX X W w (.BinOp a .Sub b pos) (eOp dSub ma mb) := x_op op_sub sub_d ha hb
include hK in
theorem x_mul (ha : EX X W w a ma) (hb : EX X W w b mb) : EX X W w (.BinOp a .Mult b pos) (eOp dMul ma mb) := x_op mul_r (by rw [← hK]; exact mul_d) ha hb
theorem x_div (ha : EX X W w a ma) (hb : EX X W w b mb) : EX X W w (.BinOp a .FloorDiv b pos) (eOp dDiv ma mb) := x_op op_fdiv div_d ha hb
theorem x_mod (ha : EX X W w a ma) (hb : EX X W w b mb) : EX X W w (.BinOp a .Mod b pos) (eOp dMod ma mb) := x_op op_mod mod_d ha hb
theorem x_pow (ha : EX X W w a ma) (hb : EX X W w b mb) : EX X W w (.BinOp a .Pow b pos) (eOp dPow ma mb) := x_op op_pow pow_d ha hb
/-! ### -a -/
abbrev DU := D → Ms → Ot D
def eU (f : DU) (ma : EM) : EM := fun ρ M => bnd (ma ρ M) fun x M1 => f x M1
def dNeg : DU
  | .int i, M => some (.ok (.int (-i)), M)
  | _, _ => none
theorem x_neg (ha : EX X W w a ma) : EX X W w (.UnaryOp .USub a pos) (eU dNeg ma) := (pe_un un_neg ha).less fun σ H Q ⟨φ, ρ, M, hs, ro, out⟩ =>
  ⟨φ, ρ, M, hs, ro, (Out.bnd out).imp fun x M1 φ1 H1 _ g1 h1 out1 u ru => by
    cases x <;> first
      | exact out1.no.elim
      | exact ⟨_, ru, out1.now h1 _ rfl⟩⟩
/-! ### comparisons -/
def dLt : DOp
  | .int i, .int j, M => some (.ok (.bl (decide (i < j))), M)
  | .str s, .str t, M => some (.ok (.bl (decide (s < t))), M)
  | _, _, _ => none
def dLe : DOp
  | .int i, .int j, M => some (.ok (.bl (decide (i ≤ j))), M)
  | .str s, .str t, M => some (.ok (.bl (!decide (t < s))), M)
  | _, _, _ => none
def dGt : DOp
  | .int i, .int j, M => some (.ok (.bl (decide (j < i))), M)
  | _, _, _ => none
def dGe : DOp
  | .int i, .int j, M => some (.ok (.bl (decide (j ≤ i))), M)
  | _, _, _ => none
theorem lt_r : OpR X (compareOp .Lt) (fun x y H Q => rI0 (fun i j => .bl (decide (i < j))) x y H Q ∨ ∃ i j, x = .str i ∧ y = .str j ∧ Q (.bl (decide (i.cps.toList < j.cps.toList))) H) := op_lt.or op_lt_str
theorem lt_d : OpD W (fun x y H Q => rI0 (fun i j => .bl (decide (i < j))) x y H Q ∨ ∃ i j, x = .str i ∧ y = .str j ∧ Q (.bl (decide (i.cps.toList < j.cps.toList))) H) dLt := fun w σ φ H M x y u v Q hs rx ry out => by
  cases x <;> cases y <;> first
    | exact out.no.elim
    | exact .inl ⟨_, _, rx, ry, out.now hs _ rfl⟩
    | exact .inr ⟨_, _, rx, ry, out.now hs _ rfl⟩
theorem le_r : OpR X (compareOp .LtE) (fun x y H Q => rI0 (fun i j => .bl (decide (i ≤ j))) x y H Q ∨ ∃ i j, x = .str i ∧ y = .str j ∧ Q (.bl (!decide (j.cps.toList < i.cps.toList))) H) := op_le.or op_le_str
theorem le_d : OpD W (fun x y H Q => rI0 (fun i j => .bl (decide (i ≤ j))) x y H Q ∨ ∃ i j, x = .str i ∧ y = .str j ∧ Q (.bl (!decide (j.cps.toList < i.cps.toList))) H) dLe := fun w σ φ H M x y u v Q hs rx ry out => by
  cases x <;> cases y <;> first
    | exact out.no.elim
    | exact .inl ⟨_, _, rx, ry, out.now hs _ rfl⟩
    | exact .inr ⟨_, _, rx, ry, out.now hs _ rfl⟩
theorem gt_d : OpD W (rI0 fun i j => .bl (decide (j < i))) dGt := fun w σ φ H M x y u v Q hs rx ry out => by
  cases x <;> cases y <;> first
    | exact out.no.elim
    | exact ⟨_, _, rx, ry, out.now hs _ rfl⟩
theorem ge_d : OpD W (rI0 fun i j => .bl (decide (j ≤ i))) dGe := fun w σ φ H M x y u v Q hs rx ry out => by
  cases x <;> cases y <;> first
    | exact out.no.elim
    | exact ⟨_, _, rx, ry, out.now hs _ rfl⟩
/-- is None -/
def dIsN : DOp
  | x, .non, M => some (.ok (.bl (decide (x = .non))), M)
  | _, _, _ => none
def dNotN : DOp
  | x, .non, M => some (.ok (.bl (!decide (x = .non))), M)
  | _, _, _ => none
theorem rep_non {φ : List Addr} {H : Hp} {x : D} {u : V} (r : Rep W φ H x u) : decide (u = .non) = decide (x = .non) := by
  cases x <;> first
    | (rw [show u = _ from r]; rfl)
    | (obtain ⟨a, vs, rfl, _⟩ := r; simp)
    | (obtain ⟨a, rfl, _⟩ := r; simp)
theorem isn_d : OpD W (fun x y H Q => y = .non ∧ Q (.bl (decide (x = .non))) H) dIsN := fun w σ φ H M x y u v Q hs rx ry out => by
  cases y <;> first
    | exact out.no.elim
    | exact ⟨ry, out.now hs _ (by rw [rep_non rx]; rfl)⟩
theorem notn_d : OpD W (fun x y H Q => y = .non ∧ Q (.bl (!decide (x = .non))) H) dNotN := fun w σ φ H M x y u v Q hs rx ry out => by
  cases y <;> first
    | exact out.no.elim
    | exact ⟨ry, out.now hs _ (by rw [rep_non rx]; rfl)⟩
def dIsB : DOp
  | .bl x, .bl y, M => some (.ok (.bl (decide (x = y))), M)
  | _, _, _ => none
def dNotB : DOp
  | .bl x, .bl y, M => some (.ok (.bl (!decide (x = y))), M)
  | _, _, _ => none
theorem isb_d : OpD W (fun x y H Q => ∃ a b, x = .bl a ∧ y = .bl b ∧ Q (.bl (decide (a = b))) H) dIsB := fun w σ φ H M x y u v Q hs rx ry out => by
  cases x <;> cases y <;> first
    | exact out.no.elim
    | exact ⟨_, _, rx, ry, out.now hs _ rfl⟩
theorem notb_d : OpD W (fun x y H Q => ∃ a b, x = .bl a ∧ y = .bl b ∧ Q (.bl (!decide (a = b))) H) dNotB := fun w σ φ H M x y u v Q hs rx ry out => by
  cases x <;> cases y <;> first
    | exact out.no.elim
    | exact ⟨_, _, rx, ry, out.now hs _ rfl⟩
end
/-! ### == != of data -/
mutual
def D.py : D → PyData
  | .non => .none
  | .bl b => .bool b
  | .int i => .int i
  | .str s => .str ⟨s.toArray⟩
  | .nam ss => .tuple (ss.map fun s => .str ⟨s.toArray⟩)
  | .tup l => .tuple (D.pys l)
  | .loc _ => .none
def D.pys : List D → List PyData
  | [] => []
  | x :: l => D.py x :: D.pys l
end
mutual
/-- no place within -/
def D.flat : D → Bool
  | .tup l => D.flats l
  | .loc _ => false
  | .nam _ => false
  | _ => true
def D.flats : List D → Bool
  | [] => true
  | x :: l => D.flat x && D.flats l
end
mutual
/-- can be compared with == -/
def D.vw : D → Bool
  | .tup l => D.vws l
  | .loc _ => false
  | _ => true
def D.vws : List D → Bool
  | [] => true
  | x :: l => D.vw x && D.vws l
end
mutual
theorem D.vw_flat : ∀ d : D, d.flat = true → d.vw = true
  | .non, _ => rfl
  | .bl _, _ => rfl
  | .int _, _ => rfl
  | .str _, _ => rfl
  | .nam _, h => by cases h
  | .tup l, h => D.vws_flats l h
  | .loc _, h => by cases h
theorem D.vws_flats : ∀ l : List D, D.flats l = true → D.vws l = true
  | [], _ => rfl
  | x :: l, h => by
    unfold D.flats at h
    rw [Bool.and_eq_true] at h
    unfold D.vws
    rw [D.vw_flat x h.1, D.vws_flats l h.2]
    rfl
end
def view (M : Ms) (d : D) : Option PyData := if D.vw d then some d.py else match d with
  | .loc n => match seqAt M n with
    | some l => if D.vws l then some (.list (D.pys l)) else none
    | none => none
  | _ => none
section
variable {W : Wd} {φ : List Addr} {H : Hp} {M : Ms}
theorem nam_dp : ∀ ss : List (List Nat), DpAll W.K H (ss.map sV) (ss.map fun s => PyData.str ⟨s.toArray⟩)
  | [] => .nil
  | s :: ss => .cons (.str _) (nam_dp ss)
mutual
theorem rep_dp : ∀ (d : D) (v : V), D.vw d = true → Rep W φ H d v → Dp W.K H v d.py
  | .non, v, _, r => by rw [show v = _ from r]; exact .non
  | .bl b, v, _, r => by rw [show v = _ from r]; exact .bl b
  | .int i, v, _, r => by rw [show v = _ from r]; exact .int i
  | .str s, v, _, r => by rw [show v = _ from r]; exact .str _
  | .nam ss, v, _, r => by
    obtain ⟨a, rfl, t⟩ := r
    exact .tup t.sq (nam_dp ss)
  | .tup l, v, f, r => by
    obtain ⟨a, vs, rfl, t, rs⟩ := r
    exact .tup t.sq (reps_dp l vs f rs)
  | .loc n, v, f, _ => by cases f
theorem reps_dp : ∀ (l : List D) (vs : List V), D.vws l = true → Reps W φ H l vs → DpAll W.K H vs (D.pys l)
  | [], vs, _, r => by rw [show vs = [] from r]; exact .nil
  | x :: l, vs, f, r => by
    obtain ⟨v, us, rfl, r1, r2⟩ := r
    unfold D.vws at f
    rw [Bool.and_eq_true] at f
    exact .cons (rep_dp x v f.1 r1) (reps_dp l us f.2 r2)
end
theorem view_dp (hs : HS W φ M H) {d : D} {v : V} {p : PyData} (e : view M d = some p) (r : Rep W φ H d v) : Dp W.K H v p := by
  unfold view at e
  by_cases hf : D.vw d = true
  · rw [if_pos hf] at e
    cases e
    exact rep_dp d v hf r
  · rw [if_neg hf] at e
    cases d with
    | loc n =>
      cases hl : seqAt M n with
      | none => simp [hl] at e
      | some l =>
        simp only [hl] at e
        by_cases hf : D.vws l = true
        · rw [if_pos hf] at e
          cases e
          obtain ⟨a, vs, rfl, _, sq, rs⟩ := hs.seq hl r
          exact .lst sq (reps_dp l vs hf rs)
        · rw [if_neg hf] at e
          cases e
    | _ => cases e
end
def dEq : DOp := fun x y M => match view M x, view M y with
  | some p, some q => ret (SeqAt.shaped p = true ∧ SeqAt.shaped q = true) (.bl (PyData.eqv p q)) M
  | _, _ => none
def dNe : DOp := fun x y M => match view M x, view M y with
  | some p, some q => ret (SeqAt.shaped p = true ∧ SeqAt.shaped q = true) (.bl (!PyData.eqv p q)) M
  | _, _ => none
section
variable {X : Cx} {W : Wd} {w : WX} {pos : Pos} {a b c e : Expr} {es : List Expr} {ma mb mc me : EM} {ta tb : TM}
theorem eq_d : OpD W (rEqD W.K) dEq := fun w σ φ H M x y u v Q hs rx ry out => by
  unfold dEq at out
  cases e1 : view M x with
  | none => rw [e1] at out; exact out.no.elim
  | some p =>
    cases e2 : view M y with
    | none => rw [e1, e2] at out; exact out.no.elim
    | some q =>
      rw [e1, e2] at out
      obtain ⟨⟨s1, s2⟩, out⟩ := out.ret
      exact ⟨p, q, view_dp hs e1 rx, view_dp hs e2 ry, s1, s2, out.now hs _ rfl⟩
theorem ne_d : OpD W (rNeD W.K) dNe := fun w σ φ H M x y u v Q hs rx ry out => by
  unfold dNe at out
  cases e1 : view M x with
  | none => rw [e1] at out; exact out.no.elim
  | some p =>
    cases e2 : view M y with
    | none => rw [e1, e2] at out; exact out.no.elim
    | some q =>
      rw [e1, e2] at out
      obtain ⟨⟨s1, s2⟩, out⟩ := out.ret
      exact ⟨p, q, view_dp hs e1 rx, view_dp hs e2 ry, s1, s2, out.now hs _ rfl⟩
end
/-! ### subscripts, slices -/
def dIx : DOp
  | .tup l, .int i, M => match atI l i with
    | some d => some (.ok d, M)
    | none => none
  | .loc n, .int i, M => match seqAt M n with
    | some l => match atI l i with
      | some d => some (.ok d, M)
      | none => none
    | none => none
  | .str s, .int i, M => match atI s i with
    | some c => ret (s.length ≤ sizeLine) (.str [c]) M
    | none => none
  | _, _, _ => none
section
variable {X : Cx} {W : Wd} {w : WX} {pos : Pos} {a b c e : Expr} {es : List Expr} {ma mb mc me : EM} {ta tb : TM} {φ : List Addr} {H : Hp} {M : Ms}
theorem Reps.atI {l : List D} {vs : List V} {i : Int} {d : D} (r : Reps W φ H l vs) (e : L2.atI l i = some d) : ∃ v, L2.atI vs i = some v ∧ Rep W φ H d v := by
  unfold L2.atI at e ⊢
  rw [r.len]
  cases h : ixN l.length i with
  | none => rw [h] at e; cases e
  | some j =>
    rw [h] at e
    exact r.get e
theorem ix_d : OpD W (rIx W.K) dIx := fun w σ φ H M x y u v Q hs rx ry out => by
  cases x <;> cases y <;> first
    | exact out.no.elim
    | skip
  case tup.int l i =>
    have out2 : Out W w σ φ H (match L2.atI l i with
      | some d => some (.ok d, M)
      | none => none) fun d _ φ' H' => ∀ v, Rep W φ' H' d v → Q v H' := out
    cases h : L2.atI l i with
    | none => rw [h] at out2; exact out2.no.elim
    | some d =>
      rw [h] at out2
      obtain ⟨p, vs, rfl, t, r⟩ := rx
      obtain ⟨v1, e1, r1⟩ := r.atI h
      exact .inr (.inl ⟨p, vs, i, v1, rfl, ry, t.sq, e1, out2.now hs v1 r1⟩)
  case loc.int n i =>
    have out2 : Out W w σ φ H (match seqAt M n with
      | some l => match L2.atI l i with
        | some d => some (.ok d, M)
        | none => none
      | none => none) fun d _ φ' H' => ∀ v, Rep W φ' H' d v → Q v H' := out
    cases hl : seqAt M n with
    | none => rw [hl] at out2; exact out2.no.elim
    | some l =>
      simp only [hl] at out2
      cases h : L2.atI l i with
      | none => rw [h] at out2; exact out2.no.elim
      | some d =>
        rw [h] at out2
        obtain ⟨p, vs, rfl, _, sq, r⟩ := hs.seq hl rx
        obtain ⟨v1, e1, r1⟩ := r.atI h
        exact .inl ⟨p, vs, i, v1, rfl, ry, sq, e1, out2.now hs v1 r1⟩
  case str.int s i =>
    have out2 : Out W w σ φ H (match L2.atI s i with
      | some c => ret (s.length ≤ sizeLine) (.str [c]) M
      | none => none) fun d _ φ' H' => ∀ v, Rep W φ' H' d v → Q v H' := out
    cases h : L2.atI s i with
    | none => rw [h] at out2; exact out2.no.elim
    | some k =>
      rw [h] at out2
      obtain ⟨hl, out3⟩ := out2.ret
      exact .inr (.inr ⟨_, i, k, rx, ry, by rw [str_len]; exact hl, by rw [str_list]; exact h, out3.now hs _ rfl⟩)
include W in
theorem x_ix (hs : PlainIx b) (ha : EX X W w a ma) (hb : EX X W w b mb) (hK : W.K = X.K := by rfl) : EX X W w (.Subscript a b pos) (eOp dIx ma mb) := (pe_ix ix_seq ha hb hs).less (by rw [← hK]; exact op_run ix_d)
end
def cutD {α : Type} (xs : List α) (lo hi : Option Int) : List α := (xs.drop (HT.sIx xs.length 0 lo)).take (HT.sIx xs.length xs.length hi - HT.sIx xs.length 0 lo)
abbrev OM := Ro → Ms → Ot (Option Int)
def oNo : OM := fun _ M => some (.ok none, M)
def oSo (m : EM) : OM := fun ρ M => bnd (m ρ M) fun x M1 => match x with
  | .int i => some (.ok (some i), M1)
  | _ => none
def toO (W : Wd) (w : WX) (m : OM) : TO := fun σ H Q => ∃ φ ρ M, HS W φ M H ∧ RoOk W φ H ρ σ ∧ Out W w σ φ H (m ρ M) fun b _ _ H' => Q b H'
abbrev DSl := D → Option Int → Option Int → Ms → Ot D
def eSl (f : DSl) (m : EM) (ml mh : OM) : EM := fun ρ M => bnd (m ρ M) fun x M1 => bnd (ml ρ M1) fun lo M2 => bnd (mh ρ M2) fun hi M3 => f x lo hi M3
def dSl : DSl
  | .tup l, lo, hi, M => some (.ok (.tup (cutD l lo hi)), M)
  | .loc n, lo, hi, M => match seqAt M n with
    | some l => some (.ok (.loc M.length), M ++ [.lst (cutD l lo hi)])
    | none => none
  | .str s, lo, hi, M => ret (s.length ≤ sizeLine) (.str (cutD s lo hi)) M
  | _, _, _, _ => none
section
variable {X : Cx} {W : Wd} {w : WX} {pos p2 : Pos} {a b c e : Expr} {es : List Expr} {ma mb mc me : EM} {ta tb : TM} {φ : List Addr} {H : Hp} {M : Ms}
theorem Reps.cut {l : List D} {vs : List V} (r : Reps W φ H l vs) (lo hi : Option Int) : Reps W φ H (cutD l lo hi) (cutV vs lo hi) := by
  unfold cutD cutV
  rw [r.len]
  exact (r.drop _).take _
theorem o_no : PO X none (toO W w oNo) := ⟨fun pins s σ H Q I ⟨φ, ρ, M, hs, ro, out⟩ => po_none.run pins s σ H Q I (out.now hs)⟩
theorem o_so {m : EM} (h : EX X W w e m) : PO X (some e) (toO W w (oSo m)) := ⟨fun pins s σ H Q I ⟨φ, ρ, M, hs, ro, out⟩ => (po_some h).run pins s σ H Q I ⟨φ, ρ, M, hs, ro, (Out.bnd out).imp fun x M1 φ1 H1 _ g1 h1 out1 u ru => by
    cases x <;> first
      | exact out1.no.elim
      | exact ⟨_, ru, out1.now h1⟩⟩⟩
theorem x_sl {lo hi : Option Expr} {m : EM} {ml mh : OM} (he : EX X W w e m) (hl : PO X lo (toO W w ml)) (hh : PO X hi (toO W w mh)) (hK : W.K = X.K := by rfl) : EX X W w (.Subscript e (.Slice lo hi none p2) pos) (eSl dSl m ml mh) :=
  (pe_slice (sl_list.or (sl_tupA.or sl_str)) he hl hh).less fun σ H Q ⟨φ, ρ, M, hs, ro, out⟩ => ⟨φ, ρ, M, hs, ro, (Out.bnd out).imp fun x M1 φ1 H1 e1 g1 h1 out1 u ru =>
    ⟨φ1, ρ, M1, h1, ro.grow g1, (Out.bnd out1).imp fun i M2 φ2 H2 _ g2 h2 out2 => ⟨φ2, ρ, M2, h2, (ro.grow g1).grow g2, (Out.bnd out2).imp fun j M3 φ3 H3 _ g3 h3 out3 => by
      have ru3 := Rep.grow (g2.trans g3) _ _ ru
      rw [← hK]
      clear e1
      cases x <;> first
        | exact out3.no.elim
        | skip
      case tup l =>
        obtain ⟨p, vs, rfl, t, r⟩ := ru3
        refine .inr (.inl ⟨p, vs, rfl, t.sq, fun hw => ?_, fun hw q n => ?_⟩)
        · refine out3.now h3 _ ⟨p, vs, rfl, t, ?_⟩
          have e : cutD l i j = l := by
            unfold cutD
            rw [← r.len, hw.1, hw.2]
            simp [r.len]
          rw [e]
          exact r
        · obtain ⟨g, h4, r4⟩ := new_tup h3 n (r.cut i j)
          exact out3.then_ g h4 _ r4
      case loc n =>
        have out4 : Out W w σ φ3 H3 (match seqAt M3 n with
          | some l => some (.ok (.loc M3.length), M3 ++ [.lst (cutD l i j)])
          | none => none) fun d _ φ' H' => ∀ v, Rep W φ' H' d v → Q v H' := out3
        cases hl : seqAt M3 n with
        | none => rw [hl] at out4; exact out4.no.elim
        | some l =>
          rw [hl] at out4
          obtain ⟨p, vs, rfl, _, sq, r⟩ := h3.seq hl ru3
          refine .inl ⟨p, vs, rfl, sq, fun q n => ?_⟩
          obtain ⟨g, h4, r4⟩ := new_lst h3 n (r.cut i j)
          exact out4.then_ g h4 _ r4
      case str s =>
        obtain ⟨hl, out4⟩ := out3.ret
        refine .inr (.inr ⟨_, ru3, by rw [str_len]; exact hl, out4.now h3 _ ?_⟩)
        show V.str (cutS _ i j) = V.str _
        unfold cutS cutD
        simp [str_len]⟩⟩⟩
end
end G
end
section
set_option Elab.async false
set_option linter.all false
set_option maxRecDepth 100000
set_option maxHeartbeats 4000000
/-! # statements, loops, what is thrown away -/
namespace G
open PySem PySem.Spec PyProof.Rows L2
def OutS (W : Wd) (w : WX) (φ : List Addr) (H : Hp) (o : Option (Fl × Ro × Ms)) (D : Ends) : Prop :=
  ∃ f ρ' M', o = some (f, ρ', M') ∧ ∀ φ' σ' H', Grow φ φ' H H' → HS W φ' M' H' → RoOk W φ' H' ρ' σ' → match f with
    | .nx => D.nx σ' H'
    | .rt d => ∀ v, Rep W φ' H' d v → D.rt v H'
    | .bk => D.bk σ' H'
    | .ct => D.ct σ' H'
    | .ex c d => ∀ a v, H' a = some (.xd [(xf c, v)]) → Rep W φ' H' d v → w (.ref (W.xc c)) (some a) σ' H'
theorem toS_iff {W : Wd} {w : WX} {m : SM} {D : Ends} {σ : L2.St} {H : Hp} : toS W w m D σ H ↔ ∃ φ ρ M, HS W φ M H ∧ RoOk W φ H ρ σ ∧ OutS W w φ H (m ρ M) D := Iff.rfl
section
variable {α : Type} {W : Wd} {w : WX} {φ φ1 : List Addr} {H H1 : Hp} {o : Option (Fl × Ro × Ms)} {D : Ends}
theorem OutS.no (h : OutS W w φ H none D) : False := by
  obtain ⟨_, _, _, e, _⟩ := h
  cases e
theorem OutS.pre (h : OutS W w φ H o D) (g : Grow φ φ1 H H1) : OutS W w φ1 H1 o D := by
  obtain ⟨f, ρ', M', e, q⟩ := h
  exact ⟨f, ρ', M', e, fun φ' σ' H' g' => q φ' σ' H' (g.trans g')⟩
theorem OutS.nx {ρ : Ro} {M : Ms} {σ : L2.St} (h : OutS W w φ H (some (.nx, ρ, M)) D) (hs : HS W φ M H) (ro : RoOk W φ H ρ σ) : D.nx σ H := by
  obtain ⟨f, ρ', M', e, q⟩ := h
  cases e
  exact q φ σ H (.refl φ H) hs ro
theorem OutS.bk {ρ : Ro} {M : Ms} {σ : L2.St} (h : OutS W w φ H (some (.bk, ρ, M)) D) (hs : HS W φ M H) (ro : RoOk W φ H ρ σ) : D.bk σ H := by
  obtain ⟨f, ρ', M', e, q⟩ := h
  cases e
  exact q φ σ H (.refl φ H) hs ro
theorem OutS.ct {ρ : Ro} {M : Ms} {σ : L2.St} (h : OutS W w φ H (some (.ct, ρ, M)) D) (hs : HS W φ M H) (ro : RoOk W φ H ρ σ) : D.ct σ H := by
  obtain ⟨f, ρ', M', e, q⟩ := h
  cases e
  exact q φ σ H (.refl φ H) hs ro
theorem OutS.rt {ρ : Ro} {M : Ms} {d : G.D} {σ : L2.St} {v : V} (h : OutS W w φ H (some (.rt d, ρ, M)) D) (hs : HS W φ M H) (ro : RoOk W φ H ρ σ) (r : Rep W φ H d v) : D.rt v H := by
  obtain ⟨f, ρ', M', e, q⟩ := h
  cases e
  exact q φ σ H (.refl φ H) hs ro v r
theorem OutS.imp {D' : Ends} (h : OutS W w φ H o D) (k : ∀ f ρ' M' φ' σ' H', o = some (f, ρ', M') → Grow φ φ' H H' → HS W φ' M' H' → RoOk W φ' H' ρ' σ' → match f with
    | .nx => D.nx σ' H' → D'.nx σ' H'
    | .rt d => (∀ v, Rep W φ' H' d v → D.rt v H') → ∀ v, Rep W φ' H' d v → D'.rt v H'
    | .bk => D.bk σ' H' → D'.bk σ' H'
    | .ct => D.ct σ' H' → D'.ct σ' H'
    | .ex c d => True) : OutS W w φ H o D' := by
  obtain ⟨f, ρ', M', e, q⟩ := h
  refine ⟨f, ρ', M', e, fun φ' σ' H' g hs ro => ?_⟩
  have q' := q φ' σ' H' g hs ro
  have k' := k f ρ' M' φ' σ' H' e g hs ro
  cases f with
  | nx => exact k' q'
  | rt d => exact k' q'
  | bk => exact k' q'
  | ct => exact k' q'
  | ex c d => exact q'
end
/-- behind an expression -/
def bndS {α : Type} (o : Ot α) (ρ : Ro) (k : α → Ms → Option (Fl × Ro × Ms)) : Option (Fl × Ro × Ms) := match o with
  | none => none
  | some (.ok a, M) => k a M
  | some (.ex c d, M) => some (.ex c d, ρ, M)
@[simp] theorem bndS_ok {α : Type} (a : α) (M : Ms) (ρ : Ro) (k : α → Ms → Option (Fl × Ro × Ms)) : bndS (some (.ok a, M)) ρ k = k a M := rfl
@[simp] theorem bndS_ex {α : Type} (c : Nat) (d : D) (M : Ms) (ρ : Ro) (k : α → Ms → Option (Fl × Ro × Ms)) : bndS (some (.ex c d, M)) ρ k = some (.ex c d, ρ, M) := rfl
@[simp] theorem bndS_none {α : Type} (ρ : Ro) (k : α → Ms → Option (Fl × Ro × Ms)) : bndS none ρ k = none := rfl
theorem OutS.bnd {α : Type} {W : Wd} {w : WX} {φ : List Addr} {H : Hp} {σ : L2.St} {ρ : Ro} {o : Ot α} {k : α → Ms → Option (Fl × Ro × Ms)} {D : Ends} (ro : RoOk W φ H ρ σ) (h : OutS W w φ H (bndS o ρ k) D) :
    Out W w σ φ H o fun d M φ1 H1 => OutS W w φ1 H1 (k d M) D := by
  cases o with
  | none => exact h.no.elim
  | some p =>
    obtain ⟨r1, M1⟩ := p
    cases r1 with
    | ok d => exact ⟨.ok d, M1, rfl, fun φ1 H1 g1 h1 => h.pre g1⟩
    | ex c d =>
      obtain ⟨f, ρ', M', e, q⟩ := h
      cases e
      exact ⟨.ex c d, _, rfl, fun φ1 H1 g1 h1 => q φ1 σ H1 g1 h1 (ro.grow g1)⟩
/-! ### blocks -/
def sNil : SM := fun ρ M => some (.nx, ρ, M)
def sSeq (a b : SM) : SM := fun ρ M => match a ρ M with
  | some (.nx, ρ1, M1) => b ρ1 M1
  | r => r
def sBrk : SM := fun ρ M => some (.bk, ρ, M)
def sCnt : SM := fun ρ M => some (.ct, ρ, M)
def sRet (m : EM) : SM := fun ρ M => bndS (m ρ M) ρ fun d M1 => some (.rt d, ρ, M1)
def sRetN : SM := fun ρ M => some (.rt .non, ρ, M)
def sEx (m : EM) : SM := fun ρ M => bndS (m ρ M) ρ fun _ M1 => some (.nx, ρ, M1)
def sIf (t : TM) (a b : SM) : SM := fun ρ M => bndS (t ρ M) ρ fun c M1 => if c then a ρ M1 else b ρ M1
section
variable {X : Cx} {W : Wd} {w : WX} {pos : Pos} {a b c e : Expr} {es : List Expr} {ma mb mc me : EM} {ta tb : TM} {st : Stmt} {sts ss : List Stmt} {m1 m2 : SM}
theorem s_nil : SSX X W w [] sNil := pss_nil.less fun D σ H ⟨φ, ρ, M, hs, ro, out⟩ => OutS.nx (w := w) out hs ro
theorem seq_run {D : Ends} {σ : L2.St} {H : Hp} (h : toS W w (sSeq m1 m2) D σ H) : toS W w m1 { D with nx := toS W w m2 D } σ H := by
  obtain ⟨φ, ρ, M, hs, ro, f, ρ', M', e, q⟩ := h
  unfold sSeq at e
  cases h1 : m1 ρ M with
  | none => rw [h1] at e; cases e
  | some p =>
    obtain ⟨f1, ρ1, M1⟩ := p
    rw [h1] at e
    refine ⟨φ, ρ, M, hs, ro, f1, ρ1, M1, h1, fun φ1 σ1 H1 g1 hs1 ro1 => ?_⟩
    cases f1 with
    | nx => exact ⟨φ1, ρ1, M1, hs1, ro1, f, ρ', M', e, fun φ2 σ2 H2 g2 => q φ2 σ2 H2 (g1.trans g2)⟩
    | _ => cases e; exact q φ1 σ1 H1 g1 hs1 ro1
theorem s_seq (h1 : SX X W w st m1) (h2 : SSX X W w ss m2) : SSX X W w (st :: ss) (sSeq m1 m2) := (pss_cons h1 h2).less fun D σ H h => seq_run h
theorem s_one (h1 : SX X W w st m1) : SSX X W w [st] m1 := pss_one h1
theorem s_pass : SX X W w (.Pass pos) sNil := ps_pass.less fun D σ H ⟨φ, ρ, M, hs, ro, out⟩ => OutS.nx (w := w) out hs ro
theorem s_brk : SX X W w (.Break pos) sBrk := ps_break.less fun D σ H ⟨φ, ρ, M, hs, ro, out⟩ => OutS.bk (w := w) out hs ro
theorem s_cnt : SX X W w (.Continue pos) sCnt := ps_continue.less fun D σ H ⟨φ, ρ, M, hs, ro, out⟩ => OutS.ct (w := w) out hs ro
theorem s_ret (h : EX X W w e me) : SX X W w (.Return (some e) pos) (sRet me) := (ps_ret h).less fun D σ H ⟨φ, ρ, M, hs, ro, out⟩ =>
  ⟨φ, ρ, M, hs, ro, (OutS.bnd ro out).imp fun d M1 φ1 H1 _ g1 h1 out1 v rv => OutS.rt (w := w) out1 h1 (ro.grow g1) rv⟩
theorem s_retN : SX X W w (.Return none pos) sRetN := ps_retN.less fun D σ H ⟨φ, ρ, M, hs, ro, out⟩ => OutS.rt (w := w) (v := .non) out hs ro rfl
theorem s_ex (h : EX X W w e me) (hs : swapsWith e none pos.line X.env = pure false := by rfl) : SX X W w (.Expr e pos) (sEx me) := (ps_expr h hs).less fun D σ H ⟨φ, ρ, M, hs, ro, out⟩ =>
  ⟨φ, ρ, M, hs, ro, (OutS.bnd ro out).imp fun d M1 φ1 H1 _ g1 h1 out1 v rv => OutS.nx (w := w) out1 h1 (ro.grow g1)⟩
theorem s_if (hc : TX X W w c ta) (ha : SSX X W w sts m1) (hb : SSX X W w ss m2) : SX X W w (.If c sts ss pos) (sIf ta m1 m2) := (ps_if hc ha hb).less fun D σ H ⟨φ, ρ, M, hs, ro, out⟩ =>
  ⟨φ, ρ, M, hs, ro, (OutS.bnd ro out).imp fun d M1 φ1 H1 _ g1 h1 out1 => by
    cases d with
    | true => exact ⟨φ1, ρ, M1, h1, ro.grow g1, out1⟩
    | false => exact ⟨φ1, ρ, M1, h1, ro.grow g1, out1⟩⟩
end
/-! ### targets -/
abbrev GM := D → Ro → Ms → Option (Ro × Ms)
abbrev GsM := List D → Ro → Ms → Option (Ro × Ms)
def gN (i : Nat) : GM := fun d ρ M => some (ρ.set i (some d), M)
def gNl : GsM := fun ds ρ M => match ds with
  | [] => some (ρ, M)
  | _ => none
def gCn (g : GM) (gs : GsM) : GsM := fun ds ρ M => match ds with
  | d :: r => match g d ρ M with
    | some (ρ1, M1) => gs r ρ1 M1
    | none => none
  | [] => none
def gT (n : Nat) (gs : GsM) : GM := fun d ρ M => match d with
  | .tup ds => if ds.length = n then gs ds ρ M else none
  | _ => none
def toG (W : Wd) (g : GM) : TG := fun v σ H Q => ∃ φ ρ M d, HS W φ M H ∧ RoOk W φ H ρ σ ∧ Rep W φ H d v ∧ ∃ ρ' M', g d ρ M = some (ρ', M') ∧ ∀ φ' σ' H', Grow φ φ' H H' → HS W φ' M' H' → RoOk W φ' H' ρ' σ' → Q σ' H'
def toGs (W : Wd) (g : GsM) : TGs := fun vs σ H Q => ∃ φ ρ M ds, HS W φ M H ∧ RoOk W φ H ρ σ ∧ Reps W φ H ds vs ∧ ∃ ρ' M', g ds ρ M = some (ρ', M') ∧ ∀ φ' σ' H', Grow φ φ' H H' → HS W φ' M' H' → RoOk W φ' H' ρ' σ' → Q σ' H'
abbrev GX (X : Cx) (W : Wd) (e : Expr) (g : GM) : Prop := PG X e (toG W g)
abbrev GsX (X : Cx) (W : Wd) (es : List Expr) (g : GsM) : Prop := PGs X es (toGs W g)
section
variable {X : Cx}
theorem _root_.L2.PG.less {e : Expr} {t t' : TG} (h : PG X e t) (k : ∀ v σ H Q, t' v σ H Q → t v σ H Q) : PG X e t' := ⟨fun p s σ H v u Q I r q => h.run p s σ H v u Q I r (k v σ H Q q)⟩
theorem _root_.L2.PGs.less {e : List Expr} {t t' : TGs} (h : PGs X e t) (k : ∀ v σ H Q, t' v σ H Q → t v σ H Q) : PGs X e t' := ⟨fun p s σ H v u Q I r q => h.run p s σ H v u Q I r (k v σ H Q q)⟩
variable {W : Wd} {w : WX} {pos : Pos} {e tg : Expr} {es : List Expr} {me : EM} {g : GM} {gs : GsM}
theorem g_name (i : Nat) {x : Str} (hN : X.N.Nodup) (hi : X.N[i]? = some x := by rfl) (hx : Loc X.env.scope x := by first | exact Or.inl rfl | exact Or.inr rfl) (hf : X.fn x = true ∨ X.env.scope.names.lookup x = some .local := by first | exact .inl rfl | exact .inr rfl | assumption) :
    GX X W (.Name x pos) (gN i) := (pg_name hN hi hx hf).less fun v σ H Q ⟨φ, ρ, M, d, hs, ro, rd, ρ', M', e, q⟩ => by
  cases e
  exact q φ _ H (.refl φ H) hs (ro.set i rd)
theorem gs_nil : GsX X W [] gNl := pgs_nil.less fun v σ H Q ⟨φ, ρ, M, ds, hs, ro, rd, ρ', M', e, q⟩ => by
  cases ds with
  | nil =>
    cases e
    exact ⟨rd, q φ _ H (.refl φ H) hs ro⟩
  | cons _ _ => cases e
theorem gs_cons (h1 : GX X W e g) (h2 : GsX X W es gs) (hs : (assignEach (e :: es) X.env).map (·.2) = assign e X.env :: (assignEach es X.env).map (·.2) := by rfl) : GsX X W (e :: es) (gCn g gs) := (pgs_cons h1 h2 hs).less fun v σ H Q ⟨φ, ρ, M, ds, hs, ro, rd, ρ', M', e, q⟩ => by
  cases ds with
  | nil => cases e
  | cons d r =>
    obtain ⟨v1, vr, rfl, r1, r2⟩ := rd
    have e : (match g d ρ M with
      | some (ρ1, M1) => gs r ρ1 M1
      | none => none) = some (ρ', M') := e
    cases hg : g d ρ M with
    | none => rw [hg] at e; cases e
    | some p =>
      obtain ⟨ρ1, M1⟩ := p
      rw [hg] at e
      exact ⟨v1, vr, rfl, φ, ρ, M, d, hs, ro, r1, ρ1, M1, hg, fun φ1 σ1 H1 g1 hs1 ro1 => ⟨φ1, ρ1, M1, r, hs1, ro1, Reps.grow g1 _ _ r2, ρ', M', e, fun φ2 σ2 H2 g2 => q φ2 σ2 H2 (g1.trans g2)⟩⟩
theorem g_tup {n : Nat} {k : Nat} (hc : X.calm = true) (h : GsX X W es gs) (hK : W.K = X.K := by rfl) (hn : (assignEach es X.env).length = n := by rfl) (hst : (assignEach es X.env).findIdx? (·.1) = none := by rfl) : GX X W (.Tuple es k pos) (gT n gs) :=
  (pg_tup hc h hn hst).less fun v σ H Q ⟨φ, ρ, M, d, hs, ro, rd, ρ', M', e, q⟩ => by
  cases d with
  | tup ds =>
    have e : (if ds.length = n then gs ds ρ M else none) = some (ρ', M') := e
    obtain ⟨a, vs, rfl, t, r⟩ := rd
    by_cases hl : ds.length = n
    · rw [if_pos hl] at e
      exact ⟨a, vs, rfl, by rw [← hK]; exact t.sq, by rw [r.len]; exact hl, φ, ρ, M, ds, hs, ro, r, ρ', M', e, q⟩
    · rw [if_neg hl] at e
      cases e
  | _ => cases e
def sAs (m : EM) (g : GM) : SM := fun ρ M => bndS (m ρ M) ρ fun d M1 => match g d ρ M1 with
  | some (ρ2, M2) => some (.nx, ρ2, M2)
  | none => none
theorem as_run {D : Ends} {σ : L2.St} {H : Hp} (h : toS W w (sAs me g) D σ H) : tAsg (toE W w me) (toG W g) D σ H := by
  obtain ⟨φ, ρ, M, hs, ro, out⟩ := h
  refine ⟨φ, ρ, M, hs, ro, (OutS.bnd ro out).imp fun d M1 φ1 H1 _ g1 h1 out1 v rv => ?_⟩
  cases hg : g d ρ M1 with
  | none => rw [hg] at out1; exact out1.no.elim
  | some p =>
    obtain ⟨ρ2, M2⟩ := p
    rw [hg] at out1
    exact ⟨φ1, ρ, M1, d, h1, ro.grow g1, rv, ρ2, M2, hg, fun φ2 σ2 H2 g2 hs2 ro2 => OutS.nx (w := w) (out1.pre g2) hs2 ro2⟩
theorem s_as (he : EX X W w e me) (hg : GX X W tg g) (hs : swapsWithSole [tg] e pos.line X.env = pure false := by rfl) (hw : swappedStores [tg] e X.env = pure none := by rfl)
    (h1 : (assignEach [tg] X.env).map (·.2) = [assign tg X.env] := by rfl) : SX X W w (.Assign [tg] e pos) (sAs me g) := (ps_asg he hg hs hw h1).less fun D σ H h => as_run h
/-- x = e -/
theorem s_set (i : Nat) {x : Str} {pos' : Pos} (hN : X.N.Nodup) (he : EX X W w e me) (hi : X.N[i]? = some x := by rfl) (hx : Loc X.env.scope x := by first | exact Or.inl rfl | exact Or.inr rfl) (hs : swapsWith e (some (.Name x pos')) pos.line X.env = pure false := by rfl)
    (hf : X.fn x = true ∨ X.env.scope.names.lookup x = some .local := by first | exact .inl rfl | exact .inr rfl | assumption) : SX X W w (.Assign [.Name x pos'] e pos) (sAs me (gN i)) := (ps_set hN hi hx he hs hf).less fun D σ H ⟨φ, ρ, M, hs, ro, out⟩ =>
  ⟨φ, ρ, M, hs, ro, (OutS.bnd ro out).imp fun d M1 φ1 H1 _ g1 h1 out1 v rv => OutS.nx (w := w) out1 h1 ((ro.grow g1).set i rv)⟩
end
/-! ### what is walked -/
structure Src where
  items : List D
  gd : List (Nat × List D)
def Src.ok (s : Src) (M : Ms) : Bool := s.gd.all fun p => decide (seqAt M p.1 = some p.2)
abbrev IM := Ro → Ms → Ot Src
structure ItOk (W : Wd) (φ : List Addr) (H : Hp) (src : Src) (J : It) : Prop where
  go : ∀ i φ' M' H', Grow φ φ' H H' → HS W φ' M' H' → src.ok M' = true → i < src.items.length → J.go i H'
  yld : ∀ i φ' M' H' x H2 d, Grow φ φ' H H' → HS W φ' M' H' → src.ok M' = true → src.items[i]? = some d → J.yld i H' x H2 → Grow φ' φ' H' H2 ∧ HS W φ' M' H2 ∧ Rep W φ' H2 d x
  stop : ∀ i φ' M' H', Grow φ φ' H H' → HS W φ' M' H' → src.ok M' = true → src.items.length ≤ i → J.stop i H'
def toI (W : Wd) (w : WX) (m : IM) : TI := fun σ H R => ∃ φ ρ M, HS W φ M H ∧ RoOk W φ H ρ σ ∧ Out W w σ φ H (m ρ M) fun src _ φ' H' => ∀ J, ItOk W φ' H' src J → R J H'
abbrev IX (X : Cx) (W : Wd) (w : WX) (tg e : Expr) (m : IM) : Prop := PI X tg e (toI W w m)
theorem _root_.L2.PI.less {X : Cx} {tg e : Expr} {t t' : TI} (h : PI X tg e t) (k : ∀ σ H R, t' σ H R → t σ H R) : PI X tg e t' := ⟨fun p s σ H R I q => h.run p s σ H R I (k σ H R q)⟩
section
variable {X : Cx} {W : Wd} {w : WX} {pos : Pos} {e tg : Expr} {es : List Expr} {me : EM} {φ : List Addr} {H : Hp} {M : Ms}
theorem itok_list {a : Addr} {n : Nat} {l : List D} (ea : φ[n]? = some a) (K : PySem.W.Frag) (hK : W.K = K) : ItOk W φ H ⟨l, [(n, l)]⟩ (Itl K a) := by
  subst hK
  have key : ∀ {φ' M' H'}, Grow φ φ' H H' → HS W φ' M' H' → Src.ok ⟨l, [(n, l)]⟩ M' = true → ∃ vs, SqL W.K H' a vs ∧ Reps W φ' H' l vs := fun {φ' M' H'} g hs ok => by
    have e1 : seqAt M' n = some l := by simpa [Src.ok] using ok
    obtain ⟨a', vs, e2, _, sq, r⟩ := hs.seq e1 ⟨a, rfl, g.at_ ea⟩
    cases e2
    exact ⟨vs, sq, r⟩
  refine ⟨fun i φ' M' H' g hs ok hi => ?_, fun i φ' M' H' x H2 d g hs ok hd hy => ?_, fun i φ' M' H' g hs ok hi => ?_⟩
  · obtain ⟨vs, sq, r⟩ := key g hs ok
    obtain ⟨v, hv, _⟩ := r.get (List.getElem?_eq_getElem hi)
    exact ⟨vs, v, sq, hv⟩
  · obtain ⟨vs, sq, r⟩ := key g hs ok
    obtain ⟨rfl, hy⟩ := hy
    obtain ⟨v, hv, rv⟩ := r.get hd
    have e3 := hy vs sq
    rw [hv] at e3
    cases e3
    exact ⟨.refl _ _, hs, rv⟩
  · obtain ⟨vs, sq, r⟩ := key g hs ok
    exact ⟨vs, sq, by rw [r.len]; exact hi⟩
theorem TupAt.grow {K : PySem.W.Frag} {φ φ' : List Addr} {H H' : Hp} {a : Addr} {vs : List V} (t : TupAt K H a vs) (g : Grow φ φ' H H') : TupAt K H' a vs := t.imp (g.tup a _ rfl) id
theorem itok_tup {a : Addr} {vs : List V} {l : List D} (t : TupAt W.K H a vs) (r : Reps W φ H l vs) (K : PySem.W.Frag) (hK : W.K = K) : ItOk W φ H ⟨l, []⟩ (Itt K a) := by
  subst hK
  refine ⟨fun i φ' M' H' g hs ok hi => ?_, fun i φ' M' H' x H2 d g hs ok hd hy => ?_, fun i φ' M' H' g hs ok hi => ?_⟩
  · obtain ⟨v, hv, _⟩ := r.get (List.getElem?_eq_getElem hi)
    exact ⟨vs, v, (t.grow g).sq, hv⟩
  · obtain ⟨rfl, hy⟩ := hy
    obtain ⟨v, hv, rv⟩ := r.get hd
    have e3 := hy vs (t.grow g).sq
    rw [hv] at e3
    cases e3
    exact ⟨.refl _ _, hs, rv.grow g⟩
  · exact ⟨vs, (t.grow g).sq, by rw [r.len]; exact hi⟩
theorem itok_nam {a : Addr} {ss : List (List Nat)} (t : NamAt W.K H a ss) (K : PySem.W.Frag) (hK : W.K = K) : ItOk W φ H ⟨ss.map D.str, []⟩ (Itt K a) := by
  subst hK
  refine ⟨fun i φ' M' H' g hs ok hi => ?_, fun i φ' M' H' x H2 d g hs ok hd hy => ?_, fun i φ' M' H' g hs ok hi => ?_⟩
  · obtain ⟨v, hv, _⟩ := (reps_nam (W := W) (φ := φ) (H := H) ss).get (List.getElem?_eq_getElem hi)
    exact ⟨ss.map sV, v, (t.grow g).sq, hv⟩
  · obtain ⟨rfl, hy⟩ := hy
    obtain ⟨v, hv, rv⟩ := (reps_nam (W := W) (φ := φ) (H := H) ss).get hd
    have e3 := hy (ss.map sV) (t.grow g).sq
    rw [hv] at e3
    cases e3
    exact ⟨.refl _ _, hs, rv.grow g⟩
  · refine ⟨ss.map sV, (t.grow g).sq, ?_⟩
    simp only [List.length_map] at hi ⊢
    exact hi
theorem itok_str {z : List Nat} : ItOk W φ H ⟨z.map fun c => D.str [c], []⟩ (Its ⟨z.toArray⟩) := by
  refine ⟨fun i φ' M' H' g hs ok hi => ?_, fun i φ' M' H' x H2 d g hs ok hd hy => ?_, fun i φ' M' H' g hs ok hi => ?_⟩
  · show i < z.toArray.size
    simpa using hi
  · obtain ⟨rfl, c, hc, rfl⟩ := hy
    have hc : z[i]? = some c := by simpa using hc
    have hd : (z.map fun c => D.str [c])[i]? = some d := hd
    rw [List.getElem?_map, hc] at hd
    cases hd
    exact ⟨.refl _ _, hs, rfl⟩
  · show z.toArray.size ≤ i
    simpa using hi
theorem itok_rng {lo : Int} {n : Nat} : ItOk W φ H ⟨(List.range n).map fun i => .int (lo + (i : Nat)), []⟩ (Itr lo n) := by
  refine ⟨fun i φ' M' H' g hs ok hi => ?_, fun i φ' M' H' x H2 d g hs ok hd hy => ?_, fun i φ' M' H' g hs ok hi => ?_⟩
  · show i < n
    simpa using hi
  · obtain ⟨rfl, rfl⟩ := hy
    rw [List.getElem?_map] at hd
    by_cases hi : i < n
    · rw [List.getElem?_range hi] at hd
      cases hd
      exact ⟨.refl _ _, hs, rfl⟩
    · rw [List.getElem?_eq_none (by simpa using hi)] at hd
      cases hd
  · show n ≤ i
    simpa using hi
/-! for over a list -/
def iLst (m : EM) : IM := fun ρ M => bnd (m ρ M) fun d M1 => match d with
  | .loc n => match seqAt M1 n with
    | some l => some (.ok ⟨l, [(n, l)]⟩, M1)
    | none => none
  | .tup l => some (.ok ⟨l, []⟩, M1)
  | .nam ss => some (.ok ⟨ss.map D.str, []⟩, M1)
  | .str z => some (.ok ⟨z.map fun c => D.str [c], []⟩, M1)
  | _ => none
def rngD (lo : Int) (n : Nat) : List D := (List.range n).map fun i => .int (lo + (i : Nat))
def iRn1 (m : AM) : IM := fun ρ M => bnd (m ρ M) fun d M1 => match d with
  | [.int j] => if -(2 ^ 62) ≤ j ∧ j < 2 ^ 62 then some (.ok ⟨rngD 0 j.toNat, []⟩, M1) else none
  | _ => none
def iRn2 (m : AM) : IM := fun ρ M => bnd (m ρ M) fun d M1 => match d with
  | [.int i, .int j] => if -(2 ^ 62) ≤ i ∧ i < 2 ^ 62 ∧ -(2 ^ 62) ≤ j ∧ j < 2 ^ 62 then some (.ok ⟨rngD i (j - i).toNat, []⟩, M1) else none
  | _ => none
theorem PI.or {wi wi' : TI} (h : PI X tg e wi) (h' : PI X tg e wi') : PI X tg e (fun σ H R => wi σ H R ∨ wi' σ H R) := ⟨fun p s σ H R I q => q.elim (h.run p s σ H R I) (h'.run p s σ H R I)⟩
theorem i_seq (he : EX X W w e me) (hK : W.K = X.K := by rfl) : IX X W w tg e (iLst me) := (PI.or (PI.or (pi_list he) (pi_tup he)) (pi_str he)).less fun σ H R ⟨φ, ρ, M, hs, ro, out⟩ => by
  unfold iLst at out
  have out0 := out
  obtain ⟨r, M', eq, q⟩ := out0
  cases hm : me ρ M with
  | none => rw [hm] at eq; cases eq
  | some p =>
    obtain ⟨r1, M1⟩ := p
    cases r1 with
    | ex c d =>
      refine .inl (.inl ⟨φ, ρ, M, hs, ro, (Out.bnd out).imp fun x M2 φ1 H1 e1 => ?_⟩)
      rw [hm] at e1
      cases e1
    | ok x =>
      cases x with
      | loc n =>
        refine .inl (.inl ⟨φ, ρ, M, hs, ro, (Out.bnd out).imp fun x M2 φ1 H1 e1 g1 h1 out1 v rv => ?_⟩)
        rw [hm] at e1
        cases e1
        simp only at out1
        cases hl : seqAt M1 n with
        | none => rw [hl] at out1; exact out1.no.elim
        | some l =>
          rw [hl] at out1
          obtain ⟨a, vs, rfl, ea, sq, r⟩ := h1.seq hl rv
          exact ⟨a, rfl, ⟨vs, hK ▸ sq⟩, out1.now h1 _ (itok_list ea _ hK)⟩
      | tup l =>
        refine .inl (.inr ⟨φ, ρ, M, hs, ro, (Out.bnd out).imp fun x M2 φ1 H1 e1 g1 h1 out1 v rv => ?_⟩)
        rw [hm] at e1
        cases e1
        obtain ⟨a, vs, rfl, t, r⟩ := rv
        exact ⟨a, rfl, ⟨vs, hK ▸ t.sq⟩, out1.now h1 _ (itok_tup t r _ hK)⟩
      | nam ss =>
        refine .inl (.inr ⟨φ, ρ, M, hs, ro, (Out.bnd out).imp fun x M2 φ1 H1 e1 g1 h1 out1 v rv => ?_⟩)
        rw [hm] at e1
        cases e1
        obtain ⟨a, rfl, t⟩ := rv
        exact ⟨a, rfl, ⟨_, hK ▸ t.sq⟩, out1.now h1 _ (itok_nam t _ hK)⟩
      | str z =>
        refine .inr ⟨φ, ρ, M, hs, ro, (Out.bnd out).imp fun x M2 φ1 H1 e1 g1 h1 out1 v rv => ?_⟩
        rw [hm] at e1
        cases e1
        exact ⟨⟨z.toArray⟩, rv, out1.now h1 _ itok_str⟩
      | _ => rw [hm] at eq; cases eq
theorem i_rng1 {a : Expr} {m : AM} {p : Pos} (hg : Gl X "range") (hm : X.mg "range" = none) (ha : AX X W w [a] m) (hst : starEach [a] X.env = [(false, eval a X.env)] := by rfl) : IX X W w tg (.Call (.Name "range" p) [a] [] pos) (iRn1 m) := (pi_range1 hg hm ha hst).less fun σ H R ⟨φ, ρ, M, hs, ro, out⟩ =>
  ⟨φ, ρ, M, hs, ro, (Out.bnd out).imp fun d M1 φ1 H1 e0 g1 h1 out1 vs rv => by
    clear e0
    split at out1
    · rename_i j
      obtain ⟨v, r, rfl, e1, e3⟩ := rv
      cases e1
      rw [show r = [] from e3]
      split at out1
      · rename_i hj
        exact ⟨j, rfl, hj.1, hj.2, out1.now h1 _ itok_rng⟩
      · exact out1.no.elim
    · exact out1.no.elim⟩
theorem i_rng2 {a b : Expr} {m : AM} {p : Pos} (hg : Gl X "range") (hm : X.mg "range" = none) (ha : AX X W w [a, b] m) (hst : starEach [a, b] X.env = [(false, eval a X.env), (false, eval b X.env)] := by rfl) (hst2 : starEach [b] X.env = [(false, eval b X.env)] := by rfl) : IX X W w tg (.Call (.Name "range" p) [a, b] [] pos) (iRn2 m) := (pi_range2 hg hm ha hst hst2).less fun σ H R ⟨φ, ρ, M, hs, ro, out⟩ =>
  ⟨φ, ρ, M, hs, ro, (Out.bnd out).imp fun d M1 φ1 H1 e0 g1 h1 out1 vs rv => by
    clear e0
    split at out1
    · rename_i i j
      obtain ⟨v, r, rfl, e1, v2, r2, rfl, e2, e3⟩ := rv
      cases e1
      cases e2
      rw [show r2 = [] from e3]
      split at out1
      · rename_i hj
        exact ⟨i, j, rfl, hj, out1.now h1 _ itok_rng⟩
      · exact out1.no.elim
    · exact out1.no.elim⟩
/-! ### for -/
def loopF (src : Src) (g : GM) (body : SM) : List D → SM
  | [], ρ, M => if src.ok M then some (.nx, ρ, M) else none
  | d :: rest, ρ, M => if src.ok M then (match g d ρ M with
    | some (ρ1, M1) => (match body ρ1 M1 with
      | some (.nx, ρ2, M2) => loopF src g body rest ρ2 M2
      | some (.ct, ρ2, M2) => loopF src g body rest ρ2 M2
      | some (.bk, ρ2, M2) => some (.nx, ρ2, M2)
      | r => r)
    | none => none) else none
def sFor (m : IM) (g : GM) (body : SM) : SM := fun ρ M => bndS (m ρ M) ρ fun src M1 => loopF src g body src.items ρ M1
theorem s_for {iter : Expr} {body : List Stmt} {m : IM} {g : GM} {mb : SM} (hp : PassesOwn (model X.prog X.w) X.A X.env X.xe) (hc : X.calm = true) (hi : IX X W w tg iter m) (hg : GX X W tg g) (hb : SSX X W w body mb)
    (hs : ∀ x, foldedSetIterable iter X.env x = pure x := by intro _; rfl) : SX X W w (.For tg iter body [] pos) (sFor m g mb) := (ps_for hp hc hi hg hb hs).less fun D σ H ⟨φ, ρ, M, hs, ro, out⟩ =>
  ⟨φ, ρ, M, hs, ro, (OutS.bnd ro out).imp fun src M1 φ1 H1 _ g1 h1 out1 J it => by
    refine ⟨fun i m σ' H' => ∃ φ' ρ' M', Grow φ1 φ' H1 H' ∧ HS W φ' M' H' ∧ RoOk W φ' H' ρ' σ' ∧ i + m = src.items.length ∧ OutS W w φ' H' (loopF src g mb (src.items.drop i) ρ' M') D, ⟨src.items.length, φ1, ρ, M1, .refl _ _, h1, ro.grow g1, by omega, by simpa using out1⟩, ?_⟩
    intro i m σ' H' ⟨φ', ρ', M', gr, hs', ro', hm, out'⟩
    by_cases hi : i < src.items.length
    · right
      have hd : src.items.drop i = src.items[i] :: src.items.drop (i + 1) := List.drop_eq_getElem_cons hi
      rw [hd] at out'
      unfold loopF at out'
      by_cases ok : src.ok M' = true
      · rw [if_pos ok] at out'
        refine ⟨it.go i φ' M' H' gr hs' ok hi, fun σ2 H2 => ∃ φ2 ρ2 M2, Grow φ1 φ2 H1 H2 ∧ HS W φ2 M2 H2 ∧ RoOk W φ2 H2 ρ2 σ2 ∧ OutS W w φ2 H2 (loopF src g mb (src.items.drop (i + 1)) ρ2 M2) D, fun σ2 H2 ⟨φ2, ρ2, M2, a1, a2, a3, a4⟩ => ⟨m - 1, by omega, φ2, ρ2, M2, a1, a2, a3, by omega, a4⟩, fun x H2 hy => ?_⟩
        obtain ⟨g2, hs2, rx⟩ := it.yld i φ' M' H' x H2 src.items[i] gr hs' ok (List.getElem?_eq_getElem hi) hy
        cases hg : g src.items[i] ρ' M' with
        | none => rw [hg] at out'; exact out'.no.elim
        | some p =>
          obtain ⟨ρ1, M1'⟩ := p
          rw [hg] at out'
          refine ⟨φ', ρ', M', src.items[i], hs2, ro'.grow g2, rx, ρ1, M1', hg, fun φ3 σ3 H3 g3 hs3 ro3 => ?_⟩
          have out3 := (out'.pre g2).pre g3
          simp only at out3
          cases hb : mb ρ1 M1' with
          | none => rw [hb] at out3; exact out3.no.elim
          | some p =>
            obtain ⟨f, ρ4, M4⟩ := p
            rw [hb] at out3
            refine ⟨φ3, ρ1, M1', hs3, ro3, f, ρ4, M4, hb, fun φ4 σ4 H4 g4 hs4 ro4 => ?_⟩
            have G4 : Grow φ1 φ4 H1 H4 := gr.trans (g2.trans (g3.trans g4))
            cases f with
            | nx => exact ⟨φ4, ρ4, M4, G4, hs4, ro4, out3.pre g4⟩
            | ct => exact ⟨φ4, ρ4, M4, G4, hs4, ro4, out3.pre g4⟩
            | bk => exact OutS.nx (w := w) (out3.pre g4) hs4 ro4
            | rt d => exact fun v rv => OutS.rt (w := w) (D := D) (out3.pre g4) hs4 ro4 rv
            | ex c d =>
              obtain ⟨f', ρ5, M5, e5, q5⟩ := out3
              cases e5
              exact q5 φ4 σ4 H4 g4 hs4 ro4
      · rw [if_neg ok] at out'
        exact out'.no.elim
    · left
      have hd : src.items.drop i = [] := List.drop_eq_nil_of_le (by omega)
      rw [hd] at out'
      unfold loopF at out'
      by_cases ok : src.ok M' = true
      · rw [if_pos ok] at out'
        exact ⟨it.stop i φ' M' H' gr hs' ok (by omega), OutS.nx (w := w) out' hs' ro'⟩
      · rw [if_neg ok] at out'
        exact out'.no.elim⟩
/-! ### while -/
def whileF (t : TM) (body : SM) : Nat → SM
  | 0, _, _ => none
  | n + 1, ρ, M => bndS (t ρ M) ρ fun c M1 => if c then (match body ρ M1 with
      | some (.nx, ρ2, M2) => whileF t body n ρ2 M2
      | some (.ct, ρ2, M2) => whileF t body n ρ2 M2
      | some (.bk, ρ2, M2) => some (.nx, ρ2, M2)
      | r => r) else some (.nx, ρ, M1)
theorem s_while {c : Expr} {body : List Stmt} {t : TM} {mb : SM} (n : Nat) (hp : PassesOwn (model X.prog X.w) X.A X.env X.xe) (hc : TX X W w c t) (hb : SSX X W w body mb) : SX X W w (.While c body [] pos) (whileF t mb n) := (ps_while hp hc hb).less fun D σ H ⟨φ, ρ, M, hs, ro, out⟩ => by
  refine ⟨fun m σ' H' => ∃ φ' ρ' M', HS W φ' M' H' ∧ RoOk W φ' H' ρ' σ' ∧ OutS W w φ' H' (whileF t mb m ρ' M') D, ⟨n, φ, ρ, M, hs, ro, out⟩, ?_⟩
  intro m σ' H' ⟨φ', ρ', M', hs', ro', out'⟩
  cases m with
  | zero => exact out'.no.elim
  | succ m =>
    unfold whileF at out'
    refine ⟨φ', ρ', M', hs', ro', (OutS.bnd ro' out').imp fun b M1 φ1 H1 _ g1 h1 out1 => ?_⟩
    cases b with
    | false => exact OutS.nx (w := w) out1 h1 (ro'.grow g1)
    | true =>
      simp only [if_true] at out1
      refine ⟨fun σ2 H2 => ∃ φ2 ρ2 M2, HS W φ2 M2 H2 ∧ RoOk W φ2 H2 ρ2 σ2 ∧ OutS W w φ2 H2 (whileF t mb m ρ2 M2) D, fun σ2 H2 ⟨φ2, ρ2, M2, a⟩ => ⟨m, by omega, φ2, ρ2, M2, a⟩, ?_⟩
      cases hb : mb ρ' M1 with
      | none => rw [hb] at out1; exact out1.no.elim
      | some p =>
        obtain ⟨f, ρ4, M4⟩ := p
        rw [hb] at out1
        refine ⟨φ1, ρ', M1, h1, ro'.grow g1, f, ρ4, M4, hb, fun φ4 σ4 H4 g4 hs4 ro4 => ?_⟩
        cases f with
        | nx => exact ⟨φ4, ρ4, M4, hs4, ro4, out1.pre g4⟩
        | ct => exact ⟨φ4, ρ4, M4, hs4, ro4, out1.pre g4⟩
        | bk => exact OutS.nx (w := w) (out1.pre g4) hs4 ro4
        | rt d => exact fun v rv => OutS.rt (w := w) (D := D) (out1.pre g4) hs4 ro4 rv
        | ex c d =>
          obtain ⟨f', ρ5, M5, e5, q5⟩ := out1
          cases e5
          exact q5 φ4 σ4 H4 g4 hs4 ro4
end
/-! ### what nobody holds is thrown away -/
mutual
theorem Rep.cl {W : Wd} {φ : List Addr} {H : Hp} : ∀ (d : D) (v : V), Rep W φ H d v → D.cl φ.length d = true
  | .non, _, _ => rfl
  | .bl _, _, _ => rfl
  | .int _, _, _ => rfl
  | .str _, _, _ => rfl
  | .nam _, _, _ => rfl
  | .tup l, v, ⟨a, vs, _, _, r⟩ => Reps.cls l vs r
  | .loc n, v, ⟨a, _, e⟩ => decide_eq_true (List.getElem?_eq_some_iff.mp e).1
theorem Reps.cls {W : Wd} {φ : List Addr} {H : Hp} : ∀ (l : List D) (vs : List V), Reps W φ H l vs → D.cls φ.length l = true
  | [], _, _ => rfl
  | x :: l, vs, ⟨v, r, _, a, b⟩ => by
    unfold D.cls
    rw [Rep.cl x v a, Reps.cls l r b]
    rfl
end
mutual
theorem Rep.back {W : Wd} {φ ψ : List Addr} {H : Hp} : ∀ (d : D) (v : V), D.cl φ.length d = true → Rep W (φ ++ ψ) H d v → Rep W φ H d v
  | .non, _, _, h => h
  | .bl _, _, _, h => h
  | .int _, _, _, h => h
  | .str _, _, _, h => h
  | .nam _, _, _, h => h
  | .tup l, v, c, ⟨a, vs, e, t, r⟩ => ⟨a, vs, e, t, Reps.back l vs c r⟩
  | .loc n, v, c, ⟨a, e, q⟩ => ⟨a, e, by
    rw [List.getElem?_append_left (of_decide_eq_true c)] at q
    exact q⟩
theorem Reps.back {W : Wd} {φ ψ : List Addr} {H : Hp} : ∀ (l : List D) (vs : List V), D.cls φ.length l = true → Reps W (φ ++ ψ) H l vs → Reps W φ H l vs
  | [], _, _, h => h
  | x :: l, vs, c, ⟨v, r, e, a, b⟩ => by
    unfold D.cls at c
    rw [Bool.and_eq_true] at c
    exact ⟨v, r, e, Rep.back x v c.1 a, Reps.back l r c.2 b⟩
end
section
variable {W : Wd} {φ ψ : List Addr} {H H' : Hp}
theorem KvR.back : ∀ (l : List (D × D)) (vs : List (Key × V)), D.cls φ.length (l.map (·.2)) = true → KvR W (φ ++ ψ) H l vs → KvR W φ H l vs
  | [], _, _, h => h
  | (k, d) :: l, vs, c, ⟨k', v, r, e, a, b, q⟩ => by
    rw [List.map_cons] at c
    unfold D.cls at c
    rw [Bool.and_eq_true] at c
    exact ⟨k', v, r, e, a, Rep.back d v c.1 b, KvR.back l r c.2 q⟩
theorem FsR.back : ∀ (l : List (Str × D)) (vs : List (Str × V)), D.cls φ.length (l.map (·.2)) = true → FsR W (φ ++ ψ) H l vs → FsR W φ H l vs
  | [], _, _, h => h
  | (k, d) :: l, vs, c, ⟨v, r, e, b, q⟩ => by
    rw [List.map_cons] at c
    unfold D.cls at c
    rw [Bool.and_eq_true] at c
    exact ⟨v, r, e, Rep.back d v c.1 b, FsR.back l r c.2 q⟩
theorem RepA.back {a : Addr} : ∀ (o : MO), o.cl φ.length = true → RepA W (φ ++ ψ) H a o → RepA W φ H a o
  | .lst l, c, ⟨vs, e, r⟩ => ⟨vs, e, Reps.back l vs c r⟩
  | .frz l, c, ⟨vs, e, r⟩ => ⟨vs, e, Reps.back l vs c r⟩
  | .dic l, c, ⟨vs, e, r⟩ => ⟨vs, e, KvR.back l vs (by unfold MO.cl at c; rw [Bool.and_eq_true] at c; exact c.2) r⟩
  | .ins k l, c, ⟨dx, vs, e, r⟩ => ⟨dx, vs, e, FsR.back l vs c r⟩
  | .opq, _, _ => trivial
theorem KvR.cls : ∀ (l : List (D × D)) (vs : List (Key × V)), KvR W φ H l vs → D.cls φ.length (l.map (·.1)) = true ∧ D.cls φ.length (l.map (·.2)) = true
  | [], _, _ => ⟨rfl, rfl⟩
  | (k, d) :: l, vs, ⟨k', v, r, e, a, b, q⟩ => by
    obtain ⟨h1, h2⟩ := KvR.cls l r q
    rw [List.map_cons, List.map_cons]
    unfold D.cls
    rw [h1, h2, Rep.cl d v b]
    refine ⟨?_, rfl⟩
    cases k <;> first
      | rfl
      | exact a.elim
theorem FsR.cls : ∀ (l : List (Str × D)) (vs : List (Str × V)), FsR W φ H l vs → D.cls φ.length (l.map (·.2)) = true
  | [], _, _ => rfl
  | (k, d) :: l, vs, ⟨v, r, e, b, q⟩ => by
    rw [List.map_cons]
    unfold D.cls
    rw [Rep.cl d v b, FsR.cls l r q]
    rfl
theorem RepA.cl {a : Addr} : ∀ (o : MO), RepA W φ H a o → o.cl φ.length = true
  | .lst l, ⟨vs, e, r⟩ => Reps.cls l vs r
  | .frz l, ⟨vs, e, r⟩ => Reps.cls l vs r
  | .dic l, ⟨vs, e, r⟩ => by
    obtain ⟨h1, h2⟩ := KvR.cls l vs r
    show (D.cls _ _ && D.cls _ _) = true
    rw [h1, h2]
    rfl
  | .ins k l, ⟨dx, vs, e, r⟩ => FsR.cls l vs r
  | .opq, _ => rfl
end
/-- what stood stands, or holds nothing new -/
def okOld (n : Nat) : Ms → Ms → Bool
  | [], _ => true
  | _ :: _, [] => false
  | a :: M, b :: M' => (decide (a = b) || b.cl n) && okOld n M M'
def trim (M : Ms) (d : D) (M' : Ms) : D × Ms :=
  if okOld M.length M M' then
    if D.cl M.length d then (d, M'.take M.length)
    else match d with
      | .loc l => match M'[l]? with
        | some o => if o.cl M.length then (.loc M.length, M'.take M.length ++ [o]) else (d, M')
        | none => (d, M')
      | _ => (d, M')
  else (d, M')
section
variable {W : Wd} {φ φ' : List Addr} {H H' : Hp} {M M' : Ms}
theorem okOld_get : ∀ {n : Nat} {M M' : Ms}, okOld n M M' = true → M.length ≤ M'.length ∧ ∀ (i : Nat) (a b : MO), M[i]? = some a → M'[i]? = some b → a = b ∨ b.cl n = true
  | n, [], M', _ => ⟨by simp, fun i a b e => by simp at e⟩
  | n, _ :: _, [], h => by cases h
  | n, x :: M, y :: M', h => by
    unfold okOld at h
    rw [Bool.and_eq_true, Bool.or_eq_true, decide_eq_true_eq] at h
    obtain ⟨h1, h2⟩ := okOld_get h.2
    refine ⟨by simpa using h1, fun i a b e1 e2 => ?_⟩
    cases i with
    | zero =>
      simp at e1 e2
      subst e1 e2
      exact h.1
    | succ i => exact h2 i a b (by simpa using e1) (by simpa using e2)
theorem HS.trim0 (h : HS W φ M H) (h' : HS W φ' M' H') (g : Grow φ φ' H H') (ok : okOld M.length M M' = true) : HS W φ (M'.take M.length) H' := by
  obtain ⟨ψ, rfl⟩ := g.pre
  obtain ⟨hl, hi⟩ := okOld_get ok
  refine ⟨by rw [List.length_take, h.len]; omega, fun m o e => ?_, fun m k a o u e1 e2 e3 e4 f1 f2 => ?_, h'.tabs⟩
  · have hm : m < M.length := by
      have := (List.getElem?_eq_some_iff.mp e).1
      rw [List.length_take] at this
      omega
    rw [List.getElem?_take_of_lt hm] at e
    obtain ⟨a, ea, r⟩ := h'.at_ m o e
    rw [List.getElem?_append_left (by rw [h.len]; exact hm)] at ea
    refine ⟨a, ea, r.back o ?_⟩
    rw [h.len]
    rcases hi m _ o (List.getElem?_eq_getElem hm) e with z | z
    · obtain ⟨a2, _, r2⟩ := h.at_ m _ (List.getElem?_eq_getElem hm)
      have := r2.cl
      rw [h.len] at this
      rw [← z]
      exact this
    · exact z
  · have key : ∀ {j : Nat} {b : Addr} {x : MO}, φ[j]? = some b → (M'.take M.length)[j]? = some x → (φ ++ ψ)[j]? = some b ∧ M'[j]? = some x := fun {j b x} y1 y2 => by
      have hj : j < M.length := by
        have := (List.getElem?_eq_some_iff.mp y1).1
        rw [h.len] at this
        exact this
      rw [List.getElem?_take_of_lt hj] at y2
      exact ⟨by rw [List.getElem?_append_left (by rw [h.len]; exact hj)]; exact y1, y2⟩
    obtain ⟨y1, y2⟩ := key e1 e3
    obtain ⟨y3, y4⟩ := key e2 e4
    exact h'.inj m k a o u y1 y3 y2 y4 f1 f2
theorem trim_ok (h : HS W φ M H) (h' : HS W φ' M' H') (g : Grow φ φ' H H') {d : D} {v : V} (r : Rep W φ' H' d v) {d2 : D} {M2 : Ms} (e : trim M d M' = (d2, M2)) : ∃ φ2, Grow φ φ2 H H' ∧ HS W φ2 M2 H' ∧ Rep W φ2 H' d2 v := by
  unfold trim at e
  by_cases ok : okOld M.length M M' = true
  · rw [if_pos ok] at e
    have h0 := h.trim0 h' g ok
    have g0 : Grow φ φ H H' := ⟨⟨[], by simp⟩, g.tup⟩
    obtain ⟨ψ, rfl⟩ := g.pre
    by_cases hc : D.cl M.length d = true
    · rw [if_pos hc] at e
      cases e
      exact ⟨φ, g0, h0, r.back _ _ (by rw [h.len]; exact hc)⟩
    · rw [if_neg hc] at e
      have same : (d, M') = (d2, M2) → ∃ φ2, Grow φ φ2 H H' ∧ HS W φ2 M2 H' ∧ Rep W φ2 H' d2 v := fun e => by
        cases e
        exact ⟨_, g, h', r⟩
      cases d with
      | loc l =>
        simp only at e
        cases hl : M'[l]? with
        | none => rw [hl] at e; exact same e
        | some o =>
          rw [hl] at e
          simp only at e
          by_cases ho : o.cl M.length = true
          · rw [if_pos ho] at e
            cases e
            obtain ⟨a, rfl, ea⟩ := r
            obtain ⟨a', ea', ra⟩ := h'.at_ l o hl
            rw [ea] at ea'
            cases ea'
            have hle : ¬ l < M.length := fun z => hc (decide_eq_true z)
            have rb : RepA W φ H' a o := ra.back o (by rw [h.len]; exact ho)
            have gg : Grow φ (φ ++ [a]) H H' := ⟨⟨[a], rfl⟩, g.tup⟩
            have g1 : Grow φ (φ ++ [a]) H' H' := ⟨⟨[a], rfl⟩, fun _ _ _ z => z⟩
            have hlen : (M'.take M.length).length = M.length := by
              have := (okOld_get ok).1
              rw [List.length_take]
              omega
            refine ⟨φ ++ [a], gg, ⟨by rw [List.length_append, List.length_append, hlen, h.len]; rfl, fun m u e => ?_, fun m k b u x e1 e2 e3 e4 f1 f2 => ?_, h'.tabs⟩, a, rfl, by rw [← h.len]; simp⟩
            · by_cases hm : m < M.length
              · rw [List.getElem?_append_left (by rw [hlen]; exact hm)] at e
                obtain ⟨b, eb, r2⟩ := h0.at_ m u e
                exact ⟨b, g1.at_ eb, r2.grow g1 rfl⟩
              · rw [List.getElem?_append_right (by rw [hlen]; omega), hlen] at e
                have := (List.getElem?_eq_some_iff.mp e).1
                simp at this
                have e0 : m - M.length = 0 := by omega
                rw [e0] at e
                simp at e
                subst e
                have em : m = φ.length := by rw [h.len]; omega
                exact ⟨a, by rw [em]; simp, rb.grow g1 rfl⟩
            · have key : ∀ {j : Nat} {b : Addr} {x : MO}, (φ ++ [a])[j]? = some b → (M'.take M.length ++ [o])[j]? = some x → ∃ j', (φ ++ ψ)[j']? = some b ∧ M'[j']? = some x ∧ (j < M.length ∧ j' = j ∨ j = M.length ∧ j' = l) := fun {j b x} y1 y2 => by
                by_cases hj : j < M.length
                · rw [List.getElem?_append_left (by rw [hlen]; exact hj), List.getElem?_take_of_lt hj] at y2
                  rw [List.getElem?_append_left (by rw [h.len]; exact hj)] at y1
                  exact ⟨j, by rw [List.getElem?_append_left (by rw [h.len]; exact hj)]; exact y1, y2, .inl ⟨hj, rfl⟩⟩
                · rw [List.getElem?_append_right (by rw [hlen]; omega), hlen] at y2
                  have := (List.getElem?_eq_some_iff.mp y2).1
                  simp at this
                  have e0 : j - M.length = 0 := by omega
                  rw [e0] at y2
                  simp at y2
                  subst y2
                  rw [List.getElem?_append_right (by rw [h.len]; omega), h.len, e0] at y1
                  simp at y1
                  subst y1
                  exact ⟨l, ea, hl, .inr ⟨by omega, rfl⟩⟩
              obtain ⟨j1, y1, y2, y3⟩ := key e1 e3
              obtain ⟨j2, y4, y5, y6⟩ := key e2 e4
              have := h'.inj j1 j2 b u x y1 y4 y2 y5 f1 f2
              omega
          · rw [if_neg ho] at e
            exact same e
      | _ => exact same e
  · rw [if_neg ok] at e
    cases e
    exact ⟨φ', g, h', r⟩
end
def eTr (m : EM) : EM := fun ρ M => match m ρ M with
  | some (.ok d, M') => some (.ok (trim M d M').1, (trim M d M').2)
  | some (.ex c d, M') => some (.ex c (trim M d M').1, (trim M d M').2)
  | none => none
def tTr (m : TM) : TM := fun ρ M => match m ρ M with
  | some (.ok b, M') => some (.ok b, (trim M .non M').2)
  | some (.ex c d, M') => some (.ex c (trim M d M').1, (trim M d M').2)
  | none => none
section
variable {X : Cx} {W : Wd} {w : WX} {e : Expr} {me : EM} {ta : TM} {σ : L2.St} {φ : List Addr} {H : Hp} {M : Ms}
theorem out_trim {α : Type} {o : Ot α} {Q : α → Ms → List Addr → Hp → Prop} {r : Res α} {M' : Ms} (hs : HS W φ M H) (e : o = some (r, M')) :
    (match r with
      | .ok a => ∀ M2 φ' H', Grow φ φ' H H' → HS W φ' M' H' → Q a M2 φ' H'
      | .ex c d => Out W w σ φ H (some (Res.ex (α := α) c (trim M d M').1, (trim M d M').2)) Q) → Out W w σ φ H o Q := by
  intro h
  subst e
  cases r with
  | ok a => exact ⟨.ok a, M', rfl, fun φ' H' g hs' => h M' φ' H' g hs'⟩
  | ex c d =>
    obtain ⟨r2, M2, e2, q2⟩ := h
    cases e2
    refine ⟨.ex c d, M', rfl, fun φ' H' g hs' a v ha rv => ?_⟩
    obtain ⟨φ2, g2, h2, r2⟩ := trim_ok hs hs' g rv (Prod.ext rfl rfl)
    exact q2 φ2 H' g2 h2 a v ha r2
theorem x_tr (h : EX X W w e me) : EX X W w e (eTr me) := PE.less h fun σ H Q ⟨φ, ρ, M, hs, ro, out⟩ => by
  refine ⟨φ, ρ, M, hs, ro, ?_⟩
  unfold eTr at out
  cases hm : me ρ M with
  | none => rw [hm] at out; exact out.no.elim
  | some p =>
    obtain ⟨r, M'⟩ := p
    rw [hm] at out
    cases r with
    | ok d =>
      obtain ⟨r2, M2, e2, q2⟩ := out
      cases e2
      refine ⟨.ok d, M', rfl, fun φ' H' g hs' v rv => ?_⟩
      obtain ⟨φ2, g2, h2, r2⟩ := trim_ok hs hs' g rv (Prod.ext rfl rfl)
      exact q2 φ2 H' g2 h2 v r2
    | ex c d => exact out_trim hs rfl out
theorem t_tr (h : TX X W w e ta) : TX X W w e (tTr ta) := PT.less h fun σ H Q ⟨φ, ρ, M, hs, ro, out⟩ => by
  refine ⟨φ, ρ, M, hs, ro, ?_⟩
  unfold tTr at out
  cases hm : ta ρ M with
  | none => rw [hm] at out; exact out.no.elim
  | some p =>
    obtain ⟨r, M'⟩ := p
    rw [hm] at out
    cases r with
    | ok d =>
      obtain ⟨r2, M2, e2, q2⟩ := out
      cases e2
      refine ⟨.ok d, M', rfl, fun φ' H' g hs' => ?_⟩
      obtain ⟨φ2, g2, h2, r2⟩ := trim_ok (d := .non) (v := .non) hs hs' g rfl (Prod.ext rfl rfl)
      exact q2 φ2 H' g2 h2
    | ex c d => exact out_trim hs rfl out
end
end G
end
section
set_option Elab.async false
set_option linter.all false
set_option maxRecDepth 100000
set_option maxHeartbeats 4000000
/-! # built-in functions by data -/
namespace G
open PySem PySem.Spec PyProof.Rows L2
abbrev Fn := List D → Ms → Ot D
def eB (f : Fn) (m : AM) : EM := fun ρ M => bnd (m ρ M) fun xs M1 => f xs M1
def CallD (W : Wd) (r : List V → Hp → VK → Prop) (f : Fn) : Prop := ∀ (w : WX) (σ : L2.St) (φ : List Addr) (H : Hp) (M : Ms) (xs : List D) (vs : List V) (Q : VK), HS W φ M H → Reps W φ H xs vs →
  (Out W w σ φ H (f xs M) fun d _ φ' H' => ∀ v, Rep W φ' H' d v → Q v H') → r vs H Q
section
variable {X : Cx} {W : Wd} {w : WX} {pos p : Pos} {e : Expr} {es : List Expr} {m : AM} {x : Str} {r : List V → Hp → VK → Prop} {f : Fn} {id : String}
theorem cb_run (hf : CallD W r f) : ∀ (σ : L2.St) (H : Hp) (Q : VK), toE W w (eB f m) σ H Q → tCB r (toA W w m) σ H Q := fun σ H Q ⟨φ, ρ, M, hs, ro, out⟩ =>
  ⟨φ, ρ, M, hs, ro, (Out.bnd out).imp fun xs M1 φ1 H1 _ g1 h1 out1 vs rv => hf w σ φ1 H1 M1 xs vs Q h1 rv out1⟩
theorem x_callB (hc : CallR X (.builtin id) r) (hf : CallD W r f) (hv : bootBuiltins x = some (.builtin id)) (hg : Gl X x) (hm : X.mg x = none) (ha : AX X W w (e :: es) m) (hn : x ≠ "__name__" := by decide) (hdb : (x == ("__debug__" : Str)) = false := by decide)
    (he : starEach (e :: es) X.env = (false, eval e X.env) :: starEach es X.env := by rfl) (hpl : (backTo pos (starEach es X.env)).any (·.1) = false := by rfl) : EX X W w (.Call (.Name x p) (e :: es) [] pos) (eB f m) :=
  (pe_callB hc hg hm hv ha hn hdb he hpl).less (cb_run hf)
theorem x_callTy (hc : CallR X (.type id) r) (hf : CallD W r f) (hv : bootBuiltins x = some (.type id)) (hg : Gl X x) (hm : X.mg x = none) (ha : AX X W w (e :: es) m) (hn : x ≠ "__name__" := by decide) (hdb : (x == ("__debug__" : Str)) = false := by decide)
    (he : starEach (e :: es) X.env = (false, eval e X.env) :: starEach es X.env := by rfl) (hpl : (backTo pos (starEach es X.env)).any (·.1) = false := by rfl) : EX X W w (.Call (.Name x p) (e :: es) [] pos) (eB f m) :=
  (pe_callTy hc hg hm hv ha hn hdb he hpl).less (cb_run hf)
end
/-- what is counted, walked: a list or a tuple -/
def itemsOf (M : Ms) : D → Option (List D)
  | .tup l => some l
  | .nam ss => some (ss.map D.str)
  | .loc n => seqAt M n
  | _ => none
def asInts : List D → Option (List Int)
  | [] => some []
  | .int i :: r => (asInts r).map (i :: ·)
  | _ => none
def asBls : List D → Option (List Bool)
  | [] => some []
  | .bl i :: r => (asBls r).map (i :: ·)
  | _ => none
@[simp] theorem asInts_map : ∀ ns : List Int, asInts (ns.map D.int) = some ns
  | [] => rfl
  | n :: r => by
    rw [List.map_cons]
    unfold asInts
    rw [asInts_map r]
    rfl
@[simp] theorem asBls_map : ∀ ns : List Bool, asBls (ns.map D.bl) = some ns
  | [] => rfl
  | n :: r => by
    rw [List.map_cons]
    unfold asBls
    rw [asBls_map r]
    rfl
theorem of_asInts : ∀ {l : List D} {ns : List Int}, asInts l = some ns → l = ns.map D.int
  | [], ns, h => by cases h; rfl
  | d :: r, ns, h => by
    cases d with
    | int i =>
      unfold asInts at h
      cases hr : asInts r with
      | none => rw [hr] at h; cases h
      | some ms =>
        rw [hr] at h
        cases h
        rw [of_asInts hr]
        rfl
    | _ => cases h
theorem of_asBls : ∀ {l : List D} {ns : List Bool}, asBls l = some ns → l = ns.map D.bl
  | [], ns, h => by cases h; rfl
  | d :: r, ns, h => by
    cases d with
    | bl i =>
      unfold asBls at h
      cases hr : asBls r with
      | none => rw [hr] at h; cases h
      | some ms =>
        rw [hr] at h
        cases h
        rw [of_asBls hr]
        rfl
    | _ => cases h
section
variable {W : Wd} {φ : List Addr} {H : Hp} {M : Ms}
theorem reps_ints : ∀ {ns : List Int} {vs : List V}, Reps W φ H (ns.map D.int) vs → vs = ns.map V.int
  | [], _, h => h
  | n :: r, _, ⟨v, us, e, e1, e2⟩ => by
    rw [e, show v = V.int n from e1, reps_ints e2]
    rfl
theorem ints_reps : ∀ ns : List Int, Reps W φ H (ns.map D.int) (ns.map V.int)
  | [] => rfl
  | n :: r => ⟨_, _, rfl, rfl, ints_reps r⟩
theorem reps_bls : ∀ {ns : List Bool} {vs : List V}, Reps W φ H (ns.map D.bl) vs → vs = ns.map V.bl
  | [], _, h => h
  | n :: r, _, ⟨v, us, e, e1, e2⟩ => by
    rw [e, show v = V.bl n from e1, reps_bls e2]
    rfl
theorem HS.items (h : HS W φ M H) {d : D} {v : V} {l : List D} (e : itemsOf M d = some l) (r : Rep W φ H d v) : ∃ a vs, v = .ref a ∧ (SqL W.K H a vs ∨ SqT W.K H a vs) ∧ Reps W φ H l vs := by
  cases d with
  | tup k =>
    cases e
    obtain ⟨a, vs, rfl, t, rs⟩ := r
    exact ⟨a, vs, rfl, .inr t.sq, rs⟩
  | nam ss =>
    cases e
    obtain ⟨a, rfl, t⟩ := r
    exact ⟨a, _, rfl, .inr t.sq, reps_nam ss⟩
  | loc n =>
    obtain ⟨a, vs, rfl, _, sq, rs⟩ := h.seq e r
    exact ⟨a, vs, rfl, .inl sq, rs⟩
  | _ => cases e
/-- one argument -/
theorem Reps.one {d : D} {vs : List V} (r : Reps W φ H [d] vs) : ∃ v, vs = [v] ∧ Rep W φ H d v := by
  obtain ⟨v, us, rfl, h, e⟩ := r
  rw [show us = [] from e]
  exact ⟨v, rfl, h⟩
theorem Reps.two {d c : D} {vs : List V} (r : Reps W φ H [d, c] vs) : ∃ v u, vs = [v, u] ∧ Rep W φ H d v ∧ Rep W φ H c u := by
  obtain ⟨v, us, rfl, h, u, us2, rfl, h2, e⟩ := r
  rw [show us2 = [] from e]
  exact ⟨v, u, rfl, h, h2⟩
end
/-! ### len, sum, all, any, abs, int -/
def fLen : Fn := fun xs M => match xs with
  | [.str s] => ret (s.length ≤ sizeLine) (.int s.length) M
  | [d] => match itemsOf M d with
    | some l => some (.ok (.int l.length), M)
    | none => none
  | _ => none
def fSum : Fn := fun xs M => match xs with
  | [d] => match (itemsOf M d).bind asInts with
    | some ns => some (.ok (.int ns.sum), M)
    | none => none
  | _ => none
def fAll : Fn := fun xs M => match xs with
  | [.loc n] => match (seqAt M n).bind asBls with
    | some bs => some (.ok (.bl (bs.all id)), M)
    | none => none
  | _ => none
def fAny : Fn := fun xs M => match xs with
  | [.loc n] => match (seqAt M n).bind asBls with
    | some bs => some (.ok (.bl (bs.any id)), M)
    | none => none
  | _ => none
def fAbs : Fn := fun xs M => match xs with
  | [.int i] => some (.ok (.int (if i < 0 then -i else i)), M)
  | _ => none
def fInt : Fn := fun xs M => match xs with
  | [.int i] => some (.ok (.int i), M)
  | _ => none
def fTuple : Fn := fun xs M => match xs with
  | [.tup l] => some (.ok (.tup l), M)
  | [.loc n] => match seqAt M n with
    | some l => some (.ok (.tup l), M)
    | none => none
  | _ => none
def fList : Fn := fun xs M => match xs with
  | [d] => match itemsOf M d with
    | some l => some (.ok (.loc M.length), M ++ [.lst l])
    | none => none
  | _ => none
section
variable {X : Cx} {W : Wd}
def rLen2 (K : PySem.W.Frag) : List V → Hp → VK → Prop := fun xs H Q => (∃ p ys, xs = [.ref p] ∧ (SqL K H p ys ∨ SqT K H p ys) ∧ Q (.int ys.length) H) ∨ ∃ z, xs = [.str z] ∧ z.length ≤ sizeLine ∧ Q (.int z.length) H
theorem len_r : CallR X (.builtin "len") (rLen2 X.K) := call_len_seq.or call_len_str
theorem len_d : CallD W (rLen2 W.K) fLen := fun w σ φ H M xs vs Q hs rx out => by
  unfold fLen at out
  split at out
  · obtain ⟨hl, out⟩ := out.ret
    obtain ⟨v, rfl, r⟩ := rx.one
    exact .inr ⟨_, by rw [show v = _ from r], by rw [str_len]; exact hl, out.now hs _ (by rw [str_len]; rfl)⟩
  · split at out
    · rename_i e
      obtain ⟨v, rfl, r⟩ := rx.one
      obtain ⟨a, us, rfl, sq, rs⟩ := hs.items e r
      exact .inl ⟨a, us, rfl, sq, out.now hs _ (by rw [rs.len]; rfl)⟩
    · exact out.no.elim
  · exact out.no.elim
def rSum2 (K : PySem.W.Frag) : List V → Hp → VK → Prop := fun vs H Q => ∃ (a : Addr) (ns : List Int), vs = [V.ref a] ∧ (SqL K H a (ns.map V.int) ∨ SqT K H a (ns.map V.int)) ∧ Q (.int ns.sum) H
theorem sum_r (hc : X.calm = true) : CallR X (.builtin "sum") (rSum2 X.K) := fun pins s σ H vs us Q I r h => by
  obtain ⟨a, ns, rfl, hs | hs, q⟩ := h
  · exact cr_sum hc pins s σ H _ us Q I r ⟨a, ns, rfl, hs, q⟩
  · obtain ⟨its, rv, ht, _⟩ := I.tuple hs
    rw [Vals.ref1 r]
    have hi := rv.ints
    obtain ⟨xs, e⟩ := hi.allInts.items
    have hn : numsOf (intItems xs).toList = ns := by rw [← e]; exact hi.numsOf
    rw [nums_intItems] at hn
    rw [e] at ht
    refine PySem.W.ktm_sumG (I.ok.hd hc) ht fun h' tk t' hk => ?_
    rw [preSum_eq, List.take_of_length_le (by simp), hn]
    exact ⟨.int _, H, I.kept hk, ⟨_, rfl⟩, q⟩
theorem sum_d : CallD W (rSum2 W.K) fSum := fun w σ φ H M xs vs Q hs rx out => by
  unfold fSum at out
  split at out
  · split at out
    · rename_i d _ ns e
      obtain ⟨v, rfl, r⟩ := rx.one
      cases hi : itemsOf M d with
      | none => rw [hi] at e; cases e
      | some l =>
        rw [hi] at e
        have el := of_asInts (show asInts l = some ns from e)
        subst el
        obtain ⟨a, us, rfl, sq, rs⟩ := hs.items hi r
        rw [reps_ints rs] at sq
        exact ⟨a, ns, rfl, sq, out.now hs _ rfl⟩
    · exact out.no.elim
  · exact out.no.elim
theorem all_d : CallD W (rAll W.K) fAll := fun w σ φ H M xs vs Q hs rx out => by
  unfold fAll at out
  split at out
  · split at out
    · rename_i n _ bs e
      obtain ⟨v, rfl, r⟩ := rx.one
      cases hi : seqAt M n with
      | none => rw [hi] at e; cases e
      | some l =>
        rw [hi] at e
        have el := of_asBls (show asBls l = some bs from e)
        subst el
        obtain ⟨a, us, rfl, _, sq, rs⟩ := hs.seq hi r
        rw [reps_bls rs] at sq
        exact ⟨a, bs, rfl, sq, out.now hs _ rfl⟩
    · exact out.no.elim
  · exact out.no.elim
theorem any_d : CallD W (rAny W.K) fAny := fun w σ φ H M xs vs Q hs rx out => by
  unfold fAny at out
  split at out
  · split at out
    · rename_i n _ bs e
      obtain ⟨v, rfl, r⟩ := rx.one
      cases hi : seqAt M n with
      | none => rw [hi] at e; cases e
      | some l =>
        rw [hi] at e
        have el := of_asBls (show asBls l = some bs from e)
        subst el
        obtain ⟨a, us, rfl, _, sq, rs⟩ := hs.seq hi r
        rw [reps_bls rs] at sq
        exact ⟨a, bs, rfl, sq, out.now hs _ rfl⟩
    · exact out.no.elim
  · exact out.no.elim
theorem abs_d : CallD W (fun xs H Q => ∃ i, xs = [.int i] ∧ Q (.int (if i < 0 then -i else i)) H) fAbs := fun w σ φ H M xs vs Q hs rx out => by
  unfold fAbs at out
  split at out
  · obtain ⟨v, rfl, r⟩ := rx.one
    exact ⟨_, by rw [show v = _ from r], out.now hs _ rfl⟩
  · exact out.no.elim
theorem int_d : CallD W (fun xs H Q => (∃ i, xs = [.int i] ∧ Q (.int i) H) ∨ ∃ k, xs = [.bl k] ∧ Q (.int (if k then 1 else 0)) H) fInt := fun w σ φ H M xs vs Q hs rx out => by
  unfold fInt at out
  split at out
  · obtain ⟨v, rfl, r⟩ := rx.one
    exact .inl ⟨_, by rw [show v = _ from r], out.now hs _ rfl⟩
  · exact out.no.elim
theorem tuple_d : CallD W (fun xs H Q => ∃ p ys, xs = [.ref p] ∧ ((SqL W.K H p ys ∧ ∀ l, H l = none → Q (.ref l) (upd H l (.tup ys))) ∨ (SqT W.K H p ys ∧ Q (.ref p) H))) fTuple := fun w σ φ H M xs vs Q hs rx out => by
  unfold fTuple at out
  split at out
  · obtain ⟨v, rfl, a, us, rfl, t, rs⟩ := rx.one
    exact ⟨a, us, rfl, .inr ⟨t.sq, out.now hs _ ⟨a, us, rfl, t, rs⟩⟩⟩
  · split at out
    · rename_i n l e
      obtain ⟨v, rfl, r⟩ := rx.one
      obtain ⟨a, us, rfl, _, sq, rs⟩ := hs.seq e r
      refine ⟨a, us, rfl, .inl ⟨sq, fun q n => ?_⟩⟩
      obtain ⟨g, h2, r3⟩ := new_tup hs n rs
      exact out.then_ g h2 _ r3
    · exact out.no.elim
  · exact out.no.elim
theorem list_d : CallD W (fun xs H Q => ∃ p ys, xs = [.ref p] ∧ (SqL W.K H p ys ∨ SqT W.K H p ys) ∧ ∀ l, H l = none → Q (.ref l) (upd H l (.lst ys))) fList := fun w σ φ H M xs vs Q hs rx out => by
  unfold fList at out
  split at out
  · split at out
    · rename_i d l e
      obtain ⟨v, rfl, r⟩ := rx.one
      obtain ⟨a, us, rfl, sq, rs⟩ := hs.items e r
      refine ⟨a, us, rfl, sq, fun q n => ?_⟩
      obtain ⟨g, h2, r3⟩ := new_lst hs n rs
      exact out.then_ g h2 _ r3
    · exact out.no.elim
  · exact out.no.elim
end
/-! ### max, min of two ints -/
def fMax2 : Fn := fun xs M => match xs with
  | [.int i, .int j] => some (.ok (.int (if j > i then j else i)), M)
  | _ => none
def fMin2 : Fn := fun xs M => match xs with
  | [.int i, .int j] => some (.ok (.int (if j < i then j else i)), M)
  | _ => none
section
variable {X : Cx} {W : Wd}
theorem max2_d : CallD W (fun xs H Q => ∃ i j, xs = [.int i, .int j] ∧ Q (.int (if j > i then j else i)) H) fMax2 := fun w σ φ H M xs vs Q hs rx out => by
  unfold fMax2 at out
  split at out
  · obtain ⟨v, u, rfl, r, r2⟩ := rx.two
    exact ⟨_, _, by rw [show v = _ from r, show u = _ from r2], out.now hs _ rfl⟩
  · exact out.no.elim
theorem min2_d : CallD W (fun xs H Q => ∃ i j, xs = [.int i, .int j] ∧ Q (.int (if j < i then j else i)) H) fMin2 := fun w σ φ H M xs vs Q hs rx out => by
  unfold fMin2 at out
  split at out
  · obtain ⟨v, u, rfl, r, r2⟩ := rx.two
    exact ⟨_, _, by rw [show v = _ from r, show u = _ from r2], out.now hs _ rfl⟩
  · exact out.no.elim
end
/-! ### isinstance -/
/-- the built-in type of a value -/
def tyOf (M : Ms) : D → Option String
  | .non => some "NoneType"
  | .bl _ => some "bool"
  | .int _ => some "int"
  | .str _ => some "str"
  | .tup _ => some "tuple"
  | .nam _ => some "tuple"
  | .loc n => match M[n]? with
    | some (.lst _) => some "list"
    | some (.dic _) => some "dict"
    | _ => none
def fIs (T : String) : Fn := fun xs M => match xs with
  | [d] => match (tyOf M d).bind fun t => kitB t T with
    | some b => some (.ok (.bl b), M)
    | none => none
  | _ => none
section
variable {X : Cx} {W : Wd} {w : WX} {pos p p2 : Pos} {e : Expr} {me : EM}
theorem tupAt_ty {K : PySem.W.Frag} {H : Hp} {a : Addr} {vs : List V} (t : TupAt K H a vs) : TyX K H (.ref a) (.type "tuple") := by
  rcases t with t | (t | t)
  · exact .base (.tup t)
  · rcases t with t | ⟨o, t⟩ <;> cases t
  · obtain ⟨o, its, n, e, c, _⟩ := t
    exact .kTuple e c
theorem ty_of {φ : List Addr} {H : Hp} {M : Ms} {d : D} {v : V} {T : String} (hs : HS W φ M H) (r : Rep W φ H d v) (e : tyOf M d = some T) : TyX W.K H v (.type T) := by
  cases d with
  | non => cases e; rw [show v = _ from r]; exact .base .non
  | bl b => cases e; rw [show v = _ from r]; exact .base (.bl b)
  | int b => cases e; rw [show v = _ from r]; exact .base (.int b)
  | str b => cases e; rw [show v = _ from r]; exact .base (.str _)
  | tup l =>
    cases e
    obtain ⟨a, vs, rfl, t, _⟩ := r
    exact tupAt_ty t
  | nam ss =>
    cases e
    obtain ⟨a, rfl, t⟩ := r
    rcases t with ⟨o, t, _⟩ | ⟨_, o, t, c, _⟩
    · exact .fTuple t
    · exact .kTuple t c
  | loc n =>
    unfold tyOf at e
    dsimp only at e
    obtain ⟨a, rfl, ea⟩ := r
    cases hm : M[n]? with
    | none => rw [hm] at e; cases e
    | some o =>
      rw [hm] at e
      obtain ⟨a', ea', ra⟩ := hs.at_ n o hm
      rw [ea] at ea'
      cases ea'
      cases o with
      | lst l =>
        cases e
        obtain ⟨vs, h1, _⟩ := ra
        exact .base (.lst h1)
      | dic l =>
        cases e
        obtain ⟨vs, h1, _⟩ := ra
        exact .base (.dK h1)
      | _ => cases e
/-- isinstance(e, T), T a built-in type's name -/
theorem x_isi {T : String} {tn : Str} (hT : bootBuiltins tn = some (.type T)) (hgi : Gl X "isinstance") (hmi : X.mg "isinstance" = none) (hgt : Gl X tn) (hmt : X.mg tn = none) (he : EX X W w e me) (hK : W.K = X.K := by rfl) (hn : tn ≠ "__name__" := by decide) (hdt : (tn == ("__debug__" : Str)) = false := by decide)
    (hs1 : starEach [e, .Name tn p2] X.env = (false, eval e X.env) :: starEach [.Name tn p2] X.env := by rfl) (hs2 : starEach [.Name tn p2] X.env = (false, eval (.Name tn p2) X.env) :: starEach [] X.env := by rfl) (hpl : (backTo pos (starEach [.Name tn p2] X.env)).any (·.1) = false := by rfl) :
    EX X W w (.Call (.Name "isinstance" p) [e, .Name tn p2] [] pos) (eB (fIs T) (aCons me aNil)) :=
  (pe_callB call_isi hgi hmi (by decide +kernel) (pa_cons he (pa_cons (pe_bltn (v := .ty T) hgt hmt hT rfl hn hdt) pa_nil hs2) hs1) (by decide) (by decide) hs1 hpl).less fun σ H Q ⟨φ, ρ, M, hs, ro, out⟩ =>
    ⟨φ, ρ, M, hs, ro, (Out.bnd (Out.bnd out)).imp fun d M1 φ1 H1 _ g1 h1 out1 v rv => by
      have out1 := out1
      simp only [aNil, bnd_ok] at out1
      replace out1 := out1.now h1
      unfold fIs at out1
      dsimp only at out1
      split at out1
      · rename_i b hb
        cases ht : tyOf M1 d with
        | none => rw [ht] at hb; cases hb
        | some t =>
          rw [ht] at hb
          exact ⟨v, .ty T, .type t, .type T, b, rfl, .ty T, hK ▸ ty_of h1 rv ht, kit_ty hb, out1.now h1 _ rfl⟩
      · exact out1.no.elim⟩
end
end G
end
section
set_option Elab.async false
set_option linter.all false
set_option maxRecDepth 100000
set_option maxHeartbeats 4000000
/-! # defs, calls, comprehensions, stores -/
namespace G
open PySem PySem.Spec PyProof.Rows L2
/-! ### a def -/
/-- what a body leaves, cleaned -/
def finF (M : Ms) : Option (Fl × Ro × Ms) → Ot D
  | some (.rt d, _, M') => some (.ok (trim M d M').1, (trim M d M').2)
  | some (.nx, _, M') => some (.ok .non, (trim M .non M').2)
  | some (.ex c d, _, M') => some (.ex c (trim M d M').1, (trim M d M').2)
  | _ => none
def callF (np n : Nat) (b : SM) : Fn := fun ds M => if ds.length = np then finF M (b (ds.map some ++ List.replicate n none) M) else none
def spF (W : Wd) (np : Nat) (f : Fn) : Sp := fun vs H Q E => ∃ φ M ds, HS W φ M H ∧ Reps W φ H ds vs ∧ ds.length = np ∧ Out W (fun c d _ H' => E c d H') [] φ H (f ds M) fun d _ φ' H' => ∀ v, Rep W φ' H' d v → Q v H'
section
variable {P : Program} {w : World} {K : PySem.W.Frag} {mg : Str → Option Value} {base : Heap} {W : Wd}
theorem fn_run {E : XK} {Q : VK} {φ : List Addr} {H : Hp} {M : Ms} {o : Option (Fl × Ro × Ms)} (hs : HS W φ M H)
    (h : Out W (fun c d _ H' => E c d H') [] φ H (finF M o) fun d _ φ' H' => ∀ v, Rep W φ' H' d v → Q v H') : OutS W (fun c d _ H' => E c d H') φ H o { nx := fun _ H' => Q .non H', rt := Q } := by
  cases o with
  | none => exact h.no.elim
  | some p =>
    obtain ⟨f, ρ', M'⟩ := p
    obtain ⟨r2, M2, e2, q2⟩ := h
    cases f with
    | nx =>
      cases e2
      refine ⟨.nx, ρ', M', rfl, fun φ' σ' H' g hs' ro' => ?_⟩
      obtain ⟨φ2, g2, h2, r2⟩ := trim_ok (d := .non) (v := .non) hs hs' g rfl (Prod.ext rfl rfl)
      exact q2 φ2 H' g2 h2 .non rfl
    | rt d =>
      cases e2
      refine ⟨.rt d, ρ', M', rfl, fun φ' σ' H' g hs' ro' v rv => ?_⟩
      obtain ⟨φ2, g2, h2, r2⟩ := trim_ok hs hs' g rv (Prod.ext rfl rfl)
      exact q2 φ2 H' g2 h2 v r2
    | bk => cases e2
    | ct => cases e2
    | ex c d =>
      cases e2
      refine ⟨.ex c d, ρ', M', rfl, fun φ' σ' H' g hs' ro' a v ha rv => ?_⟩
      obtain ⟨φ2, g2, h2, r2⟩ := trim_ok hs hs' g rv (Prod.ext rfl rfl)
      exact q2 φ2 H' g2 h2 a v ha r2
abbrev wE (E : XK) : WX := fun c d _ H' => E c d H'
theorem fn_ok {x qual : Str} {st : Stmt} {f : Addr} {fd : FuncData} {N ps : List Str} {k : Nat} {b : SM} (F : Fun K x qual st f fd) (S : FnScope N ps (defScope st)) (hK : W.K = K)
    (hb : ∀ (cdv : Value) (A : Around) (outer : List Env) (s : Shared) (H : Hp) (E : XK), Room k (A.deeper (envOfC qual (defScope st) s.heap.objs.size f cdv)) → Takes (cxOf (L2.CX P w) P w K mg base N qual (defScope st) f cdv A outer s H E) (wE E) →
      PassesOwn (model P w) (A.deeper (envOfC qual (defScope st) s.heap.objs.size f cdv)) (envOfC qual (defScope st) s.heap.objs.size f cdv) (cxOf (L2.CX P w) P w K mg base N qual (defScope st) f cdv A outer s H E).xe →
      SSX (cxOf (L2.CX P w) P w K mg base N qual (defScope st) f cdv A outer s H E) W (wE E) (defBody st) b) : FnOk P w K mg base (L2.CX P w) (k + 1) f fd ps (spF W ps.length (callF ps.length (N.length - ps.length) b)) := by
  refine F.okX S (fun vs H Q E h => ?_) (fun cdv A outer s H vs Q E hr h => ⟨toS W (wE E) b, hb cdv A outer s H E hr (takes_of rfl rfl rfl rfl) (passes_of (K := fun e s'' => L2.CX P w outer H s E e s'') rfl), ?_⟩)
  · obtain ⟨φ, M, ds, hs, r, hl, _⟩ := h
    rw [r.len, hl]
  · obtain ⟨φ, M, ds, hs, r, hl, out⟩ := h
    unfold callF at out
    rw [if_pos hl] at out
    refine ⟨φ, _, M, hs, ?_, fn_run hs out⟩
    unfold L2.start
    rw [r.len, hl]
    exact RoOk.start _ r
end
/-! ### calls -/
def eCall (f : Fn) (m : AM) : EM := fun ρ M => bnd (m ρ M) fun xs M1 => f xs M1
section
variable {X : Cx} {W : Wd} {w : WX} {pos p : Pos} {e : Expr} {es : List Expr} {m : AM} {x : Str} {k np : Nat} {f : Addr} {fd : FuncData} {ps : List Str} {fn : Fn}
theorem call_len {σ : L2.St} {φ : List Addr} {H : Hp} {M : Ms} {xs : List D} {Q : D → Ms → List Addr → Hp → Prop} {b : SM} {n : Nat} (h : Out W w σ φ H (callF np n b xs M) Q) : xs.length = np := by
  unfold callF at h
  by_cases hl : xs.length = np
  · exact hl
  · rw [if_neg hl] at h
    exact h.no.elim
/-- a function that wants so many arguments -/
def Arity (np : Nat) (f : Fn) : Prop := ∀ xs M, f xs M ≠ none → xs.length = np
theorem arity_callF {np n : Nat} {b : SM} : Arity np (callF np n b) := fun xs M h => by
  unfold callF at h
  by_cases hl : xs.length = np
  · exact hl
  · rw [if_neg hl] at h
    exact absurd rfl h
theorem x_call (ar : Arity np fn) (F : FnOk X.prog X.w X.K X.mg X.base (L2.CX X.prog X.w) k f fd ps (spF W np fn)) (hr : Room k X.A) (hg : Gl X x) (hm : X.mg x = some (.ref f)) (hk : PySem.W.keepIn X.K (.ref f) = true) (hb : Binds X.K fd ps []) (tk : Takes X w)
    (ha : AX X W w (e :: es) m) (hdb : (x == ("__debug__" : Str)) = false := by decide) (he : starEach (e :: es) X.env = (false, eval e X.env) :: starEach es X.env := by rfl) (hpl : (backTo pos (starEach es X.env)).any (·.1) = false := by rfl) :
    EX X W w (.Call (.Name x p) (e :: es) [] pos) (eCall fn m) :=
  (pe_callSD (dvs := []) (E := fun σ => WE w σ) F hr hg hm hk hb .nil (fun σ => passAt tk σ) ha hdb he hpl).less fun σ H Q ⟨φ, ρ, M, hs, ro, out⟩ =>
    ⟨φ, ρ, M, hs, ro, (Out.bnd out).imp fun xs M1 φ1 H1 _ g1 h1 out1 vs rv => ⟨φ1, M1, xs, h1, by rw [List.append_nil]; exact rv, ar xs M1 (fun z => by rw [z] at out1; exact out1.no), out1⟩⟩
theorem x_call0 (ar : Arity np fn) (F : FnOk X.prog X.w X.K X.mg X.base (L2.CX X.prog X.w) k f fd ps (spF W np fn)) (hr : Room k X.A) (hg : Gl X x) (hm : X.mg x = some (.ref f)) (hk : PySem.W.keepIn X.K (.ref f) = true) (hb : Binds X.K fd ps []) (tk : Takes X w)
    (hdb : (x == ("__debug__" : Str)) = false := by decide) : EX X W w (.Call (.Name x p) [] [] pos) (eCall fn aNil) := by
  refine ⟨fun pins s σ H Q I ⟨φ, ρ, M, hs, ro, out⟩ => ?_⟩
  refine wpAny_Call_Name_kw (ld_glob I hg hm ?_ hdb)
  have out1 : Out W w σ φ H (fn [] M) fun d _ φ' H' => ∀ v, Rep W φ' H' d v → Q v H' := out
  exact PySem.W.callWith_K0 I.kIn hk (run_fnSD (us := []) (dvs := []) (E := fun σ => WE w σ) F hr hb .nil (passAt tk σ) I .nil ⟨φ, M, [], hs, rfl, ar [] M (fun z => by rw [z] at out1; exact out1.no), out1⟩)
/-- keywords -/
def kCall (f : Fn) (g : List D → List D → List D) (m mk : AM) : EM := fun ρ M => bnd (m ρ M) fun xs M1 => bnd (mk ρ M1) fun ys M2 => f (g xs ys) M2
abbrev KX (X : Cx) (W : Wd) (w : WX) (kws : List Keyword) (m : AM) : Prop := PK X kws (toA W w m)
theorem _root_.L2.PK.less {kws : List Keyword} {t t' : TA} (h : PK X kws t) (k : ∀ σ H Q, t' σ H Q → t σ H Q) : PK X kws t' := ⟨fun pos p s σ H Q I q => h.run pos p s σ H Q I (k σ H Q q)⟩
theorem k_nil : KX X W w [] aNil := pk_nil.less fun σ H Q ⟨φ, ρ, M, hs, ro, out⟩ => out.now hs [] rfl
theorem k_cons {me : EM} {nm : Option Str} {kpos : Pos} {kws : List Keyword} (ha : EX X W w e me) (hr : KX X W w kws m) : KX X W w (⟨nm, e, kpos⟩ :: kws) (aCons me m) := (pk_cons ha hr).less fun σ H Q ⟨φ, ρ, M, hs, ro, out⟩ =>
  ⟨φ, ρ, M, hs, ro, (Out.bnd out).imp fun x M1 φ1 H1 _ g1 h1 out1 u ru => ⟨φ1, ρ, M1, h1, ro.grow g1, (Out.bnd out1).imp fun xs M2 φ2 H2 _ g2 h2 out2 v rv => out2.now h2 _ ⟨u, v, rfl, ru.grow g2, rv⟩⟩⟩
/-- how the keywords' values come to their places -/
structure KPerm (K : PySem.W.Frag) (fd : FuncData) (ps ks : List Str) (g : {α : Type} → List α → List α → List α) : Prop where
  to : ∀ (s : Shared) (us ws : List Value), K.In s.heap → (g us ws).length = ps.length → BindsTo s fd ⟨us, ks.zip ws⟩ (ps.zip (g us ws))
  rel : ∀ {α β : Type} (R : α → β → Prop) {a : List α} {b : List β} {c : List α} {d : List β}, Paired R a b → Paired R c d → Paired R (g a c) (g b d)
  reps : ∀ (W : Wd) (φ : List Addr) (H : Hp) {a c : List D} {b d : List V}, Reps W φ H a b → Reps W φ H c d → Reps W φ H (g a c) (g b d)
theorem run_kw {g : {α : Type} → List α → List α → List α} {ks : List Str} {pins : List (Addr × Obj)} {σ : L2.St} {H : Hp} {s : Shared} {Q : VK} {us ws : List Value} {vs zs : List V} {sp : Sp} {E : XK} (F : FnOk X.prog X.w X.K X.mg X.base (L2.CX X.prog X.w) k f fd ps sp) (hr : Room k X.A) (hb : KPerm X.K fd ps ks g) (hx : PassesAt (L2.CX X.prog X.w) X σ E)
    (I : Inv X pins σ H s) (r : Vals vs us) (rz : Vals zs ws) (h : sp (g vs zs) H Q E) : wpAny (model X.prog X.w) X.A (call (.ref f) us (ks.zip ws)) (EP X pins σ Q) X.xe s := by
  have r2 : Vals (g vs zs) (g us ws) := hb.rel RelV r rz
  have hl : (g us ws).length = ps.length := r2.length.symm.trans (F.len _ _ _ _ h)
  refine wpAny_call (codeAny_mono (F.run X.A X.stack s H ⟨us, ks.zip ws⟩ (g us ws) (g vs zs) Q E hr I.env0 (hb.to s us ws I.kIn hl) r2 h) fun r s' hq => ?_)
  match r, hq with
  | .error e, hq => exact hx pins H s e s' I hq
  | .ok (.ret u), hq => exact I.after hq
  | .ok .next, hq => exact hq.elim
  | .ok .brk, hq => exact hq.elim
  | .ok .cont, hq => exact hq.elim
/-- f(k = v, ..), f(e, .., k = v, ..) -/
theorem x_callK {g : {α : Type} → List α → List α → List α} {ks : List Str} {kws : List Keyword} {mk : AM} {es : List Expr} (ar : Arity np fn) (F : FnOk X.prog X.w X.K X.mg X.base (L2.CX X.prog X.w) k f fd ps (spF W np fn)) (hr : Room k X.A) (hg : Gl X x) (hm : X.mg x = some (.ref f)) (hk : PySem.W.keepIn X.K (.ref f) = true) (hb : KPerm X.K fd ps ks g) (tk : Takes X w)
    (ha : AX X W w es m) (hkw : KX X W w kws mk)
    (hrun : ∀ (M : Model) (A : Around) (E : Value → Shared → Prop) (Q : Value → Shared → Prop) (s : Shared) (h₀ : Heap), X.K.In h₀ → wpAny M A (spliced (backTo pos (starEach es X.env))) (fun us s₁ => wpAny M A (evalAll ((backToKw pos (keywordEach kws X.env)).map (·.2))) (fun ws s₂ => X.K.In s₂.heap ∧ wpAny M A (call (.ref f) us ((((backToKw pos (keywordEach kws X.env)).filterMap (·.1)).zip ws))) Q E s₂) E s₁) E s →
      wpAny M A (callWith pos (.ref f) [] (backTo pos (starEach es X.env)) (backToKw pos (keywordEach kws X.env))) Q E s)
    (hks : (backToKw pos (keywordEach kws X.env)).filterMap (·.1) = ks := by rfl) (hdb : (x == ("__debug__" : Str)) = false := by decide) : EX X W w (.Call (.Name x p) es kws pos) (kCall fn g m mk) := by
  refine ⟨fun pins s σ H Q I ⟨φ, ρ, M, hs, ro, out⟩ => ?_⟩
  refine wpAny_Call_Name_kw (ld_glob I hg hm ?_ hdb)
  refine hrun _ _ _ _ _ X.base I.ok.mod.kin (thn (ha.run pos pins s σ H (fun vs H1 => toA W w mk σ H1 fun zs H2 => spF W np fn (g vs zs) H2 Q (WE w σ)) I ?_) fun us s1 ⟨vs, H1, I1, r, q⟩ => ?_)
  · refine ⟨φ, ρ, M, hs, ro, (Out.bnd out).imp fun xs M1 φ1 H1 _ g1 h1 out1 vs rv => ⟨φ1, ρ, M1, h1, ro.grow g1, (Out.bnd out1).imp fun ys M2 φ2 H2 _ g2 h2 out2 zs rz => ?_⟩⟩
    exact ⟨φ2, M2, g xs ys, h2, hb.reps W φ2 H2 (Reps.grow g2 _ _ rv) rz, ar _ M2 (fun z => by rw [z] at out2; exact out2.no), out2⟩
  · refine thn (hkw.run pos pins s1 σ H1 _ I1 q) fun ws s2 ⟨zs, H2, I2, rz, q2⟩ => ⟨I2.kIn, ?_⟩
    rw [hks]
    exact run_kw F hr hb (passAt tk σ) I2 r rz q2
end
/-! ### comprehensions -/
inductive Tgt where
  | one (i : Nat)
  | many (is : List Nat)
def Tgt.slots : Tgt → List Nat
  | .one i => [i]
  | .many is => is
def gNames : List Nat → TGs
  | [] => gNil
  | i :: r => gCons (L2.gName i) (gNames r)
def Tgt.rd (K : PySem.W.Frag) : Tgt → TG
  | .one i => L2.gName i
  | .many is => gTup K is.length (gNames is)
def setAll : List Nat → List D → Ro → Ro
  | i :: r, d :: ds, ρ => setAll r ds (ρ.set i (some d))
  | _, _, ρ => ρ
def Tgt.go : Tgt → D → Ro → Option Ro
  | .one i, d, ρ => some (ρ.set i (some d))
  | .many is, .tup ds, ρ => if ds.length = is.length then some (setAll is ds ρ) else none
  | .many _, _, _ => none
def wipeR (ρ : Ro) : List Nat → Ro
  | [] => ρ
  | v :: vs => (wipeR ρ vs).set v none
def lcF (src : Src) (tg : Tgt) (t : TM) (e : EM) (ρ : Ro) (n : Nat) : List D → Ms → Ot D
  | [], M => if src.ok M then some (.ok (.loc n), M) else none
  | d :: rest, M => if src.ok M then (match tg.go d ρ with
    | none => none
    | some ρ2 => (match t ρ2 M with
      | some (.ok true, M3) => (match e ρ2 M3 with
        | some (.ok y, M4) => (match lstAt M4 n with
          | some acc => if acc.length < sizeLine then lcF src tg t e ρ n rest (M4.set n (.lst (acc ++ [y]))) else none
          | none => none)
        | _ => none)
      | some (.ok false, M3) => lcF src tg t e ρ n rest M3
      | _ => none)) else none
def eLc (own : List Nat) (m : IM) (tg : Tgt) (t : TM) (e : EM) : EM := fun ρ M => bnd (m ρ M) fun src M1 => lcF src tg t e (wipeR ρ own) M1.length src.items (M1 ++ [.lst []])
def tY : TM := fun _ M => some (.ok true, M)
abbrev wF : WX := fun _ _ _ _ => False
section
variable {W : Wd} {φ : List Addr} {H : Hp}
theorem RoOk.wipes {ρ : Ro} {σ : L2.St} (h : RoOk W φ H ρ σ) : ∀ vs : List Nat, RoOk W φ H (wipeR ρ vs) (L2.wipe σ vs)
  | [] => h
  | v :: vs => (h.wipes vs).wipe v
theorem RoOk.setAll : ∀ {is : List Nat} {ds : List D} {vs : List V} {ρ : Ro} {σ : L2.St}, RoOk W φ H ρ σ → Reps W φ H ds vs → ds.length = is.length → ∃ σ', RoOk W φ H (G.setAll is ds ρ) σ' ∧ (∀ own, (∀ i ∈ is, i ∈ own) → L2.wipe σ' own = L2.wipe σ own) ∧ ∀ Q : L2.St → Hp → Prop, Q σ' H → gNames is vs σ H Q
  | [], [], vs, ρ, σ, ro, rs, _ => ⟨σ, ro, fun _ _ => rfl, fun Q q => ⟨rs, q⟩⟩
  | i :: r, d :: ds, vs, ρ, σ, ro, ⟨v, us, ev, r1, r2⟩, hl => by
    subst ev
    obtain ⟨σ', a1, a2, a3⟩ := RoOk.setAll (is := r) (ro.set i r1) r2 (by simpa using hl)
    refine ⟨σ', a1, fun own ho => (a2 own fun j hj => ho j (List.mem_cons_of_mem _ hj)).trans (wipe_set own (ho i List.mem_cons_self)), fun Q q => ⟨v, us, rfl, a3 Q q⟩⟩
  | [], _ :: _, _, _, _, _, _, hl => by simp at hl
  | _ :: _, [], _, _, _, _, _, hl => by simp at hl
where
  wipe_set {σ : L2.St} {i : Nat} {x : Option V} : ∀ (own : List Nat), i ∈ own → L2.wipe (σ.set i x) own = L2.wipe σ own
    | [], h => by cases h
    | v :: vs, h => by
      show (L2.wipe (σ.set i x) vs).set v none = (L2.wipe σ vs).set v none
      by_cases hv : i ∈ vs
      · rw [wipe_set vs hv]
      · have e : i = v := (List.mem_cons.mp h).resolve_right hv
        subst e
        have key : ∀ (ws : List Nat) (τ : L2.St), i ∉ ws → L2.wipe (τ.set i x) ws = (L2.wipe τ ws).set i x := by
          intro ws
          induction ws with
          | nil => intro τ _; rfl
          | cons u ws ih =>
            intro τ hn
            show (L2.wipe (τ.set i x) ws).set u none = ((L2.wipe τ ws).set u none).set i x
            rw [ih τ fun z => hn (List.mem_cons_of_mem _ z)]
            exact List.set_comm _ _ (fun z => hn (z ▸ List.mem_cons_self))
        rw [key vs σ hv, List.set_set]
theorem Tgt.go_ok {tg : Tgt} {d : D} {v : V} {ρ ρ2 : Ro} {σ : L2.St} (ro : RoOk W φ H ρ σ) (r : Rep W φ H d v) (e : tg.go d ρ = some ρ2) :
    ∃ σ', RoOk W φ H ρ2 σ' ∧ (∀ own, (∀ i ∈ tg.slots, i ∈ own) → L2.wipe σ' own = L2.wipe σ own) ∧ ∀ Q : L2.St → Hp → Prop, Q σ' H → tg.rd W.K v σ H Q := by
  cases tg with
  | one i =>
    cases e
    exact ⟨_, ro.set i r, fun own ho => RoOk.setAll.wipe_set own (ho i (List.mem_singleton.mpr rfl)), fun Q q => q⟩
  | many is =>
    cases d with
    | tup ds =>
      unfold Tgt.go at e
      dsimp only at e
      split at e
      · rename_i hl
        cases e
        obtain ⟨a, vs, rfl, t, rs⟩ := r
        obtain ⟨σ', a1, a2, a3⟩ := RoOk.setAll ro rs hl
        exact ⟨σ', a1, a2, fun Q q => ⟨a, vs, rfl, t.sq, by rw [rs.len]; exact hl, a3 Q q⟩⟩
      · cases e
    | _ => cases e
end
section
variable {X : Cx} {W : Wd} {w : WX} {pos : Pos} {elt iter tgx : Expr} {ifs : List Expr} {scope : Scope} {own : List (Str × Nat)} {m : IM} {tg : Tgt} {t : TM} {e : EM}
theorem lc_run (ho : ∀ i ∈ tg.slots, i ∈ own.map (·.2)) : ∀ (σ : L2.St) (H : Hp) (Q : VK), toE W w (eLc (own.map (·.2)) m tg t e) σ H Q → tLc (toI W w m) (tg.rd W.K) (toT W wF t) (toE W wF e) (own.map (·.2)) σ H Q := fun σ H Q ⟨φ, ρ, M, hs, ro, out⟩ =>
  ⟨φ, ρ, M, hs, ro, (Out.bnd out).imp fun src M1 φ1 H1 _ g1 h1 out1 J it D nD => by
    have ro1 := (ro.grow g1).wipes (own.map (·.2))
    obtain ⟨g0, h0, r0⟩ := new_lst (xs := []) (vs := []) h1 nD rfl
    refine ⟨fun i m H' => ∃ φ' M', Grow φ1 φ' H1 H' ∧ HS W φ' M' H' ∧ φ'[M1.length]? = some D ∧ i + m = src.items.length ∧ Out W w σ φ' H' (lcF src tg t e (wipeR ρ (own.map (·.2))) M1.length (src.items.drop i) M') (fun d _ φ' H' => ∀ v, Rep W φ' H' d v → Q v H'),
      ⟨src.items.length, φ1 ++ [D], M1 ++ [.lst []], g0, h0, by rw [← h1.len]; simp, by omega, by simpa using out1.pre g0⟩, ?_⟩
    intro i m H' ⟨φ', M', gr, hs', eD, hm, out'⟩
    by_cases hi : i < src.items.length
    · right
      rw [List.drop_eq_getElem_cons hi] at out'
      unfold lcF at out'
      by_cases ok : src.ok M' = true
      · rw [if_pos ok] at out'
        refine ⟨it.go i φ' M' H' gr hs' ok hi, fun H2 => ∃ φ2 M2, Grow φ1 φ2 H1 H2 ∧ HS W φ2 M2 H2 ∧ φ2[M1.length]? = some D ∧ Out W w σ φ2 H2 (lcF src tg t e (wipeR ρ (own.map (·.2))) M1.length (src.items.drop (i + 1)) M2) (fun d _ φ' H' => ∀ v, Rep W φ' H' d v → Q v H'),
          fun H2 ⟨φ2, M2, a1, a2, a3, a4⟩ => ⟨m - 1, by omega, φ2, M2, a1, a2, a3, by omega, a4⟩, fun x H2 hy => ?_⟩
        obtain ⟨g2, hs2, rx⟩ := it.yld i φ' M' H' x H2 src.items[i] gr hs' ok (List.getElem?_eq_getElem hi) hy
        have ro2 := (ro1.grow gr).grow g2
        replace out' := out'.pre g2
        cases hg : tg.go src.items[i] (wipeR ρ (own.map (·.2))) with
        | none => rw [hg] at out'; exact out'.no.elim
        | some ρ2 =>
          rw [hg] at out'
          dsimp only at out'
          obtain ⟨σ2, b1, b2, b3⟩ := Tgt.go_ok ro2 rx hg
          apply b3
          refine ⟨?_, φ', ρ2, M', hs2, b1, ?_⟩
          · rw [b2 _ ho]
            have idem : ∀ (vs : List Nat) (τ : L2.St), (∀ v ∈ vs, v ∈ own.map (·.2)) → L2.wipe (L2.wipe τ vs) (own.map (·.2)) = L2.wipe τ (own.map (·.2)) := by
              intro vs
              induction vs with
              | nil => intro τ _; rfl
              | cons v vs ih =>
                intro τ hv
                exact (RoOk.setAll.wipe_set _ (hv v List.mem_cons_self)).trans (ih τ fun u hu => hv u (List.mem_cons_of_mem _ hu))
            exact idem _ σ fun v hv => hv
          · cases ht : t ρ2 M' with
            | none => rw [ht] at out'; exact out'.no.elim
            | some p =>
              obtain ⟨r3, M3⟩ := p
              rw [ht] at out'
              cases r3 with
              | ex c d => exact out'.no.elim
              | ok b =>
                refine ⟨.ok b, M3, rfl, fun φ3 H3 g3 hs3 => ?_⟩
                replace out' := out'.pre g3
                cases b with
                | false =>
                  dsimp only
                  rw [if_neg Bool.false_ne_true]
                  exact ⟨φ3, M3, gr.trans (g2.trans g3), hs3, g3.at_ eD, out'⟩
                | true =>
                  dsimp only
                  rw [if_pos rfl]
                  refine ⟨φ3, ρ2, M3, hs3, b1.grow g3, ?_⟩
                  dsimp only at out'
                  cases he : e ρ2 M3 with
                  | none => rw [he] at out'; exact out'.no.elim
                  | some p =>
                    obtain ⟨r4, M4⟩ := p
                    rw [he] at out'
                    cases r4 with
                    | ex c d => exact out'.no.elim
                    | ok y =>
                      refine ⟨.ok y, M4, rfl, fun φ4 H4 g4 hs4 v rv => ?_⟩
                      replace out' := out'.pre g4
                      dsimp only at out'
                      have eD4 := g4.at_ (g3.at_ eD)
                      cases hl : lstAt M4 M1.length with
                      | none => rw [hl] at out'; exact out'.no.elim
                      | some acc =>
                        rw [hl] at out'
                        dsimp only at out'
                        obtain ⟨a, vs, ea, ea2, em, hH, rs⟩ := hs4.lst hl ⟨D, rfl, eD4⟩
                        cases ea
                        by_cases hz : acc.length < sizeLine
                        · rw [if_pos hz] at out'
                          have g5 : Grow φ4 φ4 H4 (upd H4 D (.lst (vs ++ [v]))) := Grow.upd fun xs z => by rw [hH] at z; cases z; rfl
                          refine ⟨vs, hH, by rw [rs.len]; exact hz, φ4, _, (gr.trans (g2.trans (g3.trans g4))).trans g5, hs4.wr (o := .lst (acc ++ [y])) em rfl rfl ea2 ⟨vs ++ [v], upd_same, Reps.append (Reps.grow g5 _ _ rs) ⟨v, [], rfl, Rep.grow g5 _ _ rv, rfl⟩⟩, eD4, out'.pre g5⟩
                        · rw [if_neg hz] at out'
                          exact out'.no.elim
      · rw [if_neg ok] at out'
        exact out'.no.elim
    · left
      rw [List.drop_eq_nil_of_le (by omega)] at out'
      unfold lcF at out'
      by_cases ok : src.ok M' = true
      · rw [if_pos ok] at out'
        exact ⟨it.stop i φ' M' H' gr hs' ok (by omega), out'.now hs' _ ⟨D, rfl, eD⟩⟩
      · rw [if_neg ok] at out'
        exact out'.no.elim⟩
theorem t_yes {X : Cx} {w : WX} : PTs X [] (toT W w tY) := ⟨fun pins s σ H Q I ⟨φ, ρ, M, hs, ro, out⟩ => pts_nil.run pins s σ H Q I (out.now hs)⟩
abbrev Blk (X : Cx) (s : Shared) (H : Hp) (scope : Scope) (C : Addr) (cl : List (Str × Addr)) (fp : List Addr) : Cx := X.blk s H scope (compEnvC scope cl C X.env) fp
theorem x_lc (hc : X.calm = true) (hN : X.N.Nodup) (hi : IX X W w tgx iter m) (ok : BlkOk X.N X.env.scope scope own) (ho : ∀ i ∈ tg.slots, i ∈ own.map (·.2))
    (hg : ∀ (s : Shared) (H : Hp) (C : Addr) (cl : List (Str × Addr)) (fp : List Addr), PG (Blk X s H scope C cl fp) tgx (tg.rd W.K)) (ht : ∀ (s : Shared) (H : Hp) (C : Addr) (cl : List (Str × Addr)) (fp : List Addr), PTs (Blk X s H scope C cl fp) ifs (toT W wF t))
    (he : ∀ (s : Shared) (H : Hp) (C : Addr) (cl : List (Str × Addr)) (fp : List Addr), EX (Blk X s H scope C cl fp) W wF elt e) (hs : ∀ x, foldedSetIterable iter X.env x = pure x := by intro _; rfl) :
    EX X W w (.ListComp elt [⟨tgx, iter, ifs, 0⟩] scope pos) (eLc (own.map (·.2)) m tg t e) := (pe_lc hc hN hi ok hg ht he hs).less (lc_run ho)
theorem tr_run {me : EM} {σ : L2.St} {H : Hp} {Q : VK} (h : toE W w (eTr me) σ H Q) : toE W w me σ H Q := by
  obtain ⟨φ, ρ, M, hs, ro, out⟩ := h
  refine ⟨φ, ρ, M, hs, ro, ?_⟩
  unfold eTr at out
  cases hm : me ρ M with
  | none => rw [hm] at out; exact out.no.elim
  | some p =>
    obtain ⟨r, M'⟩ := p
    rw [hm] at out
    cases r with
    | ok d =>
      obtain ⟨r2, M2, e2, q2⟩ := out
      cases e2
      refine ⟨.ok d, M', rfl, fun φ' H' g hs' v rv => ?_⟩
      obtain ⟨φ2, g2, h2, r2⟩ := trim_ok hs hs' g rv (Prod.ext rfl rfl)
      exact q2 φ2 H' g2 h2 v r2
    | ex c d => exact out_trim hs rfl out
/-- y = [..] on one line, y a plain local -/
theorem s_setLc (i : Nat) {y : Str} {py spos : Pos} (hc : X.calm = true) (hN : X.N.Nodup) (hyl : X.env.scope.names.lookup y = some .local) (hsw : swapsWith (.ListComp elt [⟨tgx, iter, ifs, 0⟩] scope pos) (some (.Name y py)) spos.line X.env = pure true) (hi : IX X W w tgx iter m) (ok : BlkOk X.N X.env.scope scope own) (ho : ∀ i ∈ tg.slots, i ∈ own.map (·.2))
    (hg : ∀ (s : Shared) (H : Hp) (C : Addr) (cl : List (Str × Addr)) (fp : List Addr), PG (Blk X s H scope C cl fp) tgx (tg.rd W.K)) (ht : ∀ (s : Shared) (H : Hp) (C : Addr) (cl : List (Str × Addr)) (fp : List Addr), PTs (Blk X s H scope C cl fp) ifs (toT W wF t))
    (he : ∀ (s : Shared) (H : Hp) (C : Addr) (cl : List (Str × Addr)) (fp : List Addr), EX (Blk X s H scope C cl fp) W wF elt e) (hy : X.N[i]? = some y := by rfl) (hs : ∀ x, foldedSetIterable iter X.env x = pure x := by intro _; rfl) :
    SX X W w (.Assign [.Name y py] (.ListComp elt [⟨tgx, iter, ifs, 0⟩] scope pos) spos) (sAs (eTr (eLc (own.map (·.2)) m tg t e)) (gN i)) := (ps_setLc hc hN hy hyl hsw hi ok hg ht he hs).less fun D σ H ⟨φ, ρ, M, hs, ro, out⟩ => by
  refine lc_run ho σ H _ (tr_run ⟨φ, ρ, M, hs, ro, (OutS.bnd ro out).imp fun d M1 φ1 H1 _ g1 h1 out1 v rv => ?_⟩)
  exact OutS.nx (w := w) out1 h1 ((ro.grow g1).set i rv)
theorem pg_one {X : Cx} {i : Nat} {x : Str} {pos : Pos} {K : PySem.W.Frag} (hN : X.N.Nodup) (hi : X.N[i]? = some x := by rfl) (hx : Loc X.env.scope x := by first | exact Or.inl rfl | exact Or.inr rfl) (hf : X.fn x = true ∨ X.env.scope.names.lookup x = some .local := by first | exact .inl rfl | exact .inr rfl | assumption) : PG X (.Name x pos) (Tgt.rd K (.one i)) := pg_name hN hi hx hf
theorem pg_many {X : Cx} {es : List Expr} {is : List Nat} {k : Nat} {pos : Pos} {K : PySem.W.Frag} (hc : X.calm = true) (h : PGs X es (gNames is)) (hK : K = X.K := by rfl) (hn : (assignEach es X.env).length = is.length := by rfl) (hst : (assignEach es X.env).findIdx? (·.1) = none := by rfl) : PG X (.Tuple es k pos) (Tgt.rd K (.many is)) := by
  subst hK
  exact pg_tup hc h hn hst
end
end G
end
section
set_option Elab.async false
set_option linter.all false
set_option maxRecDepth 100000
set_option maxHeartbeats 4000000
/-! # own errors whose __init__ says super().__init__(x) and keeps x -/
namespace G
open PySem PySem.Spec PyProof.Rows L2
section
variable {prog : Program} {w : World} {A : Around} {E : Value → Shared → Prop} {h : Heap} {g : Array GenState} {d : Drawn} {t : Nat} {os : OsState}
/-- the bound built-in __init__, called -/
theorem call_mw {K : PySem.W.Frag} {u e t0 C : Addr} {rest : List Value} {Q : Value → Shared → Prop} (T : OexC K C) (KX : K.In h)
    (he : h.get? e = some (HandSPX.excO C t0)) (hu : h.get? u = some (PySem.W.kxs_mw "ValueError.__init__" e)) (hrest : rest.length ≤ sizeLine)
    (hq : ∀ h' t1, (∀ b o, b ≠ e → h.get? b = some o → h'.get? b = some o) → h'.get? e = some (HandSPX.excO C t1) → Q .none ⟨h', g, d, t, os⟩) :
    wpAny (model prog w) A (call (.ref u) rest) Q E ⟨h, g, d, t, os⟩ := by
  obtain ⟨nm, q, N, bs, bm, sn, sub, ab, col, dd, k0, k1, k2, k3, k5, hC, hbm⟩ := T.cls
  refine wpAny_call (codeAny_of_tree ?_)
  show wpAny _ A.in1 (callAny (.ref u) ⟨rest, []⟩) _ _ _
  simp only [callAny]
  refine wpAny_bind (wpAny_load hu ?_)
  simp only [PySem.W.kxs_mw, show (Value.type "method-wrapper" == Value.type "method" || Value.type "method-wrapper" == Value.type "builtin_function_or_method" || Value.type "method-wrapper" == Value.type "method-wrapper") = true by decide, if_true]
  refine W.KFB.if_so (by decide) (wpAny_bind (ESX.check_bound F.excBase_ValueError (KX _ _ hC) he rfl (wpAny_bind (wpAny_pure (wpAny_pure ⟨Code.quiet_builtin _ (by decide +kernel), codeAny_builtin F.excBase_ValueError.initEntry ?_⟩)))))
  rw [Around.under_plainId F.excBase_ValueError.init.plain _]
  wp_walk
  refine hq _ h.objs.size (fun b o hb ho => (Heap.get?_update_other _ _ (Ne.symm hb)).trans (Heap.get?_push_of_some _ ho)) ?_
  exact Heap.get?_update_self _ (Heap.get?_push_of_some _ he) rfl
end
/-- the text of such an __init__ -/
abbrev supBody (se a f : Str) (p0 p1 p2 p3 p4 p5 p6 p7 p8 p9 : Pos) : List Stmt := [.Expr (.Call (.Attribute (.Call (.Name "super" p0) [] [] p1) "__init__" p2) [.Name a p3] [] p4) p5, .Assign [.Attribute (.Name se p6) f p7] (.Name a p8) p9]
/-- what the top has written of such a class -/
def MethF (a : Str) (p0 p1 p2 p3 p4 : Pos) : Prop := ∀ env : Env, ∃ pl : Sem Bool, eval (.Call (.Attribute (.Call (.Name "super" p0) [] [] p1) "__init__" p2) [.Name a p3] [] p4) env = (do
  let ov ← attributeBase (.Call (.Name "super" p0) [] [] p1) "__init__" env (eval (.Call (.Name "super" p0) [] [] p1) env)
  standAt p2.atName
  let (fu, first) ← holding [ov] (getMethod ov "__init__" pl)
  callWith p4 fu first (backTo p4 (starEach [.Name a p3] env)) [])
structure SupC (prog : Program) (K : PySem.W.Frag) (mg : Str → Option Value) (C fI : Addr) (f a : Str) : Prop where
  oex : OexC K C
  noF : PySem.W.findIn K (.ref C) f = some none
  ini : PySem.W.findIn K (.ref C) "__init__" = some (some (.ref fI))
  fty : PySem.W.typeIn K (.ref fI) = some (.type "function")
  along : PySem.W.ks_superIn K C C "__init__" = some (some (.builtin "ValueError.__init__"))
  sup : mg "super" = none
  opq : PySem.W.nsIn K cStatics "thirdparty.any" = some none
  isB : PySem.W.subIn K (.ref C) (.type "ValueError") = some true
  mroC : PySem.W.mroIn K C (.ref C) = some true
  def_ : ∃ (se qual : Str) (params : Arguments) (scope : Scope) (dV kV doc pm ct oc ccl cl : Value) (an od cdd cld : Option Addr) (osl ccs csl : Array (Option Value)) (cc cda : Addr) (vs : Array Value) (file : Str) (tf : Tok) (p0 p1 p2 p3 p4 p5 p6 p7 p8 p9 : Pos) (ar : Arg),
    K.lookup fI = some ⟨oc, od, .func (PySem.W.ksFn "__init__" qual params (supBody se a f p0 p1 p2 p3 p4 p5 p6 p7 p8 p9) scope dV kV doc pm an (.ref cda) ct cc), osl⟩ ∧ PySem.W.codeIn K (.ref cda) qual = true ∧
    K.lookup cda = some ⟨ccl, cdd, .fields vs, ccs⟩ ∧ vs[2]? = some (.str file tf) ∧ ((prog.main.file : Str) == file) = true ∧ K.lookup cc = some ⟨cl, cld, .cell (some (.ref C)), csl⟩ ∧
    (prog.main.scope.names.lookup ("super" : Str)).isSome = false ∧ (params.posonlyargs ++ params.args).head? = some ar ∧ ar.arg = se ∧ (∀ us : List Value, us.length = 2 → bindArgs (PySem.W.ksFn "__init__" qual params (supBody se a f p0 p1 p2 p3 p4 p5 p6 p7 p8 p9) scope dV kV doc pm an (.ref cda) ct cc) ⟨us, []⟩ = pure ([se, a].zip us)) ∧
    scope.kind = .function ∧ scope.isCoroutine = false ∧ scope.isGenerator = false ∧ scope.names = [(se, .local), (a, .local), ("__class__", .free), ("super", .globalImplicit)] ∧ se ≠ a ∧ (se == ("__debug__" : Str)) = false ∧ (a == ("__debug__" : Str)) = false ∧ se ≠ "__class__" ∧ a ≠ "__class__" ∧ se ≠ "super" ∧ a ≠ "super" ∧ MethF a p0 p1 p2 p3 p4
def tMkS (C : Addr) (f : Str) (te : TE) : L2.St → Hp → XK → Prop := fun σ H Q => tCons te tNil σ H fun vs H1 => ∃ v, vs = [v] ∧ ∀ d, H1 d = none → Q (.ref C) (some d) (upd H1 d (.xd [(f, v)]))
section
variable {X : Cx}
theorem pmk_sup {x f a : Str} {C fI : Addr} {e : Expr} {te : TE} {p pos : Pos} {k : Nat} (T : SupC X.prog X.K X.mg C fI f a) (hr : Room (k + 1) X.A) (hg : Gl X x) (hm : X.mg x = some (.ref C)) (he0 : PE X e te) (hdb : (x == ("__debug__" : Str)) = false := by decide)
    (he : starEach [e] X.env = (false, eval e X.env) :: starEach [] X.env := by rfl) : PMk X (.Call (.Name x p) [e] [] pos) (tMkS C f te) := by
  intro pins s σ H Q I hQ
  obtain ⟨nm, q, N, bs, bm, sn, sub, ab, col, dd, k0, k1, k2, k3, k5, hC, hbm⟩ := T.oex.cls
  have hcl : PySem.W.clsIn X.K C = some { name := nm, bases := bs, mro := .ref C :: bm, ns := N, qualname := q, hasDict := true, slotNames := sn, subclasses := sub, abstract := ab, collection := col, hasDel := false } := by unfold PySem.W.clsIn; rw [hC] <;> rfl
  refine wpAny_Call_Name_kw (ld_glob I hg hm ?_ hdb)
  refine PySem.W.callWith_K (h₀ := X.base) I.ok.mod.kin T.oex.kC (thn ((pa_cons he0 pa_nil he).run pos pins s σ H (fun vs H1 => ∃ v, vs = [v] ∧ ∀ d, H1 d = none → Q (.ref C) (some d) (upd H1 d (.xd [(f, v)]))) I hQ) fun us s1 ⟨vs, H1, I1, r1, v, ev, q1⟩ => ⟨I1.kIn, ?_⟩) he rfl
  subst ev
  obtain ⟨u, rfl, ru⟩ := vals1 r1
  show wpAny _ _ (call (.ref C) [u]) _ _ _
  obtain ⟨hp, g, dr, tk, os⟩ := s1
  have KX : X.K.In hp := I1.kIn
  obtain ⟨se, qual, params, scope, dV, kV, doc, pm, ct, oc, ccl, cl, an, od, cdd, cld, osl, ccs, csl, cc, cda, vs, file, tf, p0, p1, p2, p3, p4, p5, p6, p7, p8, p9, ar, lk, hcd, lkc, hvs, hfile, lcc, htop, hhd, har, hbind, hk, hco, hgen, hns, n1, n2, n3, n4, n5, n6, n7, mf⟩ := T.def_
  have hl0 : ∀ {z : Str} {kk : NameKind}, scope.names.lookup z = some kk ↔ ([(se, NameKind.local), (a, .local), ("__class__", .free), ("super", .globalImplicit)] : List (Str × NameKind)).lookup z = some kk := by
    intro z kk
    rw [hns]
  have ls : scope.names.lookup se = some .local := hl0.mpr (by simp [List.lookup])
  have la : scope.names.lookup a = some .local := hl0.mpr (by
    have e1 : (a == se) = false := by simpa using Ne.symm n1
    simp [List.lookup, e1])
  have lc : scope.names.lookup ("__class__" : Str) = some .free := hl0.mpr (by
    have e1 : (("__class__" : Str) == se) = false := by simpa using Ne.symm n4
    have e2 : (("__class__" : Str) == a) = false := by simpa using Ne.symm n5
    simp [List.lookup, e1, e2])
  have lsu : scope.names.lookup ("super" : Str) = some .globalImplicit := hl0.mpr (by
    have e1 : (("super" : Str) == se) = false := by simpa using Ne.symm n6
    have e2 : (("super" : Str) == a) = false := by simpa using Ne.symm n7
    have e3 : (("super" : Str) == ("__class__" : Str)) = false := by decide +kernel
    simp [List.lookup, e1, e2, e3])
  have hgetE : ((hp.push (PySem.W.kdv_tup [u])).push (HandSPX.excO C hp.objs.size)).get? (hp.objs.size + 1) = some (HandSPX.excO C hp.objs.size) := by heap_get
  have kk : ∀ b o, hp.get? b = some o → ((hp.push (PySem.W.kdv_tup [u])).push (HandSPX.excO C hp.objs.size)).get? b = some o := fun b o e => Heap.get?_push_of_some _ (Heap.get?_push_of_some _ e)
  refine wpAny_call (HandSPX.call_own F.excBase_ValueError (fun Y => HandSPX.refsVE_contains Y bm hbm) (KX _ _ hC) (PySem.W.looks_findIn KX T.ini) (fun self => PySem.W.bind_fn KX self T.fty) (by simp only [List.length_cons, List.length_nil]; decide) ?_)
  have hr2 := hr.make C [u] []
  refine ks_codeAny_call_defAt (fd := PySem.W.ksFn "__init__" qual params (supBody se a f p0 p1 p2 p3 p4 p5 p6 p7 p8 p9) scope dV kV doc pm an (.ref cda) ct cc) (body := supBody se a f p0 p1 p2 p3 p4 p5 p6 p7 p8 p9) (binds := [se, a].zip [.ref (hp.objs.size + 1), u]) hr2.depth (KX.keeps kk _ _ lk) rfl ((I1.ok.mod.nolimit.keeps I1.bk).keeps kk)
    (PySem.W.codeRec_of (KX.keeps kk) hcd) rfl (.of_eq (hbind _ rfl)) (fun y hy => ?_) (fun y hy => ?_) (fun h0 hn0 k0' => ?_) hco hgen hk
  · have hy' : y ∈ scope.names := hy
    rw [hns] at hy'
    simp only [List.mem_cons, List.not_mem_nil, or_false] at hy'
    rcases hy' with rfl | rfl | rfl | rfl <;> exact fun z => by cases z
  · simp only [List.zip_cons_cons, List.zip_nil_right, List.mem_cons, List.not_mem_nil, or_false] at hy
    rcases hy with rfl | rfl
    · exact ls
    · exact la
  have hrev : ∀ z, ((([se, a] : List Str).zip [Value.ref (hp.objs.size + 1), u]).reverse.lookup z) = if z = a then some u else if z = se then some (.ref (hp.objs.size + 1)) else none := fun z => by
    simp only [List.zip_cons_cons, List.zip_nil_right, List.reverse_cons, List.reverse_nil, List.nil_append, List.cons_append, List.lookup]
    by_cases e1 : z = a
    · subst e1
      simp
    · have e1' : (z == a) = false := by simpa using e1
      by_cases e2 : z = se
      · subst e2
        simp [e1', e1]
      · have e2' : (z == se) = false := by simpa using e2
        simp [e1', e1, e2', e2]
  have hva : (([se, a] : List Str).zip [Value.ref (hp.objs.size + 1), u]).reverse.lookup a = some u := by rw [hrev, if_pos rfl]
  have hvs' : (([se, a] : List Str).zip [Value.ref (hp.objs.size + 1), u]).reverse.lookup se = some (.ref (hp.objs.size + 1)) := by rw [hrev, if_neg n1, if_pos rfl]
  generalize hbs : (([se, a] : List Str).zip [Value.ref (hp.objs.size + 1), u]).reverse = bs at hn0 hva hvs' ⊢
  -- the environment of the running __init__
  have hkg : ∀ z k, scope.names.lookup z = some k → (callEnv (PySem.W.ksFn "__init__" qual params (supBody se a f p0 p1 p2 p3 p4 p5 p6 p7 p8 p9) scope dV kV doc pm an (.ref cda) ct cc) ((hp.push (PySem.W.kdv_tup [u])).push (HandSPX.excO C hp.objs.size)).objs.size fI).kindOf z = some k := fun z k e => e
  generalize henv : callEnv (PySem.W.ksFn "__init__" qual params (supBody se a f p0 p1 p2 p3 p4 p5 p6 p7 p8 p9) scope dV kV doc pm an (.ref cda) ct cc) ((hp.push (PySem.W.kdv_tup [u])).push (HandSPX.excO C hp.objs.size)).objs.size fI = env at hkg ⊢
  have eL : env.locals = ((hp.push (PySem.W.kdv_tup [u])).push (HandSPX.excO C hp.objs.size)).objs.size := by rw [← henv]; rfl
  have eK : env.scope.kind = .function := by rw [← henv]; exact hk
  have eG : env.globals = mainGlobals := by rw [← henv]; rfl
  have eB : env.builtins = builtinsNs := by rw [← henv]; rfl
  have eC : env.cells.lookup ("__class__" : Str) = some cc := by rw [← henv]; rfl
  have eF : env.func = some fI := by rw [← henv]; rfl
  have eCo : env.code = .ref cda := by rw [← henv]; rfl
  obtain ⟨pl, hev⟩ := mf env
  have ei : interactive env = false := by simp [interactive, eK]
  rw [← eL] at hn0
  have k0 : ∀ b o, hp.get? b = some o → h0.get? b = some o := fun b o e => k0' b o (kk b o e)
  have X0 : X.K.In h0 := KX.keeps k0
  have he0' : h0.get? (hp.objs.size + 1) = some (HandSPX.excO C hp.objs.size) := k0' _ _ hgetE
  have hsz : hp.objs.size ≤ h0.objs.size := Nat.le_of_lt (Nat.lt_of_succ_lt (Heap.lt_size he0'))
  obtain ⟨mb, hb1, hb2⟩ := I1.ok.mod.blt
  have keepB : ∀ b o, X.base.get? b = some o → h0.get? b = some o := fun b o e => k0 b o (I1.bk b o e)
  refine ks_wpAt_execs_cons (ks_wpAt_Expr_any (ks_wpAt_MethodCall (ks_wpAt_super_base (hkg _ _ lsu) (hkg _ _ lc) (by decide) eF (X0 _ _ lk) rfl hhd eCo (X0 _ _ lkc) rfl hvs hfile htop ?_) hev) ei rfl)
  refine W.ks_loadName_global eK (hkg _ _ lsu) (Calls.loadGlobal_builtin (by rw [eG]; exact I1.ok.mod.glob.keeps keepB) T.sup (by rw [eB]; exact hb1.keeps keepB) ((hb2 _ (by decide)).trans (by decide +kernel)) ⟨rfl, ?_⟩)
  refine wpAny_loadName_free eK (hkg _ _ lc) eC ⟨_, X0 _ _ lcc, rfl⟩ ?_
  rw [har]
  refine wpAny_loadName_local eK (hkg _ _ ls) hn0 hvs' ?_
  refine ks_wpAny_isType_cls (X0 _ _ hC) rfl ⟨rfl, ?_⟩
  refine ks_wpAny_call_super (X0 _ _ hC) rfl he0' rfl (fun c e => by cases e) (W.looks_mroIn X0 T.mroC) (fun h1 e1 k1 => ?_)
  have X1 : X.K.In h1 := X0.keeps k1
  have I1' : W.InstAt h1 (hp.objs.size + 1) (HandSPX.excO C hp.objs.size) C none := ⟨k1 _ _ he0', rfl, rfl, trivial⟩
  have hal : W.alongIn X.K "__init__" (((Value.ref C :: bm).dropWhile (· != .ref C)).drop 1) = some (some (.builtin "ValueError.__init__")) := by
    have z := T.along
    unfold W.ks_superIn at z
    rw [hcl] at z
    exact z
  refine W.kxs_getMethod W.kxs_ValueError e1 (W.looks_opaque X1 T.opq) (l₀ := .ref C :: bm) (fun A Q E s k q => wpAny_bind ((W.looks_clsIn X1 hcl) A _ E s k (wpAny_pure q))) rfl X1 hal (I1'.type.andThen (W.looks_subIn X1 T.isB)) (W.ks_ne X1 I1' hcl) (by decide) ?_
  have hu2 : (h1.push (W.kxs_mw "ValueError.__init__" (hp.objs.size + 1))).get? h1.objs.size = some (W.kxs_mw "ValueError.__init__" (hp.objs.size + 1)) := Heap.get?_push_at rfl rfl
  have k2 : ∀ b o, h0.get? b = some o → (h1.push (W.kxs_mw "ValueError.__init__" (hp.objs.size + 1))).get? b = some o := fun b o e => Heap.get?_push_of_some _ (k1 b o e)
  refine W.kxs_callWith (i := "ValueError.__init__") (x := hp.objs.size + 1) rfl (Calls.evalArgs_plain (Calls.spliced_cons (ESX.ldL (hn0.keeps k2) hva (Calls.spliced_nil ⟨hu2, ?_⟩) eK (hkg _ _ la) n3)))
  refine call_mw T.oex (X0.keeps k2) (k2 _ _ he0') hu2 (by show (1 : Nat) ≤ sizeLine; rw [sizeLine_eq]; decide) (fun h3 t3 k3 e3 => ?_)
  have ne0 : ∀ {b : Addr} {o : Obj}, hp.get? b = some o → b ≠ hp.objs.size + 1 := fun {b o} e z => by
    rw [z] at e
    exact Nat.not_lt.mpr (Nat.le_succ _) (Heap.lt_size e)
  have k03 : ∀ b o, b ≠ hp.objs.size + 1 → h0.get? b = some o → h3.get? b = some o := fun b o hb e => k3 b o hb (k2 b o e)
  have X3 : X.K.In h3 := KX.keeps fun b o e => k03 b o (ne0 e) (k0 b o e)
  have hL : env.locals ≠ hp.objs.size + 1 := fun z => by
    have e5 := eL
    rw [z, Heap.size_push, Heap.size_push] at e5
    exact Nat.ne_of_lt (Nat.lt_succ_self _) e5
  have hn3 : h3.Ns env.locals fun z => bs.lookup z := by
    obtain ⟨ob, es, ep, y1, y2⟩ := hn0
    exact ⟨ob, es, ep, k03 _ _ hL y1, y2⟩
  refine ks_wpAt_execs_cons (ks_wpAt_Assign_Attr (wpAt_of_wpAny (ESX.ldL hn3 hva (ESX.ldL hn3 hvs' ?_ eK (hkg _ _ ls) n2) eK (hkg _ _ la) n3)) rfl)
  refine W.set_plain X3 (ox := HandSPX.excO C t3) (od := none) ⟨e3, rfl, rfl, trivial⟩ T.oex.sa ?_
  refine HandSPX.exc_osa X3 e3 hcl (show HandSPX.refsVE (.ref C :: bm) = true from hbm) rfl T.noF (fun h4 tk4 dx k4 dn dne hx hnx => ?_)
  refine wpAt_of_wpAny (wpAny_execs_nil ⟨rfl, ?_⟩)
  have k04 : ∀ b o, hp.get? b = some o → h4.get? b = some o := fun b o e => k4 b o (ne0 e) (k03 b o (ne0 e) (k0 b o e))
  obtain ⟨G, g1, g2⟩ := restrict h4 fun b => decide (b ≠ hp.objs.size + 1)
  have gk : ∀ b, b ≠ hp.objs.size + 1 → G.get? b = h4.get? b := fun b hb => g1 b (decide_eq_true hb)
  have ge : G.get? (hp.objs.size + 1) = none := g2 _ (by simp)
  have hdx : hp.objs.size ≤ dx := Nat.le_trans (Nat.le_trans (Nat.le_succ _) (Nat.le_of_lt (Heap.lt_size e3))) dn
  have hnG : G.Ns1 dx fun y => if y = f then some u else none := by
    obtain ⟨ob, es, ep, y1, y2⟩ := hnx
    exact ⟨ob, es, ep, (gk dx dne).trans y1, y2⟩
  have J : Inv X pins σ (upd H1 dx (.xd [(f, v)])) ⟨G, g, dr, tk4, os⟩ := I1.laid (t' := tk4) (h' := G) (fun b o e => (gk b (ne0 e)).trans (k04 b o e)) hdx ⟨_, hnG, fun y => by
    by_cases ey : y = f
    · subst ey
      simp only [List.lookup, beq_self_eq_true, if_true]
      exact ru
    · have ey' : (y == f) = false := by simpa using ey
      simp only [List.lookup, ey', if_neg ey]
      exact trivial⟩
  refine ⟨hp.objs.size + 1, _, _, ⟨G, g, dr, tk4, os⟩, _, .ref C, some dx, rfl, J, fun b o z => ?_, ge, hx, ⟨rfl, rfl⟩, rfl, rfl, ?_, rfl, I1.bare, raises_own T.oex.exC T.oex.tyC, q1 dx (I1.hok.fresh hdx)⟩
  · by_cases hb : b = hp.objs.size + 1
    · rw [hb, ge] at z
      cases z
    · exact (gk b hb).symm.trans z
  · rw [upd_ne (Ne.symm dne)]
    exact I1.hok.fresh (Nat.le_succ _)
/-- raise X(e) -/
def sRaise (c : Nat) (m : EM) : SM := fun ρ M => bndS (m ρ M) ρ fun d M1 => some (.ex c d, ρ, M1)
theorem s_raise {W : Wd} {w : WX} {x a : Str} {c : Nat} {fI : Addr} {e : Expr} {me : EM} {p pos pos2 : Pos} {k : Nat} (T : SupC X.prog X.K X.mg (W.xc c) fI (xf c) a) (hc : X.calm = true) (tk : Takes X w) (hr : Room (k + 1) X.A) (hg : Gl X x) (hm : X.mg x = some (.ref (W.xc c))) (he0 : EX X W w e me) (hdb : (x == ("__debug__" : Str)) = false := by decide)
    (he : starEach [e] X.env = (false, eval e X.env) :: starEach [] X.env := by rfl) : SX X W w (.Raise (some (.Call (.Name x p) [e] [] pos)) none pos2) (sRaise c me) :=
  (ps_raise hc tk (pmk_sup T hr hg hm he0 hdb he)).less fun D σ H ⟨φ, ρ, M, hs, ro, out⟩ => ⟨φ, ρ, M, hs, ro, (OutS.bnd ro out).imp fun d M1 φ1 H1 _ g1 h1 out1 v rv => ⟨v, rfl, fun q nq => by
    obtain ⟨f, ρ', M', e1, q1⟩ := out1
    cases e1
    have g2 : Grow φ1 φ1 H1 (upd H1 q (.xd [(xf c, v)])) := Grow.upd fun xs z => by rw [nq] at z; cases z
    exact q1 φ1 σ _ g2 (h1.laid nq) ((ro.grow g1).grow g2) q v upd_same (Rep.grow g2 _ _ rv)⟩⟩
end
end G
end
section
set_option Elab.async false
set_option linter.all false
set_option maxRecDepth 100000
set_option maxHeartbeats 4000000
/-! # a lambda handed to a def that tries it -/
namespace G
open PySem PySem.Spec PyProof.Rows L2
section
variable {W : Wd} {φ : List Addr} {M : Ms} {H H1 : Hp}
theorem ext_grow (e : LamX.ExtN H H1) : Grow φ φ H H1 := ⟨⟨[], by simp⟩, fun a u hu h => e a _ h fun ps z => by subst z; cases hu⟩
theorem HS.ext (h : HS W φ M H) (e : LamX.ExtN H H1) (t : LamX.Tabs W.T H1) : HS W φ M H1 where
  len := h.len
  at_ := fun n o ho => by
    obtain ⟨a, ea, r⟩ := h.at_ n o ho
    refine ⟨a, ea, ?_⟩
    cases o with
    | lst l => obtain ⟨vs, e1, e2⟩ := r; exact ⟨vs, e a _ e1 (fun ps z => by cases z), e2.grow (ext_grow e)⟩
    | frz l => obtain ⟨vs, e1, e2⟩ := r; exact ⟨vs, e1.imp (fun ⟨o, z⟩ => ⟨o, e a _ z (fun ps z => by cases z)⟩) id, e2.grow (ext_grow e)⟩
    | dic l => obtain ⟨vs, e1, e2⟩ := r; exact ⟨vs, e a _ e1 (fun ps z => by cases z), e2.grow (ext_grow e)⟩
    | ins c l => obtain ⟨dx, vs, e1, e2⟩ := r; exact ⟨dx, vs, e a _ e1 (fun ps z => by cases z), e2.grow (ext_grow e)⟩
    | opq => trivial
  inj := h.inj
  tabs := t
end
theorem takes_len {X : Cx} {w : WX} (t : Takes X w) : Takes X (fun c d σ H => σ.length = X.N.length → w c d σ H) := fun u s' ⟨a, B, sI, pins, σ, H, cls, d, e, I, nb, up, sky, na, os, ag, q⟩ =>
  t u s' ⟨a, B, sI, pins, σ, H, cls, d, e, I, nb, up, sky, na, os, ag, q I.len⟩
/-- what a def that tries the call makes of it -/
abbrev TTk (C : Addr) (f : Str) (kok kex : V → Hp → VK → Prop) : (XK → Hp → VK → Prop) → Hp → VK → Prop := fun tl H Q =>
  tl (fun cls d H' => cls = .ref C ∧ ∃ (dd : Addr) (fs : List (Str × V)) (v : V), d = some dd ∧ H' dd = some (.xd fs) ∧ fs.lookup f = some v ∧ kex v H' Q) H (fun v H' => kok v H' Q)
abbrev kId : V → Hp → VK → Prop := fun v H Q => Q v H
abbrev kStr (z : Str) : V → Hp → VK → Prop := fun _ H Q => Q (.str z) H
abbrev kCat (z : Str) : V → Hp → VK → Prop := fun v H Q => ∃ y : Str, v = .str y ∧ z.length + y.length ≤ sizeLine ∧ Q (.str (z ++ y)) H
section
variable {X : Cx} {en f q : Str} {C g : Addr} {sg : Scope} {cdg : Value} {x : Str} {j j2 : Nat} {p1 p2 p3 p4 p5 p6 p7 p8 p9 p10 p11 p12 : Pos} {ret : Str}
abbrev Ng : List Str := ["call", "e"]
theorem ng_nd : Ng.Nodup := by decide
structure GCond (X : Cx) (sg : Scope) (en f : Str) (C : Addr) : Prop where
  le : sg.names.lookup ("e" : Str) = some .local
  lc : sg.names.lookup ("call" : Str) = some .local
  ge : sg.names.lookup en = some .globalImplicit
  me : X.mg en = some (.ref C)
  de : (en == ("__debug__" : Str)) = false
  xc : XfC X.K C
  nf : PySem.W.findIn X.K (.ref C) f = some none
  ex : PySem.W.exmOne X.K (.ref C) (.ref C) = some true
/-- the clause: return e.f -/
theorem clause_ok {K : PySem.W.Frag} {w : WX} {D : Ends} {σ : L2.St} {H : Hp} {cls : Value} {d : Option Addr} {kex : V → Hp → VK → Prop} {ts : Addr → Value → Option Addr → TS} {Q : VK}
    (hex : PySem.W.exmOne K (.ref C) (.ref C) = some true) (hσ : 1 < σ.length)
    (hts : ∀ (a dd : Addr) (fs : List (Str × V)) (v : V) (σ' : L2.St), σ'[1]? = some (some (.ref a)) → H dd = some (.xd fs) → fs.lookup f = some v → kex v H Q → ts a (.ref C) (some dd) { nx := fun σ' H' => D.nx (σ'.set 1 none) H', rt := D.rt, bk := fun σ' H' => D.bk (σ'.set 1 none) H', ct := fun σ' H' => D.ct (σ'.set 1 none) H' } σ' H)
    (h : cls = .ref C ∧ ∃ (dd : Addr) (fs : List (Str × V)) (v : V), d = some dd ∧ H dd = some (.xd fs) ∧ fs.lookup f = some v ∧ kex v H Q) : wAs K (.ref C) 1 ts w D cls d σ H := by
  obtain ⟨rfl, dd, fs, v, rfl, e1, e2, e3⟩ := h
  exact ⟨true, hex, fun _ a na => hts a dd fs v _ (List.getElem?_set_self hσ) e1 e2 e3, fun z => by cases z⟩
/-- try: call() / except E as e: return e.f / return ret -/
theorem gives_refused (c : GCond X sg en f C) : LamX.GivesTo X Ng x sg g cdg [.Try [.Expr (.Call (.Name "call" p1) [] [] p2) p3] [.ExceptHandler (some (.Name en p4)) (some "e") [.Return (some (.Attribute (.Name "e" p5) f p6)) p7] p8] [] [] p9, .Return (some (.Constant (.str ret) j p10)) p11] "call" q (TTk C f (kStr ret) kId) := by
  intro fl c' s H Q tl act hc h
  have hgl : Gl (cxOf C8.CX0 X.prog X.w X.K X.mg X.base Ng x sg g cdg X.A X.stack s H C8.E0).nox en := c.ge
  refine ⟨_, pss_cons (ps_try_as (X := (cxOf C8.CX0 X.prog X.w X.K X.mg X.base Ng x sg g cdg X.A X.stack s H C8.E0).nox) (c := .ref C) (i := 1)
      (tb := fun W D σ H => ∃ Ech : XK, (∀ cls d σ' H', Ech cls d H' → σ'.length = Ng.length → W cls d σ' H') ∧ σ[0]? = some (some (.ref fl)) ∧ H c' = some (LamX.CodeO c' q) ∧ tl Ech H (fun v H' => D.nx σ H'))
      rfl rfl ng_nd rfl c.le ⟨hgl, c.de, .inl c.me⟩ LamX.takes0 (fun W pn xe tk _ => ?_) (fun a oe cls d pn hz hf => pss_one (ps_ret (pe_xf c.xc c.nf hz hf (pe_var (i := 1) rfl (.inl c.le) (by decide) (by decide)))))) (pss_one (ps_ret pe_str)), ?_⟩
  · refine ⟨fun pins s' σ H' D I h' => ?_⟩
    obtain ⟨Ech, hW, h1, h2, h3⟩ := h'
    have hp := act (fun cls d σ H => σ.length = Ng.length → W cls d σ H) pn xe Ech p1 p2 (takes_len tk) hW
    have hq := pss_one (ps_expr (pos := p3) hp (by rfl))
    exact hq.run pins s' σ H' D I ⟨h1, h2, h3⟩
  · refine ⟨_, fun cls d σ' H' hh hl => clause_ok (f := f) c.ex (by rw [hl]; decide) (fun a dd fs v σ2 hs e1 e2 e3 => ?_) hh, rfl, hc, h⟩
    exact ⟨.ref a, hs, rfl, rfl, dd, fs, v, rfl, e1, e2, e3⟩
/-- try: return call() / except E as e: return e.f -/
theorem gives_told (c : GCond X sg en f C) : LamX.GivesTo X Ng x sg g cdg [.Try [.Return (some (.Call (.Name "call" p1) [] [] p2)) p3] [.ExceptHandler (some (.Name en p4)) (some "e") [.Return (some (.Attribute (.Name "e" p5) f p6)) p7] p8] [] [] p9] "call" q (TTk C f kId kId) := by
  intro fl c' s H Q tl act hc h
  have hgl : Gl (cxOf C8.CX0 X.prog X.w X.K X.mg X.base Ng x sg g cdg X.A X.stack s H C8.E0).nox en := c.ge
  refine ⟨_, pss_one (ps_try_as (X := (cxOf C8.CX0 X.prog X.w X.K X.mg X.base Ng x sg g cdg X.A X.stack s H C8.E0).nox) (c := .ref C) (i := 1)
      (tb := fun W D σ H => ∃ Ech : XK, (∀ cls d σ' H', Ech cls d H' → σ'.length = Ng.length → W cls d σ' H') ∧ σ[0]? = some (some (.ref fl)) ∧ H c' = some (LamX.CodeO c' q) ∧ tl Ech H D.rt)
      rfl rfl ng_nd rfl c.le ⟨hgl, c.de, .inl c.me⟩ LamX.takes0 (fun W pn xe tk _ => ?_) (fun a oe cls d pn hz hf => pss_one (ps_ret (pe_xf c.xc c.nf hz hf (pe_var (i := 1) rfl (.inl c.le) (by decide) (by decide)))))), ?_⟩
  · refine ⟨fun pins s' σ H' D I h' => ?_⟩
    obtain ⟨Ech, hW, h1, h2, h3⟩ := h'
    have hp := act (fun cls d σ H => σ.length = Ng.length → W cls d σ H) pn xe Ech p1 p2 (takes_len tk) hW
    have hq := pss_one (ps_ret (pos := p3) hp)
    exact hq.run pins s' σ H' D I ⟨h1, h2, h3⟩
  · refine ⟨_, fun cls d σ' H' hh hl => clause_ok (f := f) c.ex (by rw [hl]; decide) (fun a dd fs v σ2 hs e1 e2 e3 => ?_) hh, rfl, hc, h⟩
    exact ⟨.ref a, hs, rfl, rfl, dd, fs, v, rfl, e1, e2, e3⟩
/-- try: return call() / except E as e: return ret + e.f -/
theorem gives_asked (c : GCond X sg en f C) : LamX.GivesTo X Ng x sg g cdg [.Try [.Return (some (.Call (.Name "call" p1) [] [] p2)) p3] [.ExceptHandler (some (.Name en p4)) (some "e") [.Return (some (.BinOp (.Constant (.str ret) j p10) .Add (.Attribute (.Name "e" p5) f p6) p11)) p7] p8] [] [] p9] "call" q (TTk C f kId (kCat ret)) := by
  intro fl c' s H Q tl act hc h
  have hgl : Gl (cxOf C8.CX0 X.prog X.w X.K X.mg X.base Ng x sg g cdg X.A X.stack s H C8.E0).nox en := c.ge
  refine ⟨_, pss_one (ps_try_as (X := (cxOf C8.CX0 X.prog X.w X.K X.mg X.base Ng x sg g cdg X.A X.stack s H C8.E0).nox) (c := .ref C) (i := 1)
      (tb := fun W D σ H => ∃ Ech : XK, (∀ cls d σ' H', Ech cls d H' → σ'.length = Ng.length → W cls d σ' H') ∧ σ[0]? = some (some (.ref fl)) ∧ H c' = some (LamX.CodeO c' q) ∧ tl Ech H D.rt)
      rfl rfl ng_nd rfl c.le ⟨hgl, c.de, .inl c.me⟩ LamX.takes0 (fun W pn xe tk _ => ?_) (fun a oe cls d pn hz hf => pss_one (ps_ret (pe_op op_add_str pe_str (pe_xf c.xc c.nf hz hf (pe_var (i := 1) rfl (.inl c.le) (by decide) (by decide))))))), ?_⟩
  · refine ⟨fun pins s' σ H' D I h' => ?_⟩
    obtain ⟨Ech, hW, h1, h2, h3⟩ := h'
    have hp := act (fun cls d σ H => σ.length = Ng.length → W cls d σ H) pn xe Ech p1 p2 (takes_len tk) hW
    have hq := pss_one (ps_ret (pos := p3) hp)
    exact hq.run pins s' σ H' D I ⟨h1, h2, h3⟩
  · refine ⟨_, fun cls d σ' H' hh hl => clause_ok (f := f) c.ex (by rw [hl]; decide) (fun a dd fs v σ2 hs e1 e2 e3 => ?_) hh, rfl, hc, h⟩
    obtain ⟨y, e4, e5, e6⟩ := e3
    exact ⟨.ref a, hs, rfl, rfl, dd, fs, v, rfl, e1, e2, ret, y, rfl, e4, e5, e6⟩
end
/-- the outcome of the lambda, as the def answers -/
def lamF (c : Nat) (kok kex : D → Option D) (m : EM) : EM := fun ρ M => match m ρ M with
  | some (.ok d, M') => (kok d).map fun d' => (.ok d', M')
  | some (.ex c' d, M') => if c' = c then (kex d).map fun d' => (.ok d', M') else none
  | none => none
/-- the def's answer by values, by data -/
def KD (W : Wd) (k : V → Hp → VK → Prop) (f : D → Option D) : Prop := ∀ (φ : List Addr) (H : Hp) (d d' : D) (v : V) (Q : VK), f d = some d' → Rep W φ H d v → (∀ u, Rep W φ H d' u → Q u H) → k v H Q
def dCat (z : List Nat) : D → Option D
  | .str y => if z.length + y.length ≤ sizeLine then some (.str (z ++ y)) else none
  | _ => none
theorem kd_id {W : Wd} : KD W kId some := fun φ H d d' v Q e r q => by cases e; exact q v r
theorem kd_str {W : Wd} {z : Str} : KD W (kStr z) (fun _ => some (.str z.cps.toList)) := fun φ H d d' v Q e r q => by
  cases e
  exact q _ (by show V.str z = V.str ⟨z.cps.toList.toArray⟩; rw [Array.toArray_toList])
theorem kd_cat {W : Wd} {z : Str} : KD W (kCat z) (dCat z.cps.toList) := fun φ H d d' v Q e r q => by
  cases d with
  | str y =>
    unfold dCat at e
    dsimp only at e
    have hz : z = ⟨z.cps.toList.toArray⟩ := by rw [Array.toArray_toList]
    split at e
    · rename_i hl
      cases e
      refine ⟨⟨y.toArray⟩, r, ?_, q _ ?_⟩
      · rw [str_len, hz, str_len]
        exact hl
      · show V.str _ = V.str _
        rw [← str_app, ← hz]
    · cases e
  | _ => cases e
section
variable {X : Cx} {W : Wd} {w : WX}
theorem x_lam {x : Str} {g P c : Addr} {k : Nat} {pg : Arguments} {bg : List Stmt} {sg : Scope} {dV kV doc pm cdv ct oc : Value} {an od : Option Addr} {osl : Array (Option Value)} {params : Arguments} {body : Expr} {scope : Scope} {p lpos pos : Pos} {f : Str} {n : Nat} {m : EM} {kok kex : D → Option D} {ko ke : V → Hp → VK → Prop}
    (ho : KD W ko kok) (he : KD W ke kex) (hf : xf n = f)
    (hg : Gl X x) (hm : X.mg x = some (.ref g)) (hk : PySem.W.keepIn X.K (.ref g) = true) (lk : X.K.lookup g = some ⟨oc, od, .func (PySem.W.fnOf x x pg bg sg dV kV doc pm an cdv ct), osl⟩) (hcg : PySem.W.codeIn X.K cdv x = true) (hb : L2.Binds X.K (PySem.W.fnOf x x pg bg sg dV kV doc pm an cdv ct) ["call"] [])
    (Sg : FnScope Ng ["call"] sg) (hva : Vis sg "call") (hG : LamX.GivesTo X Ng x sg g cdv bg "call" (X.env.qual ++ "<lambda>") (TTk (W.xc n) f ko ke)) (TB : LamX.TabB X.base X.mg c P) (hcode : X.env.code = .ref c) (hmT : (P, X.env.qual ++ "<lambda>") ∈ W.T) (hu : ∀ p ∈ W.T, p.1 = P → p.2 = X.env.qual ++ "<lambda>")
    (hr : Room (k + 2) X.A) (L : LamX.LamS X.env.scope scope) (hdef : defaultsOf params X.env = ([], [])) (hbind : ∀ (q : Str) (cl : List (Str × Addr)) (pm cv ctv : Value), bindArgs (PySem.W.kla_fn "<lambda>" q params body scope cl pm cv ctv) ⟨[], []⟩ = pure [])
    (hbody : ∀ (A : Around) (outer : List Env) (s : Shared) (H : Hp) (E : XK) (f c' : Addr), Room k (A.deeper (LamX.lamEnv X scope s.heap.objs.size f c')) → Takes (LamX.lamCx X A outer s H E scope f c') (wE E) → EX (LamX.lamCx X A outer s H E scope f c') W (wE E) body m)
    (hdb : (x == ("__debug__" : Str)) = false := by decide) : EX X W w (.Call (.Name x p) [.Lambda params body scope lpos] [] pos) (lamF n kok kex m) :=
  (LamX.pe_lamcall (T := W.T) (t := fun E => toE W (wE E) m) hg hm hk lk hcg hb Sg rfl hva hG TB hcode hmT hu hr L hdef hbind (fun A outer s H E f c' hr2 => hbody A outer s H E f c' hr2 (takes_of rfl rfl rfl rfl)) hdb).less fun σ H Q ⟨φ, ρ, M, hs, ro, out⟩ => by
    refine ⟨hs.tabs, fun H1 eN t1 => ?_⟩
    have g1 : Grow φ φ H H1 := ext_grow eN
    have h1 := hs.ext eN t1
    refine ⟨φ, ρ, M, h1, ro.grow g1, ?_⟩
    unfold lamF at out
    cases hm : m ρ M with
    | none => rw [hm] at out; exact out.no.elim
    | some q =>
      obtain ⟨r, M'⟩ := q
      rw [hm] at out
      cases r with
      | ok d =>
        dsimp only at out
        cases hd : kok d with
        | none => rw [hd] at out; exact out.no.elim
        | some d' =>
          rw [hd] at out
          exact ⟨.ok d, M', rfl, fun φ' H' g' hs' v rv => ho φ' H' d d' v Q hd rv fun u ru => out.then_ (g1.trans g') hs' u ru⟩
      | ex c' d =>
        dsimp only at out
        by_cases hc : c' = n
        · rw [if_pos hc] at out
          subst hc
          cases hd : kex d with
          | none => rw [hd] at out; exact out.no.elim
          | some d' =>
            rw [hd] at out
            exact ⟨.ex c' d, M', rfl, fun φ' H' g' hs' a v ha rv => ⟨rfl, a, _, v, rfl, ha, by rw [hf]; simp, he φ' H' d d' v Q hd rv fun u ru => out.then_ (g1.trans g') hs' u ru⟩⟩
        · rw [if_neg hc] at out
          exact out.no.elim
end
end G
end
section
set_option Elab.async false
set_option linter.all false
set_option maxRecDepth 100000
set_option maxHeartbeats 4000000
/-! # enumerate of a list or of a tuple; zip; range with a step -/
namespace PySem
open Sem (wp)
/-- enumerate(v), v told by how its iterator begins -/
theorem g_meets_enum1 {v : Value} {o : Obj} {Hh : Heap → Prop} (B : Begins v o Hh) :
    Meets (Builtin.«enumerate.__new__» ⟨[.type "enumerate", v], []⟩) (fun _ R s => Hh s.heap ∧ R (.ok (.ret (.ref (s.heap.push o).objs.size)))
        { s with heap := (s.heap.push o).push { cls := .type "enumerate", data := .fields #[.none, .bool false, .ref s.heap.objs.size, rawInt 0, .none, .none] } }) := .of_wp fun prog w A R s h => by
    obtain ⟨hp, gn, dr, tk, os⟩ := s
    obtain ⟨h1, h⟩ := h
    have hsub := sub_enumerate
    have begin_ : ∀ {A' : Around} {E : Value → Shared → Prop} {Q : Value → Shared → Prop}, Q (.ref hp.objs.size) ⟨hp.push o, gn, dr, tk, os⟩ → wpAny (model prog w) A' (pyIter v) Q E ⟨hp, gn, dr, tk, os⟩ := fun q => B.iter prog w _ _ ⟨hp, gn, dr, tk, os⟩ _ h1 q
    wp_walk using begin_
    refine wpAny_stack_any fun st => wpAny_pure ?_
    split
    · rename_i c _ _ _ _ _
      cases (c == Value.type "enumerate") <;> (wp_walk using begin_; exact ⟨_, rfl, h⟩)
    · wp_walk using begin_
      exact ⟨_, rfl, h⟩
section
variable {prog : Program} {w : World} {A : Around} {E : Value → Shared → Prop} {s : Shared}
theorem g_enum_tuple {l : Addr} {items : Array Value} {Q : Value → Shared → Prop} (hL : s.heap.IsTuple l items)
    (h : ∀ h', IsEnum h' (s.heap.objs.size + 1) s.heap.objs.size 0 .none → h'.IsTupleIter s.heap.objs.size l 0 → (∀ b o, s.heap.get? b = some o → h'.get? b = some o) → Q (.ref (s.heap.objs.size + 1)) { s with heap := h' }) :
    wpAny (model prog w) A (call (.type "enumerate") [.ref l]) Q E s := by
  have hz : (s.heap.push { cls := .type "tuple_iterator", data := .fields #[.ref l, .int 0 0] }).objs.size = s.heap.objs.size + 1 := Heap.size_push ..
  refine callType_new F.called_enumerate (by decide) (F.typeCall_enumerate_1 _) (F.newCall_enumerate_1 _) (fun obj => F.args_object_init_2 obj _) F.entry_enumerate_new (g_meets_enum1 (begins_tuple l items)) ⟨hL, ?_⟩
  show _ ∧ _
  rw [hz]
  have he : IsEnum ((s.heap.push { cls := .type "tuple_iterator", data := .fields #[.ref l, .int 0 0] }).push { cls := .type "enumerate", data := .fields #[.none, .bool false, .ref s.heap.objs.size, rawInt 0, .none, .none] }) (s.heap.objs.size + 1) s.heap.objs.size 0 .none := by
    have z := Heap.get?_push_size (s.heap.push { cls := .type "tuple_iterator", data := .fields #[.ref l, .int 0 0] }) (o := { cls := .type "enumerate", data := .fields #[.none, .bool false, .ref s.heap.objs.size, rawInt 0, .none, .none] }) rfl
    rw [hz] at z
    exact z
  exact ⟨⟨_, he, rfl⟩, h _ he ⟨_, Heap.get?_push_of_some _ (Heap.get?_push_size _ rfl), rfl, rfl⟩ fun b o x => Heap.get?_push_of_some _ (Heap.get?_push_of_some _ x)⟩
theorem g_enum_endT {e it l : Addr} {i : Nat} {items : Array Value} {old : Value} {Q : Option Value → Shared → Prop} (hh : A.handled = none)
    (he : IsEnum s.heap e it i old) (hit : s.heap.IsTupleIter it l i) (hl : s.heap.IsTuple l items) (hx : items[i]? = none) (hQ : ∀ h', Heap.ExtBut it s.heap h' → Q none { s with heap := h' }) : wpAny (model prog w) A (pyNext (.ref e)) Q E s := by
  have ty : s.TypeIs (.ref e) "enumerate" := ⟨_, he, rfl⟩
  unfold pyNext
  refine wpAny_bind (wpAny_attempt (wpAny_callSpecial?_slot (name := Str.ofString "__next__") ty F.slot_enumerate_next (wpAny_call_entry F.slot_enumerate_next ty F.entry_enumerate_next ?_ (F.args_enumerate_next_1 _))))
  show wpAny _ _ (field (.ref e) 2 >>= _) _ _ _
  refine wpAny_bind (wpAny_field he rfl (x := .ref it) rfl (wpAny_bind (wpAny_nextOf_tuple_end (A := A.in1) hh hit hl hx fun h' x k hx' => ?_)))
  obtain ⟨o, ho, hc⟩ := hx'
  exact wpAny_bind (wpAny_isInstance (T := "StopIteration") (b := true) ⟨o, ho, hc⟩ isSubtype_stop (wpAny_pure (hQ _ k)))
end
end PySem
namespace L2
open PySem PySem.Spec PyProof.Rows
/-- the tuple at a, its items numbered, in new pairs -/
def IteT (K : PySem.W.Frag) (a : Addr) : It :=
  ⟨fun i H => ∃ (xs : List V) (x : V), SqT K H a xs ∧ xs[i]? = some x, fun i H v H' => ∃ T x, v = .ref T ∧ H T = none ∧ H' = upd H T (.tup [.int (i : Nat), x]) ∧ ∀ xs, SqT K H a xs → xs[i]? = some x, fun i H => ∃ xs : List V, SqT K H a xs ∧ xs.length ≤ i⟩
theorem turn_enumT {P : Program} {w : World} {K : PySem.W.Frag} {elts : List Expr} {kk : Nat} {tpos : Pos} (a e it : Addr) (hne : e ≠ it) (hai : a ≠ it) (hae : e ≠ a) :
    Turn P w K (.Tuple elts kk tpos) (IteT K a) [e, it] e (fun i h => (∃ old, IsEnum h e it ((i : Nat) : Int) old) ∧ h.IsTupleIter it a i) where
  mem := by simp
  obj := fun i h st b hb => by
    obtain ⟨⟨old, he⟩, o, ho, hc, hd⟩ := st
    rcases (show b = e ∨ b = it by simpa using hb) with z | z
    · subst z; exact ⟨_, he, fun v q => nomatch q⟩
    · subst z; exact ⟨o, ho, fun v q => by rw [hd] at q; cases q⟩
  keep := fun i h h' st k => let ⟨⟨old, he⟩, hi⟩ := st; ⟨⟨old, k e (by simp) _ he⟩, hi.at fun o q => k it (by simp) o q⟩
  item := by
    intro X hP hw hK hc i pins s σ H E I hf st hg
    subst hP hw hK
    obtain ⟨⟨old, he⟩, hit⟩ := st
    obtain ⟨xs, x, hq, hx⟩ := hg
    obtain ⟨its2, rv, p, hz⟩ := I.tuple hq
    obtain ⟨u, hu, ru⟩ := rv.get hx
    have hel : e < s.heap.objs.size := Heap.lt_size he
    have hil : it < s.heap.objs.size := by obtain ⟨_, q, _⟩ := hit; exact Heap.lt_size q
    have hlt : i < its2.toArray.size := by
      have := (List.getElem?_eq_some_iff.mp hu).1
      simpa using this
    obtain ⟨oa, hoa, hoac, hoad⟩ := id p
    have hea : e ≠ a := hae
    refine wpAny_pyNext_enum_itemD (Draws.tuple (A := X.A.in1) (I.ok.hd hc) it a hai its2.toArray) he ⟨hit, p⟩ hlt hne (show e ∉ [it, a] by simp; exact ⟨hne, hea⟩) fun x' h' tk hx' ho hit' hT hsz hk => ?_
    have ex : x' = u := by
      have e1 : its2.toArray[i]? = some u := by simpa using hu
      rw [e1] at hx'
      exact (Option.some.inj hx').symm
    subst ex
    refine ⟨_, rfl, wpAny_letOwnedTupleGo_enum (s := { s with heap := h', toks := tk + 1 }) ho fun h'' he' sb => ?_⟩
    have hT2 : h''.get? s.heap.objs.size = some { cls := .type "tuple", data := .seq #[.int i tk, x'] } := (sb.2 _ (Nat.ne_of_gt hel)).trans hT
    have new : ObjOk X.prog X.w (upd H s.heap.objs.size (.tup [.int (i : Nat), x])) h'' s.heap.objs.size (.tup [.int (i : Nat), x]) := ⟨by show 2 ≤ sizeLine; decide, [.int i tk, x'], .cons ⟨_, rfl⟩ (.cons ru .nil), ⟨_, hT2, rfl, _, rfl⟩⟩
    have I1 : Inv X pins σ (upd H s.heap.objs.size (.tup [.int (i : Nat), x])) { s with heap := h'', toks := tk + 1 } :=
      I.turnedNew (ch := [e, it]) (fun b ob hb q => (sb.2 b (fun z => hb (by simp [z]))).trans (hk b ob (fun z => hb (by simp [z])) (fun z => hb (by simp [z])) q)) hf (Nat.le_refl _) new
    refine ⟨.ref s.heap.objs.size, _, I1, rfl, ⟨_, x, rfl, I.hok.fresh (Nat.le_refl _), rfl, fun ys hy => by rw [I.tuple_inj hy hq]; exact hx⟩, ⟨⟨x', ?_⟩, hit'.1.at fun o q => (sb.2 it (Ne.symm hne)).trans q⟩, fun b hb => ?_⟩
    · rw [show ((i + 1 : Nat) : Int) = (i : Int) + 1 by omega]
      exact he'
    · have hb' : b < s.heap.objs.size := by
        rcases (show b = e ∨ b = it by simpa using hb) with z | z
        · rw [z]; exact hel
        · rw [z]; exact hil
      rw [upd_ne (Nat.ne_of_lt hb')]
      exact (hf b hb).1
  done := by
    intro X hP hw hK hc i pins s σ H E I hf st hg
    subst hP hw hK
    obtain ⟨⟨old, he⟩, hit⟩ := st
    obtain ⟨xs, hq, hx⟩ := hg
    obtain ⟨its2, rv, p, hz⟩ := I.tuple hq
    obtain ⟨f0, f1, f2, f3, f4, f5⟩ := hf it (by simp)
    have hl := rv.length
    exact g_enum_endT (I.ok.hd hc) he hit p (by simp; omega) fun h' eb => ⟨rfl, I.turned (t' := s.toks) (fun b o hb q => eb b o hb q) f0 f1 f3 f4 f5⟩
  self := fun A i s Q E st h => let ⟨⟨_, he⟩, _⟩ := st; wpAny_pyIter_enum he h
/-- enumerate of a list or of a tuple -/
def iEnumA (K : PySem.W.Frag) (ta : TA) : TI := fun σ H R => ta σ H fun vs H1 => ∃ a xs, vs = [.ref a] ∧ ((SqL K H1 a xs ∧ R (Ite K a) H1) ∨ (SqT K H1 a xs ∧ R (IteT K a) H1))
theorem pi_enumA {X : Cx} {e : Expr} {ta : TA} {p pos tpos : Pos} {elts : List Expr} {kk : Nat} (hg : Gl X "enumerate") (hm : X.mg "enumerate" = none) (ha : PA X [e] ta) (hs : starEach [e] X.env = [(false, eval e X.env)] := by rfl) :
    PI X (.Tuple elts kk tpos) (.Call (.Name "enumerate" p) [e] [] pos) (iEnumA X.K ta) := by
  refine ⟨fun pins s σ H R I h => Call_ (ld_blt I hg hm boot_enumerate (PyProof.Rows.callWith_type1 (thn (ha.run pos pins s σ H _ I h) fun us s1 ⟨vs, H1, I1, r1, q1⟩ => ?_) hs rfl))⟩
  obtain ⟨a, xs, ex, hq⟩ := q1
  subst ex
  obtain ⟨u, rfl, r⟩ := vals1 r1
  cases r
  have fresh2 : ∀ b ∈ [s1.heap.objs.size + 1, s1.heap.objs.size], FpOk X pins H1 b := fun b hb => by
    have hle : s1.heap.objs.size ≤ b := by
      rcases (show b = s1.heap.objs.size + 1 ∨ b = s1.heap.objs.size by simpa using hb) with z | z
      · rw [z]; exact Nat.le_add_right _ _
      · rw [z]; exact Nat.le_refl _
    exact I1.fpOk hle (I1.hok.fresh hle)
  rcases hq with ⟨hq, q⟩ | ⟨hq, q⟩
  · obtain ⟨its, rv, p', hz⟩ := I1.list hq
    exact call_enumerate_list p'.isList fun h' he hit hsz hk => wpAny_pyIter_enum he ⟨s1.heap.objs.size + 1, [s1.heap.objs.size + 1, s1.heap.objs.size], _, _, H1, rfl, I1.kept (t' := s1.toks) hk, turn_enum a (s1.heap.objs.size + 1) s1.heap.objs.size, ⟨⟨.none, he⟩, hit, Nat.succ_ne_self _⟩, fresh2, q⟩
  · obtain ⟨its, rv, p', hz⟩ := I1.tuple hq
    obtain ⟨o1, ho1, _⟩ := id p'
    have la := Heap.lt_size ho1
    exact g_enum_tuple (show s1.heap.IsTuple a its.toArray from p') fun h' he hit hk => wpAny_pyIter_enum he ⟨s1.heap.objs.size + 1, [s1.heap.objs.size + 1, s1.heap.objs.size], _, _, H1, rfl, I1.kept (t' := s1.toks) hk,
      turn_enumT a (s1.heap.objs.size + 1) s1.heap.objs.size (Nat.succ_ne_self _) (Nat.ne_of_lt la) (Ne.symm (Nat.ne_of_lt (Nat.lt_succ_of_lt la))), ⟨⟨.none, he⟩, hit⟩, fresh2, q⟩
end L2
end
section
set_option Elab.async false
set_option linter.all false
set_option maxRecDepth 100000
set_option maxHeartbeats 4000000
/-! # walks over pairs, stores, methods, the least of data, dicts -/
namespace G
open PySem PySem.Spec PyProof.Rows L2
/-! ### enumerate, zip, range with a step -/
def numD (l : List D) : List D := l.zipIdx.map fun p => .tup [.int (p.2 : Nat), p.1]
theorem numD_get {l : List D} {i : Nat} {d : D} (h : (numD l)[i]? = some d) : ∃ x, l[i]? = some x ∧ d = .tup [.int (i : Nat), x] := by
  unfold numD at h
  rw [List.getElem?_map] at h
  cases hx : l[i]? with
  | none =>
    rw [List.getElem?_eq_none (by rw [List.length_zipIdx]; exact List.getElem?_eq_none_iff.mp hx)] at h
    cases h
  | some x =>
    rw [List.getElem?_zipIdx, hx] at h
    simp at h
    exact ⟨x, rfl, h.symm⟩
theorem numD_len (l : List D) : (numD l).length = l.length := by simp [numD]
section
variable {X : Cx} {W : Wd} {w : WX} {pos : Pos} {e tg : Expr} {es : List Expr} {me : EM} {φ : List Addr} {H : Hp} {M : Ms}
theorem pair_new {φ' : List Addr} {M' : Ms} {H' : Hp} {T : Addr} {d c : D} {v u : V} (hs : HS W φ' M' H') (n : H' T = none) (r1 : Rep W φ' H' d v) (r2 : Rep W φ' H' c u) :
    Grow φ' φ' H' (upd H' T (.tup [v, u])) ∧ HS W φ' M' (upd H' T (.tup [v, u])) ∧ Rep W φ' (upd H' T (.tup [v, u])) (.tup [d, c]) (.ref T) := new_tup (xs := [d, c]) (vs := [v, u]) hs n ⟨v, [u], rfl, r1, u, [], rfl, r2, rfl⟩
theorem seq_key {a : Addr} {n : Nat} {l : List D} (ea : φ[n]? = some a) {φ' : List Addr} {M' : Ms} {H' : Hp} (g : Grow φ φ' H H') (hs : HS W φ' M' H') (ok : seqAt M' n = some l) : ∃ vs, SqL W.K H' a vs ∧ Reps W φ' H' l vs := by
  obtain ⟨a', vs, e2, _, sq, r⟩ := hs.seq ok ⟨a, rfl, g.at_ ea⟩
  cases e2
  exact ⟨vs, sq, r⟩
theorem itok_numL {a : Addr} {n : Nat} {l : List D} (ea : φ[n]? = some a) (K : PySem.W.Frag) (hK : W.K = K) : ItOk W φ H ⟨numD l, [(n, l)]⟩ (Ite K a) := by
  subst hK
  have key : ∀ {φ' M' H'}, Grow φ φ' H H' → HS W φ' M' H' → Src.ok ⟨numD l, [(n, l)]⟩ M' = true → ∃ vs, SqL W.K H' a vs ∧ Reps W φ' H' l vs := fun {φ' M' H'} g hs ok => seq_key ea g hs (by simpa [Src.ok] using ok)
  refine ⟨fun i φ' M' H' g hs ok hi => ?_, fun i φ' M' H' x H2 d g hs ok hd hy => ?_, fun i φ' M' H' g hs ok hi => ?_⟩
  · obtain ⟨vs, sq, r⟩ := key g hs ok
    obtain ⟨v, hv, _⟩ := r.get (List.getElem?_eq_getElem (by rw [← numD_len]; exact hi))
    exact ⟨vs, v, sq, hv⟩
  · obtain ⟨vs, sq, r⟩ := key g hs ok
    obtain ⟨T, y, rfl, nT, rfl, hy⟩ := hy
    obtain ⟨z, hz, rfl⟩ := numD_get hd
    obtain ⟨v, hv, rv⟩ := r.get hz
    have e3 := hy vs sq
    rw [hv] at e3
    cases e3
    exact pair_new hs nT rfl rv
  · obtain ⟨vs, sq, r⟩ := key g hs ok
    exact ⟨vs, sq, by rw [r.len, ← numD_len]; exact hi⟩
theorem itok_numT {a : Addr} {vs : List V} {l : List D} (t : TupAt W.K H a vs) (r : Reps W φ H l vs) (K : PySem.W.Frag) (hK : W.K = K) : ItOk W φ H ⟨numD l, []⟩ (IteT K a) := by
  subst hK
  refine ⟨fun i φ' M' H' g hs ok hi => ?_, fun i φ' M' H' x H2 d g hs ok hd hy => ?_, fun i φ' M' H' g hs ok hi => ?_⟩
  · obtain ⟨v, hv, _⟩ := r.get (List.getElem?_eq_getElem (by rw [← numD_len]; exact hi))
    exact ⟨vs, v, (t.grow g).sq, hv⟩
  · obtain ⟨T, y, rfl, nT, rfl, hy⟩ := hy
    obtain ⟨z, hz, rfl⟩ := numD_get hd
    obtain ⟨v, hv, rv⟩ := r.get hz
    have e3 := hy vs (t.grow g).sq
    rw [hv] at e3
    cases e3
    exact pair_new hs nT rfl (rv.grow g)
  · exact ⟨vs, (t.grow g).sq, by rw [r.len, ← numD_len]; exact hi⟩
def iEn (m : AM) : IM := fun ρ M => bnd (m ρ M) fun d M1 => match d with
  | [.loc n] => match seqAt M1 n with
    | some l => some (.ok ⟨numD l, [(n, l)]⟩, M1)
    | none => none
  | [.tup l] => some (.ok ⟨numD l, []⟩, M1)
  | _ => none
theorem i_enum {a : Expr} {m : AM} {p tpos : Pos} {elts : List Expr} {kk : Nat} (hg : Gl X "enumerate") (hm : X.mg "enumerate" = none) (ha : AX X W w [a] m) (hK : W.K = X.K := by rfl) (hst : starEach [a] X.env = [(false, eval a X.env)] := by rfl) :
    IX X W w (.Tuple elts kk tpos) (.Call (.Name "enumerate" p) [a] [] pos) (iEn m) := (pi_enumA hg hm ha hst).less fun σ H R ⟨φ, ρ, M, hs, ro, out⟩ =>
  ⟨φ, ρ, M, hs, ro, (Out.bnd out).imp fun d M1 φ1 H1 e0 g1 h1 out1 vs rv => by
    clear e0
    split at out1
    · rename_i n
      obtain ⟨v, rfl, r⟩ := rv.one
      split at out1
      · rename_i l hl
        obtain ⟨a, us, rfl, ea, sq, rs⟩ := h1.seq hl r
        exact ⟨a, us, rfl, .inl ⟨hK ▸ sq, out1.now h1 _ (itok_numL ea _ hK)⟩⟩
      · exact out1.no.elim
    · rename_i l
      obtain ⟨v, rfl, a, us, rfl, t, rs⟩ := rv.one
      exact ⟨a, us, rfl, .inr ⟨hK ▸ t.sq, out1.now h1 _ (itok_numT t rs _ hK)⟩⟩
    · exact out1.no.elim⟩
def zipD (l k : List D) : List D := (l.zip k).map fun p => .tup [p.1, p.2]
theorem zipD_get {l k : List D} {i : Nat} {d : D} (h : (zipD l k)[i]? = some d) : ∃ x y, l[i]? = some x ∧ k[i]? = some y ∧ d = .tup [x, y] := by
  unfold zipD at h
  rw [List.getElem?_map] at h
  cases hz : (l.zip k)[i]? with
  | none => rw [hz] at h; cases h
  | some p =>
    rw [hz] at h
    obtain ⟨x, y⟩ := p
    obtain ⟨h1, h2⟩ := List.getElem?_zip_eq_some.mp hz
    exact ⟨x, y, h1, h2, by simpa using h.symm⟩
theorem zipD_len (l k : List D) : (zipD l k).length = min l.length k.length := by simp [zipD]
theorem itok_zipL {a b : Addr} {n m : Nat} {l k : List D} (ea : φ[n]? = some a) (eb : φ[m]? = some b) (K : PySem.W.Frag) (hK : W.K = K) : ItOk W φ H ⟨zipD l k, [(n, l), (m, k)]⟩ (Itz K a b) := by
  subst hK
  have key : ∀ {φ' M' H'}, Grow φ φ' H H' → HS W φ' M' H' → Src.ok ⟨zipD l k, [(n, l), (m, k)]⟩ M' = true → (∃ vs, SqL W.K H' a vs ∧ Reps W φ' H' l vs) ∧ ∃ us, SqL W.K H' b us ∧ Reps W φ' H' k us := fun {φ' M' H'} g hs ok => by
    have ok' : seqAt M' n = some l ∧ seqAt M' m = some k := by simpa [Src.ok] using ok
    exact ⟨seq_key ea g hs ok'.1, seq_key eb g hs ok'.2⟩
  refine ⟨fun i φ' M' H' g hs ok hi => ?_, fun i φ' M' H' x H2 d g hs ok hd hy => ?_, fun i φ' M' H' g hs ok hi => ?_⟩
  · obtain ⟨⟨vs, sq, r⟩, us, sq2, r2⟩ := key g hs ok
    have hi' : i < l.length ∧ i < k.length := by rw [show (Src.items ⟨zipD l k, _⟩).length = _ from zipD_len l k] at hi; omega
    obtain ⟨v, hv, _⟩ := r.get (List.getElem?_eq_getElem hi'.1)
    obtain ⟨u, hu, _⟩ := r2.get (List.getElem?_eq_getElem hi'.2)
    exact ⟨vs, us, v, u, sq, sq2, hv, hu⟩
  · obtain ⟨⟨vs, sq, r⟩, us, sq2, r2⟩ := key g hs ok
    obtain ⟨T, y, y2, rfl, nT, rfl, hy, hy2⟩ := hy
    obtain ⟨z, z2, hz, hz2, rfl⟩ := zipD_get hd
    obtain ⟨v, hv, rv⟩ := r.get hz
    obtain ⟨u, hu, ru⟩ := r2.get hz2
    have e3 := hy vs sq
    rw [hv] at e3
    cases e3
    have e4 := hy2 us sq2
    rw [hu] at e4
    cases e4
    exact pair_new hs nT rv ru
  · obtain ⟨⟨vs, sq, r⟩, us, sq2, r2⟩ := key g hs ok
    refine ⟨vs, us, sq, sq2, ?_⟩
    rw [r.len, r2.len]
    rw [show (Src.items ⟨zipD l k, _⟩).length = _ from zipD_len l k] at hi
    omega
theorem itok_zipT {a b : Addr} {l k : List D} {vs us : List V} (t : TupAt W.K H a vs) (t2 : TupAt W.K H b us) (r : Reps W φ H l vs) (r2 : Reps W φ H k us) (K : PySem.W.Frag) (hK : W.K = K) : ItOk W φ H ⟨zipD l k, []⟩ (RZ.ItzT K a b) := by
  subst hK
  refine ⟨fun i φ' M' H' g hs ok hi => ?_, fun i φ' M' H' x H2 d g hs ok hd hy => ?_, fun i φ' M' H' g hs ok hi => ?_⟩
  · have hi' : i < l.length ∧ i < k.length := by rw [show (Src.items ⟨zipD l k, _⟩).length = _ from zipD_len l k] at hi; omega
    obtain ⟨v, hv, _⟩ := r.get (List.getElem?_eq_getElem hi'.1)
    obtain ⟨u, hu, _⟩ := r2.get (List.getElem?_eq_getElem hi'.2)
    exact ⟨vs, us, v, u, (t.grow g).sq, (t2.grow g).sq, hv, hu⟩
  · obtain ⟨T, y, y2, rfl, nT, rfl, hy, hy2⟩ := hy
    obtain ⟨z, z2, hz, hz2, rfl⟩ := zipD_get hd
    obtain ⟨v, hv, rv⟩ := r.get hz
    obtain ⟨u, hu, ru⟩ := r2.get hz2
    have e3 := hy vs (t.grow g).sq
    rw [hv] at e3
    cases e3
    have e4 := hy2 us (t2.grow g).sq
    rw [hu] at e4
    cases e4
    exact pair_new hs nT (rv.grow g) (ru.grow g)
  · refine ⟨vs, us, (t.grow g).sq, (t2.grow g).sq, ?_⟩
    rw [r.len, r2.len]
    rw [show (Src.items ⟨zipD l k, _⟩).length = _ from zipD_len l k] at hi
    omega
def iZp (m : AM) : IM := fun ρ M => bnd (m ρ M) fun d M1 => match d with
  | [.loc n, .loc k] => match seqAt M1 n, seqAt M1 k with
    | some l, some l2 => some (.ok ⟨zipD l l2, [(n, l), (k, l2)]⟩, M1)
    | _, _ => none
  | [.tup l, .tup l2] => some (.ok ⟨zipD l l2, []⟩, M1)
  | _ => none
theorem i_zip {a b : Expr} {m : AM} {p tpos : Pos} {elts : List Expr} {kk : Nat} (hg : Gl X "zip") (hm : X.mg "zip" = none) (ha : AX X W w [a, b] m) (hK : W.K = X.K := by rfl)
    (hst : starEach [a, b] X.env = (false, eval a X.env) :: starEach [b] X.env := by rfl) (hpl : (backTo pos (starEach [b] X.env)).any (·.1) = false := by rfl) :
    IX X W w (.Tuple elts kk tpos) (.Call (.Name "zip" p) [a, b] [] pos) (iZp m) := (RZ.pi_zipA hg hm ha hst hpl).less fun σ H R ⟨φ, ρ, M, hs, ro, out⟩ =>
  ⟨φ, ρ, M, hs, ro, (Out.bnd out).imp fun d M1 φ1 H1 e0 g1 h1 out1 vs rv => by
    clear e0
    split at out1
    · rename_i n k
      obtain ⟨v, u, rfl, r, r2⟩ := rv.two
      split at out1
      · rename_i l l2 hl hl2
        obtain ⟨a, us, rfl, ea, sq, rs⟩ := h1.seq hl r
        obtain ⟨b, ws, rfl, eb, sq2, rs2⟩ := h1.seq hl2 r2
        exact ⟨a, b, us, ws, rfl, .inl ⟨hK ▸ sq, hK ▸ sq2, out1.now h1 _ (itok_zipL ea eb _ hK)⟩⟩
      · exact out1.no.elim
    · rename_i l l2
      obtain ⟨v, u, rfl, ⟨a, us, rfl, t, rs⟩, ⟨b, ws, rfl, t2, rs2⟩⟩ := rv.two
      exact ⟨a, b, us, ws, rfl, .inr ⟨hK ▸ t.sq, hK ▸ t2.sq, out1.now h1 _ (itok_zipT t t2 rs rs2 _ hK)⟩⟩
    · exact out1.no.elim⟩
/-! range(i, j, c) -/
def rngC (i c : Int) (n : Nat) : List D := (List.range n).map fun k => .int (i + (k : Nat) * c)
theorem itok_rngC {i c : Int} {n : Nat} : ItOk W φ H ⟨rngC i c n, []⟩ (Itc i c n) := by
  refine ⟨fun k φ' M' H' g hs ok hi => ?_, fun k φ' M' H' x H2 d g hs ok hd hy => ?_, fun k φ' M' H' g hs ok hi => ?_⟩
  · show k < n
    simpa [rngC] using hi
  · obtain ⟨rfl, rfl⟩ := hy
    have hd' : ((List.range n).map fun k => D.int (i + (k : Nat) * c))[k]? = some d := hd
    rw [List.getElem?_map] at hd'
    by_cases hi : k < n
    · rw [List.getElem?_range hi] at hd'
      cases hd'
      exact ⟨.refl _ _, hs, rfl⟩
    · rw [List.getElem?_eq_none (by simpa using hi)] at hd'
      cases hd'
  · show n ≤ k
    simpa [rngC] using hi
def iRn3 (m : AM) : IM := fun ρ M => bnd (m ρ M) fun d M1 => match d with
  | [.int i, .int j, .int c] => if c ≠ 0 ∧ c.natAbs < 1073741824 ∧ Builtin.Range.small i j c = true ∧ 0 ≤ Builtin.Range.rangeSize i j c then some (.ok ⟨rngC i c (Builtin.Range.rangeSize i j c).toNat, []⟩, M1) else none
  | _ => none
theorem i_rng3 {a b c : Expr} {m : AM} {p : Pos} (hg : Gl X "range") (hm : X.mg "range" = none) (ha : AX X W w [a, b, c] m) (hst : starEach [a, b, c] X.env = (false, eval a X.env) :: starEach [b, c] X.env := by rfl) (hpl : (backTo pos (starEach [b, c] X.env)).any (·.1) = false := by rfl) :
    IX X W w tg (.Call (.Name "range" p) [a, b, c] [] pos) (iRn3 m) := (pi_range3 hg hm ha hst hpl).less fun σ H R ⟨φ, ρ, M, hs, ro, out⟩ =>
  ⟨φ, ρ, M, hs, ro, (Out.bnd out).imp fun d M1 φ1 H1 e0 g1 h1 out1 vs rv => by
    clear e0
    split at out1
    · rename_i i j c
      obtain ⟨v, r, rfl, e1, v2, r2, rfl, e2, v3, r3, rfl, e4, e3⟩ := rv
      cases e1
      cases e2
      cases e4
      rw [show r3 = [] from e3]
      split at out1
      · rename_i hc
        exact ⟨i, j, c, _, rfl, ⟨hc.1, hc.2.1, hc.2.2.1, (Int.toNat_of_nonneg hc.2.2.2).symm⟩, out1.now h1 _ itok_rngC⟩
      · exact out1.no.elim
    · exact out1.no.elim⟩
end
/-! ### stores by place or by key -/
def keyD : D → Bool
  | .int _ => true
  | .str _ => true
  | _ => false
def putD (l : List (D × D)) (k d : D) : List (D × D) := if l.any (fun p => decide (p.1 = k)) then l.map (fun p => if p.1 = k then (p.1, d) else p) else l ++ [(k, d)]
def getD_ (l : List (D × D)) (k : D) : Option D := (l.find? fun p => decide (p.1 = k)).map (·.2)
def setF (o i d : D) (M : Ms) : Option Ms := match o with
  | .loc n => match M[n]?, i with
    | some (.lst l), .int k => match ixN l.length k with
      | some j => some (M.set n (.lst (l.set j d)))
      | none => none
    | some (.dic l), k => if keyD k ∧ l.length < sizeLine then some (M.set n (.dic (putD l k d))) else none
    | _, _ => none
  | _ => none
section
variable {W : Wd} {φ : List Addr} {H : Hp}
theorem KeyR.ex {k : D} {v : V} (hk : keyD k = true) (r : Rep W φ H k v) : ∃ k', KeyR k k' ∧ v = kV k' := by
  cases k with
  | int i => exact ⟨.inl i, rfl, r⟩
  | str s => exact ⟨.inr ⟨s.toArray⟩, rfl, r⟩
  | _ => cases hk
theorem KeyR.iff {k c : D} {k' c' : Key} (a : KeyR k k') (b : KeyR c c') : k = c ↔ k' = c' := by
  cases k <;> cases c <;> first
    | exact a.elim
    | exact b.elim
    | (have a' : k' = _ := a
       have b' : c' = _ := b
       subst a' b'
       simp)
theorem KvR.any : ∀ {l : List (D × D)} {vs : List (Key × V)} {k : D} {k' : Key}, KvR W φ H l vs → KeyR k k' → (vs.any fun p => decide (p.1 = k')) = l.any fun p => decide (p.1 = k)
  | [], vs, _, _, h, _ => by rw [show vs = [] from h]; rfl
  | (c, d) :: l, vs, k, k', ⟨c', v, r, e, a, b, h⟩, hk => by
    subst e
    rw [List.any_cons, List.any_cons, KvR.any h hk]
    congr 1
    exact decide_eq_decide.mpr (KeyR.iff a hk).symm
theorem KvR.mapPut : ∀ {l : List (D × D)} {vs : List (Key × V)} {k d : D} {k' : Key} {v : V}, KvR W φ H l vs → KeyR k k' → Rep W φ H d v → KvR W φ H (l.map fun p => if p.1 = k then (p.1, d) else p) (vs.map fun p => if p.1 = k' then (p.1, v) else p)
  | [], vs, _, _, _, _, h, _, _ => by rw [show vs = [] from h]; rfl
  | (c, x) :: l, vs, k, d, k', v, ⟨c', u, r, e, a, b, h⟩, hk, rd => by
    subst e
    rw [List.map_cons, List.map_cons]
    by_cases hc : c = k
    · rw [if_pos hc, if_pos ((KeyR.iff a hk).mp hc)]
      exact ⟨c', v, _, rfl, a, rd, KvR.mapPut h hk rd⟩
    · rw [if_neg hc, if_neg fun z => hc ((KeyR.iff a hk).mpr z)]
      exact ⟨c', u, _, rfl, a, b, KvR.mapPut h hk rd⟩
theorem KvR.snoc : ∀ {l : List (D × D)} {vs : List (Key × V)} {k d : D} {k' : Key} {v : V}, KvR W φ H l vs → KeyR k k' → Rep W φ H d v → KvR W φ H (l ++ [(k, d)]) (vs ++ [(k', v)])
  | [], vs, _, _, _, _, h, hk, rd => by rw [show vs = [] from h]; exact ⟨_, _, [], rfl, hk, rd, rfl⟩
  | (c, x) :: l, vs, k, d, k', v, ⟨c', u, r, e, a, b, h⟩, hk, rd => by
    subst e
    exact ⟨c', u, _, rfl, a, b, KvR.snoc h hk rd⟩
theorem KvR.put {l : List (D × D)} {vs : List (Key × V)} {k d : D} {k' : Key} {v : V} (h : KvR W φ H l vs) (hk : KeyR k k') (rd : Rep W φ H d v) : KvR W φ H (putD l k d) (putK vs k' v) := by
  unfold putD putK
  rw [KvR.any h hk]
  by_cases hc : (l.any fun p => decide (p.1 = k)) = true
  · rw [if_pos hc, if_pos hc]
    exact KvR.mapPut h hk rd
  · rw [if_neg hc, if_neg hc]
    exact KvR.snoc h hk rd
theorem KvR.len : ∀ {l : List (D × D)} {vs : List (Key × V)}, KvR W φ H l vs → vs.length = l.length
  | [], vs, h => by rw [show vs = [] from h]; rfl
  | (c, x) :: l, vs, ⟨c', u, r, e, a, b, h⟩ => by rw [e]; simp [KvR.len h]
theorem KvR.get : ∀ {l : List (D × D)} {vs : List (Key × V)} {k : D} {k' : Key}, KvR W φ H l vs → KeyR k k' → (∀ d, getD_ l k = some d → ∃ v, valV vs k' = some v ∧ Rep W φ H d v) ∧ (getD_ l k = none → valV vs k' = none)
  | [], vs, k, k', h, _ => by
    rw [show vs = [] from h]
    exact ⟨fun d z => (by cases z), fun _ => rfl⟩
  | (c, x) :: l, vs, k, k', ⟨c', u, r, e, a, b, h⟩, hk => by
    subst e
    obtain ⟨h1, h2⟩ := KvR.get h hk
    by_cases hc : c = k
    · have e1 : getD_ ((c, x) :: l) k = some x := by simp [getD_, hc]
      rw [e1, valV_pos (p := (c', u)) ((KeyR.iff a hk).mp hc)]
      exact ⟨fun d z => (by cases z; exact ⟨u, rfl, b⟩), fun z => by cases z⟩
    · have e1 : getD_ ((c, x) :: l) k = getD_ l k := by simp [getD_, hc]
      rw [e1, valV_neg (p := (c', u)) fun z => hc ((KeyR.iff a hk).mpr z)]
      exact ⟨h1, h2⟩
end
def gIx (mo mi : EM) : GM := fun d ρ M => match mo ρ M with
  | some (.ok o, M1) => match mi ρ M1 with
    | some (.ok i, M2) => (setF o i d M2).map fun M3 => (ρ, M3)
    | _ => none
  | _ => none
def rSet2 : TSet := fun o i v H Q => rSetL o i v H Q ∨ rSetD o i v H Q
section
variable {X : Cx} {W : Wd} {w : WX} {pos : Pos} {o i : Expr} {mo mi : EM}
theorem set_2 (hu : X.A.units + 1 < cLine) : PSet X rSet2 := fun pins s σ H o i v ov iv u Q I ro ri rv h => h.elim (set_list pins s σ H o i v ov iv u Q I ro ri rv) (set_dict hu pins s σ H o i v ov iv u Q I ro ri rv)
theorem setF_ok {φ : List Addr} {H : Hp} {M M' : Ms} {o i d : D} {ov iv v : V} {Q : Hp → Prop} (hs : HS W φ M H) (ro : Rep W φ H o ov) (ri : Rep W φ H i iv) (rv : Rep W φ H d v) (e : setF o i d M = some M') (q : ∀ H', Grow φ φ H H' → HS W φ M' H' → Q H') : rSet2 ov iv v H Q := by
  cases o with
  | loc n =>
    obtain ⟨a, rfl, ea⟩ := ro
    unfold setF at e
    dsimp only at e
    cases hm : M[n]? with
    | none => rw [hm] at e; cases e
    | some ob =>
      rw [hm] at e
      obtain ⟨a', ea', ra⟩ := hs.at_ n ob hm
      rw [ea] at ea'
      cases ea'
      cases ob with
      | lst l =>
        cases i with
        | int k =>
          dsimp only at e
          cases hj : ixN l.length k with
          | none => rw [hj] at e; cases e
          | some j =>
            rw [hj] at e
            cases e
            obtain ⟨vs, hH, rs⟩ := ra
            have g : Grow φ φ H (upd H a (.lst (vs.set j v))) := Grow.upd fun xs z => by rw [hH] at z; cases z; rfl
            exact .inl ⟨a, vs, k, j, rfl, ri, hH, by rw [rs.len]; exact hj, q _ g (hs.wr (o := .lst (l.set j d)) hm rfl rfl ea ⟨_, upd_same, Reps.set j (Reps.grow g _ _ rs) (Rep.grow g _ _ rv)⟩)⟩
        | _ => cases e
      | dic l =>
        have e : (if keyD i = true ∧ l.length < sizeLine then some (M.set n (.dic (putD l i d))) else none) = some M' := by
          cases i <;> exact e
        split at e
        · rename_i hc
          cases e
          obtain ⟨vs, hH, rs⟩ := ra
          obtain ⟨k', hk, rfl⟩ := KeyR.ex hc.1 ri
          have g : Grow φ φ H (upd H a (.dK (putK vs k' v))) := Grow.upd fun xs z => by rw [hH] at z; cases z; rfl
          exact .inr ⟨a, _, rfl, DPut.k hH (by rw [rs.len]; exact hc.2), q _ g (hs.wr (o := .dic (putD l i d)) hm rfl rfl ea ⟨_, upd_same, KvR.grow g _ _ (rs.put hk rv)⟩)⟩
        · cases e
      | _ => cases i <;> cases e
  | _ => cases e
theorem g_ix {k : Nat} (hr : Room k X.A) (ho : EX X W wF o mo) (hi : EX X W wF i mi)
    (ha : ∀ v, assign (.Subscript o i pos) X.env v = (do
      let ov ← holding [v] (eval o X.env)
      let iv ← holding [v, ov] (eval i X.env)
      standAt pos
      holding [v, ov, iv] (setItem ov iv v)
      release [v, ov, iv] []) := by intro _; rfl) : GX X W (.Subscript o i pos) (gIx mo mi) := (pg_sub ho hi (set_2 (by have := hr.un; omega)) ha).less fun v σ H Q ⟨φ, ρ, M, d, hs, ro, rd, ρ', M', e, q⟩ => by
  unfold gIx at e
  cases h1 : mo ρ M with
  | none => rw [h1] at e; cases e
  | some p =>
    obtain ⟨r1, M1⟩ := p
    rw [h1] at e
    cases r1 with
    | ex c d => cases e
    | ok ob =>
      dsimp only at e
      cases h2 : mi ρ M1 with
      | none => rw [h2] at e; cases e
      | some p2 =>
        obtain ⟨r2, M2⟩ := p2
        rw [h2] at e
        cases r2 with
        | ex c d => cases e
        | ok ix =>
          dsimp only at e
          cases h3 : setF ob ix d M2 with
          | none => rw [h3] at e; cases e
          | some M3 =>
            rw [h3] at e
            cases e
            refine ⟨φ, ρ, M, hs, ro, .ok ob, M1, h1, fun φ1 H1 g1 hs1 ov rov => ⟨φ1, ρ, M1, hs1, ro.grow g1, .ok ix, M2, h2, fun φ2 H2 g2 hs2 iv riv => ?_⟩⟩
            exact setF_ok hs2 (rov.grow g2) riv (rd.grow (g1.trans g2)) h3 fun H3 g3 hs3 => q φ2 σ H3 ((g1.trans g2).trans g3) hs3 (ro.grow ((g1.trans g2).trans g3))
end
/-! ### methods of lists, of texts, of dicts -/
def tyD (M : Ms) : D → Option String
  | .str _ => some "str"
  | .int _ => some "int"
  | .loc n => match M[n]? with
    | some (.lst _) => some "list"
    | some (.frz _) => some "list"
    | some (.dic _) => some "dict"
    | _ => none
  | _ => none
def eM (T : String) (f : D → Fn) (mo : EM) (m : AM) : EM := fun ρ M => bnd (mo ρ M) fun x M1 => if tyD M1 x = some T then bnd (m ρ M1) fun xs M2 => f x xs M2 else none
def MethD (W : Wd) (r : V → List V → Hp → VK → Prop) (f : D → Fn) : Prop := ∀ (w : WX) (σ : L2.St) (φ : List Addr) (H : Hp) (M : Ms) (x : D) (xs : List D) (u : V) (vs : List V) (Q : VK), HS W φ M H → Rep W φ H x u → Reps W φ H xs vs →
  (Out W w σ φ H (f x xs M) fun d _ φ' H' => ∀ v, Rep W φ' H' d v → Q v H') → r u vs H Q
section
variable {X : Cx} {W : Wd} {w : WX} {pos apos cpos : Pos} {o e : Expr} {es : List Expr} {mo : EM} {m : AM} {T : String} {name : Str} {id : String} {r : V → List V → Hp → VK → Prop} {f : D → Fn}
theorem tyD_ok {φ : List Addr} {H : Hp} {M : Ms} {x : D} {u : V} (hs : HS W φ M H) (rx : Rep W φ H x u) (h : tyD M x = some T) : tyV W.K T u H := by
  cases x with
  | str s => cases h; rw [show u = _ from rx]; exact rfl
  | int s => cases h; rw [show u = _ from rx]; exact rfl
  | loc n =>
    obtain ⟨a, rfl, ea⟩ := rx
    unfold tyD at h
    dsimp only at h
    cases hm : M[n]? with
    | none => rw [hm] at h; cases h
    | some ob =>
      rw [hm] at h
      obtain ⟨a', ea', ra⟩ := hs.at_ n ob hm
      rw [ea] at ea'
      cases ea'
      cases ob with
      | lst l => cases h; obtain ⟨vs, h1, _⟩ := ra; exact .inl ⟨rfl, vs, .inl (.inl h1)⟩
      | frz l =>
        cases h
        obtain ⟨vs, h1, _⟩ := ra
        refine .inl ⟨rfl, vs, ?_⟩
        rcases h1 with ⟨o, h1⟩ | h1
        · exact .inl (.inr ⟨o, h1⟩)
        · rcases h1 with (h1 | ⟨o, h1⟩) | h1
          · cases h1
          · cases h1
          · exact .inr h1
      | dic l => cases h; obtain ⟨vs, h1, _⟩ := ra; exact .inr (.inr (.inl ⟨rfl, .inl ⟨vs, h1⟩⟩))
      | ins c l => cases h
      | opq => cases h
  | _ => cases h
theorem m_run (hf : MethD W r f) (hK : W.K = X.K) : ∀ (σ : L2.St) (H : Hp) (Q : VK), toE W w (eM T f mo m) σ H Q → tBM X.K T r (toE W w mo) (toA W w m) σ H Q := fun σ H Q ⟨φ, ρ, M, hs, ro, out⟩ =>
  ⟨φ, ρ, M, hs, ro, (Out.bnd out).imp fun x M1 φ1 H1 _ g1 h1 out1 u ru => by
    by_cases ht : tyD M1 x = some T
    · rw [if_pos ht] at out1
      exact ⟨hK ▸ tyD_ok h1 ru ht, φ1, ρ, M1, h1, ro.grow g1, (Out.bnd out1).imp fun xs M2 φ2 H2 _ g2 h2 out2 vs rv => hf w σ φ2 H2 M2 x xs u vs Q h2 (ru.grow g2) rv out2⟩
    · rw [if_neg ht] at out1
      exact out1.no.elim⟩
theorem x_meth (pa : PlainAttrs T) (slot : Slot T name id) (hty : typeOf (.builtin id) = pure (.type "method_descriptor")) (hm : MtR X id r) (hf : MethD W r f) (ho : EX X W w o mo) (ha : AX X W w (e :: es) m) (hK : W.K = X.K := by rfl)
    (hbase : attributeBase o name X.env (eval o X.env) = eval o X.env := by rfl)
    (hfew : ((backTo cpos (starEach (e :: es) X.env)).all (fun x => !x.1) && (backToKw cpos (keywordEach [] X.env)).all (fun x => x.1.isSome)
      && decide ((e :: es).length + ([] : List Keyword).length + (if ([] : List Keyword).isEmpty then 0 else 1) < 30)) = true := by rfl)
    (hline : (apos.endLine == cpos.line) = true := by rfl) (hs : starEach (e :: es) X.env = (false, eval e X.env) :: starEach es X.env := by rfl) (hplain : (backTo cpos (starEach es X.env)).any (·.1) = false := by rfl) :
    EX X W w (.Call (.Attribute o name apos) (e :: es) [] cpos) (eM T f mo m) := (pe_bm pa slot hty hm ho ha hbase hfew hline hs hplain).less (m_run hf hK)
end
def fAppend (x : D) : Fn := fun xs M => match x, xs with
  | .loc n, [d] => match lstAt M n with
    | some l => if l.length < sizeLine then some (.ok .non, M.set n (.lst (l ++ [d]))) else none
    | none => none
  | _, _ => none
section
variable {W : Wd}
theorem append_d : MethD W rAppend fAppend := fun w σ φ H M x xs u vs Q hs rx rxs out => by
  unfold fAppend at out
  split at out
  · rename_i n d
    split at out
    · rename_i l hl
      split at out
      · rename_i hz
        obtain ⟨v, rfl, rv⟩ := rxs.one
        obtain ⟨a, us, rfl, ea, em, hH, rs⟩ := hs.lst hl rx
        have g : Grow φ φ H (upd H a (.lst (us ++ [v]))) := Grow.upd fun xs z => by rw [hH] at z; cases z; rfl
        exact ⟨a, us, v, rfl, rfl, hH, by rw [rs.len]; exact hz, out.then_ g (hs.wr (o := .lst (l ++ [d])) em rfl rfl ea ⟨_, upd_same, Reps.append (Reps.grow g _ _ rs) ⟨v, [], rfl, Rep.grow g _ _ rv, rfl⟩⟩) _ rfl⟩
      · exact out.no.elim
    · exact out.no.elim
  · exact out.no.elim
/-- xs.append(e) -/
theorem x_append {X : Cx} {w : WX} {apos cpos : Pos} {o e : Expr} {mo me : EM} (ho : EX X W w o mo) (ha : EX X W w e me) (hK : W.K = X.K := by rfl) (hbase : attributeBase o "append" X.env (eval o X.env) = eval o X.env := by rfl) (hline : (apos.endLine == cpos.line) = true := by rfl)
    (hfew : ((backTo cpos (starEach [e] X.env)).all (fun x => !x.1) && (backToKw cpos (keywordEach [] X.env)).all (fun x => x.1.isSome)
      && decide ([e].length + ([] : List Keyword).length + (if ([] : List Keyword).isEmpty then 0 else 1) < 30)) = true := by rfl) (hs : starEach [e] X.env = [(false, eval e X.env)] := by rfl) :
    EX X W w (.Call (.Attribute o "append" apos) [e] [] cpos) (eM "list" fAppend mo (aCons me aNil)) := x_meth PySem.F.plainAttrs_list PySem.F.slot_list_append PySem.F.type_list_append mt_append append_d ho (a_cons ha a_nil hs) hK hbase hfew hline hs rfl
end
end G
end
section
set_option Elab.async false
set_option linter.all false
set_option maxRecDepth 100000
set_option maxHeartbeats 4000000
/-! # dicts; the least and the greatest of data; data compared -/
namespace G
open PySem PySem.Spec PyProof.Rows L2
/-! ### d[k], {k: v} -/
def eDGet (mo mi : EM) : EM := fun ρ M => bnd (mo ρ M) fun o M1 => bnd (mi ρ M1) fun i M2 => match o with
  | .loc n => match M2[n]? with
    | some (.dic l) => if keyD i then (match getD_ l i with
      | some d => some (.ok d, M2)
      | none => none) else none
    | _ => none
  | _ => none
abbrev PM := Ro → Ms → Ot (List (D × D))
def pNil : PM := fun _ M => some (.ok [], M)
def pCons (mk mv : EM) (m : PM) : PM := fun ρ M => bnd (mk ρ M) fun k M1 => bnd (mv ρ M1) fun v M2 => bnd (m ρ M2) fun r M3 => some (.ok ((k, v) :: r), M3)
def mergeD (l more : List (D × D)) : List (D × D) := more.foldl (fun acc p => putD acc p.1 p.2) l
def eDisp (m : PM) : EM := fun ρ M => bnd (m ρ (M ++ [.dic []])) fun r M1 => if M1[M.length]? = some (.dic []) ∧ r.length ≤ 15 ∧ r.all (fun p => keyD p.1) = true then some (.ok (.loc M.length), M1.set M.length (.dic (mergeD [] r))) else none
def PrR (W : Wd) (φ : List Addr) (H : Hp) : List (D × D) → List (V × V) → Prop
  | [], r => r = []
  | (k, d) :: l, r => ∃ k' v r', r = (k', v) :: r' ∧ Rep W φ H k k' ∧ Rep W φ H d v ∧ PrR W φ H l r'
def toP (W : Wd) (w : WX) (m : PM) : L2.St → Hp → (List (V × V) → Hp → Prop) → Prop := fun σ H Q => ∃ φ ρ M, HS W φ M H ∧ RoOk W φ H ρ σ ∧ Out W w σ φ H (m ρ M) fun d _ φ' H' => ∀ ps, PrR W φ' H' d ps → Q ps H'
def PX (X : Cx) (W : Wd) (w : WX) (pos : Pos) (ks : List (Option Expr)) (vs : List Expr) (m : PM) : Prop := ∃ trs, PPs X pos ks vs trs ∧ ∀ σ H Q, toP W w m σ H Q → tPairs trs σ H Q
section
variable {X : Cx} {W : Wd} {w : WX} {pos : Pos} {o i e : Expr} {mo mi mk mv me : EM} {φ : List Addr} {H : Hp} {M : Ms}
theorem x_dget {k : Nat} (hr : Room k X.A) (ho : EX X W w o mo) (hi : EX X W w i mi) (hs : NoSl i := by intro _ _; rfl) : EX X W w (.Subscript o i pos) (eDGet mo mi) := (pe_dget (by have := hr.un; omega) ho hi hs).less fun σ H Q ⟨φ, ρ, M, hs, ro, out⟩ =>
  ⟨φ, ρ, M, hs, ro, (Out.bnd out).imp fun x M1 φ1 H1 _ g1 h1 out1 u ru => ⟨φ1, ρ, M1, h1, ro.grow g1, (Out.bnd out1).imp fun y M2 φ2 H2 _ g2 h2 out2 v rv => by
    cases x with
    | loc n =>
      obtain ⟨a, rfl, ea⟩ := Rep.grow g2 _ _ ru
      dsimp only at out2
      cases hm : M2[n]? with
      | none => rw [hm] at out2; exact out2.no.elim
      | some ob =>
        rw [hm] at out2
        cases ob with
        | dic l =>
          dsimp only at out2
          by_cases hk : keyD y = true
          · rw [if_pos hk] at out2
            cases hd : getD_ l y with
            | none => rw [hd] at out2; exact out2.no.elim
            | some d =>
              rw [hd] at out2
              obtain ⟨a', ea', vs, hH, rs⟩ := h2.at_ n _ hm
              rw [ea] at ea'
              cases ea'
              obtain ⟨k', kr, rfl⟩ := KeyR.ex hk rv
              obtain ⟨v, hv, rd⟩ := (rs.get kr).1 d hd
              exact ⟨a, v, rfl, hv ▸ DGet.k hH, out2.now h2 v rd⟩
          · rw [if_neg hk] at out2
            exact out2.no.elim
        | _ => exact out2.no.elim
    | _ => exact out2.no.elim⟩⟩
theorem p_nil : PX X W w pos [] [] pNil := ⟨[], pps_nil, fun σ H Q ⟨φ, ρ, M, hs, ro, out⟩ => out.now hs [] rfl⟩
theorem p_cons {ks : List (Option Expr)} {vs : List Expr} {m : PM} (hk : EX X W w o mk) (hv : EX X W w e mv) (h : PX X W w pos ks vs m) : PX X W w pos (some o :: ks) (e :: vs) (pCons mk mv m) := by
  obtain ⟨trs, h1, h2⟩ := h
  refine ⟨_, pps_cons hk hv h1, fun σ H Q ⟨φ, ρ, M, hs, ro, out⟩ => ⟨φ, ρ, M, hs, ro, (Out.bnd out).imp fun x M1 φ1 H1 _ g1 hs1 out1 u ru => ⟨φ1, ρ, M1, hs1, ro.grow g1, (Out.bnd out1).imp fun y M2 φ2 H2 _ g2 hs2 out2 v rv => h2 σ H2 _ ⟨φ2, ρ, M2, hs2, (ro.grow g1).grow g2, (Out.bnd out2).imp fun r M3 φ3 H3 _ g3 hs3 out3 ps rp => ?_⟩⟩⟩⟩
  exact out3.now hs3 _ ⟨u, v, ps, rfl, ru.grow (g2.trans g3), rv.grow g3, rp⟩
theorem PrR.kv : ∀ {l : List (D × D)} {ps : List (V × V)}, PrR W φ H l ps → l.all (fun p => keyD p.1) = true → ∃ kvs : List (Key × V), ps = kvs.map (fun kv => (kV kv.1, kv.2)) ∧ KvR W φ H l kvs
  | [], ps, h, _ => ⟨[], by rw [show ps = [] from h]; rfl, rfl⟩
  | (k, d) :: l, ps, ⟨k', v, r, e, a, b, h⟩, hk => by
    rw [List.all_cons, Bool.and_eq_true] at hk
    obtain ⟨kvs, e1, e2⟩ := PrR.kv h hk.2
    obtain ⟨k2, kr, rfl⟩ := KeyR.ex hk.1 a
    exact ⟨(k2, v) :: kvs, by rw [e, e1]; rfl, k2, v, kvs, rfl, kr, b, e2⟩
theorem KvR.merge : ∀ {more l : List (D × D)} {ks vs : List (Key × V)}, KvR W φ H l vs → KvR W φ H more ks → KvR W φ H (mergeD l more) (mergeK vs ks)
  | [], l, ks, vs, h, h2 => by rw [show ks = [] from h2]; exact h
  | (k, d) :: more, l, ks, vs, h, ⟨k', v, r, e, a, b, h2⟩ => by
    subst e
    show KvR W φ H (mergeD (putD l k d) more) (mergeK (putK vs k' v) r)
    exact KvR.merge (h.put a b) h2
theorem x_disp {keys : List (Option Expr)} {values : List Expr} {m : PM} (h : PX X W w pos keys values m) (hall : keys.all (·.isSome) = true := by rfl) (hl : keys.length = values.length := by rfl) (h0 : keys ≠ [] := by simp) (h15 : keys.length ≤ 15 := by decide) : EX X W w (.Dict keys values pos) (eDisp m) := by
  obtain ⟨trs, h1, h2⟩ := h
  refine (pe_disp h1 hall hl h0 h15).less fun σ H Q ⟨φ, ρ, M, hs, ro, out⟩ p np => ?_
  have g0 : Grow φ (φ ++ [p]) H (upd H p (.dK [])) := ⟨⟨[p], rfl⟩, upd_tup fun xs z => by rw [np] at z; cases z⟩
  have hs0 : HS W (φ ++ [p]) (M ++ [.dic []]) (upd H p (.dK [])) := hs.new np ⟨[], upd_same, rfl⟩
  refine h2 σ _ _ ⟨φ ++ [p], ρ, M ++ [.dic []], hs0, ro.grow g0, (Out.bnd (out.pre g0)).imp fun r M1 φ1 H1 _ g1 hs1 out1 ps rp => ?_⟩
  split at out1
  · rename_i hc
    obtain ⟨hm, hl2, hk⟩ := hc
    have ep : φ1[M.length]? = some p := g1.at_ (by rw [← hs.len]; simp)
    obtain ⟨a', ea', vs, hH, rs⟩ := hs1.at_ _ _ hm
    rw [ep] at ea'
    cases ea'
    have evs : vs = [] := rs
    subst evs
    obtain ⟨kvs, e1, e2⟩ := rp.kv hk
    have g : Grow φ1 φ1 H1 (upd H1 p (.dK (mergeK [] kvs))) := Grow.upd fun xs z => by rw [hH] at z; cases z; rfl
    exact ⟨hH, kvs, e1, by rw [e2.len]; exact hl2, out1.then_ g (hs1.wr (o := .dic (mergeD [] r)) hm rfl rfl ep ⟨_, upd_same, KvR.merge (l := []) (vs := []) rfl (KvR.grow g _ _ e2)⟩) _ ⟨p, rfl, ep⟩⟩
  · exact out1.no.elim
end
/-! ### data compared -/
mutual
theorem D.py_inj : ∀ (a b : D), a.flat = true → b.flat = true → a.py = b.py → a = b
  | .non, b, _, h, e => by
    cases b with
    | loc n => cases h
    | nam _ => cases h
    | non => rfl
    | _ => cases e
  | .bl x, b, _, h, e => by cases b <;> first | (cases e; rfl) | cases e | cases h
  | .int x, b, _, h, e => by cases b <;> first | (cases e; rfl) | cases e | cases h
  | .str x, b, _, h, e => by
    cases b with
    | str y =>
      have z : (⟨x.toArray⟩ : Str) = ⟨y.toArray⟩ := PyData.str.inj e
      have z2 := congrArg (fun s : Str => s.cps.toList) z
      exact congrArg D.str (by simpa using z2)
    | loc n => cases h
    | nam _ => cases h
    | _ => cases e
  | .tup x, b, h1, h, e => by
    cases b with
    | tup y => exact congrArg D.tup (D.pys_inj x y h1 h (PyData.tuple.inj e))
    | loc n => cases h
    | nam _ => cases h
    | _ => cases e
  | .nam ss, _, h, _, _ => by cases h
  | .loc n, _, h, _, _ => by cases h
theorem D.pys_inj : ∀ (a b : List D), D.flats a = true → D.flats b = true → D.pys a = D.pys b → a = b
  | [], b, _, _, e => by
    cases b with
    | nil => rfl
    | cons _ _ => cases e
  | x :: a, b, h1, h, e => by
    cases b with
    | nil => cases e
    | cons y b =>
      unfold D.flats at h1 h
      rw [Bool.and_eq_true] at h1 h
      unfold D.pys at e
      obtain ⟨e1, e2⟩ := List.cons.inj e
      rw [D.py_inj x y h1.1 h.1 e1, D.pys_inj a b h1.2 h.2 e2]
end
theorem D.pys_map : ∀ l : List D, D.pys l = l.map D.py
  | [] => rfl
  | x :: l => by rw [D.pys, D.pys_map l]; rfl
theorem D.flats_all : ∀ l : List D, D.flats l = l.all D.flat
  | [] => rfl
  | x :: l => by rw [D.flats, D.flats_all l]; rfl
def noneB : PyData → Bool
  | .none => true
  | _ => false
theorem noneB_no {d : PyData} (h : noneB d = false) : d ≠ .none := fun z => by subst z; cases h
/-- a < b of data alike -/
def dLess (a b : D) : Bool := PySem.W.dataLt a.py b.py
def likeB (a b : D) : Bool := PySem.W.alike a.py b.py
def dLtD : DOp := fun x y M => ret (x.flat = true ∧ y.flat = true ∧ likeB x y = true ∧ noneB x.py = false ∧ x.py.depth ≤ 64) (.bl (dLess x y)) M
def rLtD (K : PySem.W.Frag) : R2 := fun x y H Q => ∃ d e, Dp K H x d ∧ Dp K H y e ∧ PySem.W.alike d e = true ∧ d ≠ .none ∧ d.depth ≤ 64 ∧ Q (.bl (PySem.W.dataLt d e)) H
section
variable {X : Cx} {W : Wd}
theorem op_ltD (hu : X.A.units + 65 < cLine) : OpR X (compareOp .Lt) (rLtD X.K) := by
  intro pins s σ H x y v u Q I rx ry h
  obtain ⟨d, e, hd, he, ha, hn, hdp, q⟩ := h
  obtain ⟨as, r1⟩ := Dp.reads I d x v hd rx
  obtain ⟨bs, r2⟩ := Dp.reads I e y u he ry
  exact PySem.W.lt_data r1 r2 ha hn (by have : min d.depth e.depth ≤ d.depth := Nat.min_le_left ..; omega) ⟨.bl _, H, I, rfl, q⟩
theorem ltD_d : OpD W (rLtD W.K) dLtD := fun w σ φ H M x y u v Q hs rx ry out => by
  obtain ⟨⟨h1, h2, h3, h4, h5⟩, out⟩ := out.ret
  exact ⟨_, _, rep_dp x u (D.vw_flat x h1) rx, rep_dp y v (D.vw_flat y h2) ry, h3, noneB_no h4, h5, out.now hs _ rfl⟩
end
/-! ### min, max of a list or of a tuple -/
def likeAll (l : List D) : Bool := l.all (fun a => l.all fun b => likeB a b) && l.all (fun a => !noneB a.py)
theorem likeAll_ok {l : List D} (h : likeAll l = true) : PySem.W.AlikeAll (D.pys l) := by
  unfold likeAll at h
  rw [Bool.and_eq_true, List.all_eq_true, List.all_eq_true] at h
  rw [D.pys_map]
  refine ⟨fun x hx y hy => ?_, fun x hx => ?_⟩
  · obtain ⟨a, ha, rfl⟩ := List.mem_map.mp hx
    obtain ⟨b, hb, rfl⟩ := List.mem_map.mp hy
    exact List.all_eq_true.mp (h.1 a ha) b hb
  · obtain ⟨a, ha, rfl⟩ := List.mem_map.mp hx
    exact noneB_no (by simpa using h.2 a ha)
def minF (x : D) (xs : List D) : D := xs.foldl (fun a y => if dLess y a then y else a) x
def maxF (x : D) (xs : List D) : D := xs.foldl (fun a y => if dLess a y then y else a) x
theorem minF_py : ∀ (xs : List D) (x : D), (minF x xs).py = PySem.W.minD x.py (D.pys xs)
  | [], x => rfl
  | y :: xs, x => by
    show (minF (if dLess y x then y else x) xs).py = PySem.W.minD (if PySem.W.dataLt y.py x.py then y.py else x.py) (D.pys xs)
    rw [minF_py xs]
    congr 1
    unfold dLess
    split <;> rfl
theorem maxF_py : ∀ (xs : List D) (x : D), (maxF x xs).py = PySem.W.maxD x.py (D.pys xs)
  | [], x => rfl
  | y :: xs, x => by
    show (maxF (if dLess x y then y else x) xs).py = PySem.W.maxD (if PySem.W.dataLt x.py y.py then y.py else x.py) (D.pys xs)
    rw [maxF_py xs]
    congr 1
    unfold dLess
    split <;> rfl
theorem minF_mem : ∀ (xs : List D) (x : D), minF x xs ∈ x :: xs
  | [], x => List.mem_cons_self
  | y :: xs, x => by
    show minF (if dLess y x then y else x) xs ∈ _
    rcases List.mem_cons.mp (minF_mem xs (if dLess y x then y else x)) with h | h
    · rw [h]
      split
      · exact List.mem_cons_of_mem _ List.mem_cons_self
      · exact List.mem_cons_self
    · exact List.mem_cons_of_mem _ (List.mem_cons_of_mem _ h)
theorem maxF_mem : ∀ (xs : List D) (x : D), maxF x xs ∈ x :: xs
  | [], x => List.mem_cons_self
  | y :: xs, x => by
    show maxF (if dLess x y then y else x) xs ∈ _
    rcases List.mem_cons.mp (maxF_mem xs (if dLess x y then y else x)) with h | h
    · rw [h]
      split
      · exact List.mem_cons_of_mem _ List.mem_cons_self
      · exact List.mem_cons_self
    · exact List.mem_cons_of_mem _ (List.mem_cons_of_mem _ h)
def seqOk (l : List D) : Bool := D.flats l && likeAll l && decide (PyData.depthAll (D.pys l) ≤ 64)
def fMin : Fn := fun xs M => match xs with
  | [d] => match itemsOf M d with
    | some (x :: r) => if seqOk (x :: r) then some (.ok (minF x r), M) else none
    | _ => none
  | _ => none
def fMax : Fn := fun xs M => match xs with
  | [d] => match itemsOf M d with
    | some (x :: r) => if seqOk (x :: r) then some (.ok (maxF x r), M) else none
    | _ => none
  | _ => none
def rBest (K : PySem.W.Frag) (best : PyData → List PyData → PyData) : List V → Hp → VK → Prop := fun vs H Q => ∃ (a : Addr) (ys : List V) (x : PyData) (xs : List PyData), vs = [.ref a] ∧ (SqL K H a ys ∨ SqT K H a ys) ∧ DpAll K H ys (x :: xs) ∧ PySem.W.AlikeAll (x :: xs) ∧ PyData.depthAll (x :: xs) ≤ 64 ∧
  ∀ (i : Nat) (v : V), ys[i]? = some v → (x :: xs)[i]? = some (best x xs) → Q v H
section
variable {X : Cx} {W : Wd}
theorem paired_get {α β : Type} {R : α → β → Prop} : ∀ {xs : List α} {ys : List β} {i : Nat} {y : β}, Paired R xs ys → ys[i]? = some y → ∃ x, xs[i]? = some x ∧ R x y
  | _, _, _, _, .nil, h => by simp at h
  | _, _, 0, _, .cons r _, h => by simp at h; subst h; exact ⟨_, rfl, r⟩
  | _, _, i + 1, _, .cons _ t, h => by
    obtain ⟨x, h1, h2⟩ := paired_get (i := i) t (by simpa using h)
    exact ⟨x, by simpa using h1, h2⟩
theorem best_pick {h : Heap} {its : List Value} {x : PyData} {xs : List PyData} {as bs : List Addr} {i : Nat} {v : Value} {h' : Heap} {b : PyData} (r : ReadsAll h its (x :: xs) as) (hv : its[i]? = some v) (k : ∀ b o, h.get? b = some o → h'.get? b = some o) (rb : Reads h' v b bs) (ha : PySem.W.AlikeAll (x :: xs)) (hb : b ∈ x :: xs) : (x :: xs)[i]? = some b := by
  obtain ⟨cs, r1, hi, hm, _⟩ := PySem.W.readsAll_at r i v hv
  have e := PySem.W.alike_unique _ b v cs bs (ha.1 _ hm b hb) (PySem.W.reads_keeps k r1) rb
  rw [List.getElem?_eq_getElem hi]
  rw [← e, List.getD_eq_getElem?_getD, List.getElem?_eq_getElem hi]
  rfl
theorem minD_mem : ∀ (xs : List PyData) (x : PyData), PySem.W.minD x xs ∈ x :: xs
  | [], x => List.mem_cons_self
  | y :: xs, x => by
    show PySem.W.minD (if PySem.W.dataLt y x then y else x) xs ∈ _
    rcases List.mem_cons.mp (minD_mem xs (if PySem.W.dataLt y x then y else x)) with h | h
    · rw [h]; split <;> simp
    · exact List.mem_cons_of_mem _ (List.mem_cons_of_mem _ h)
theorem maxD_mem : ∀ (xs : List PyData) (x : PyData), PySem.W.maxD x xs ∈ x :: xs
  | [], x => List.mem_cons_self
  | y :: xs, x => by
    show PySem.W.maxD (if PySem.W.dataLt x y then y else x) xs ∈ _
    rcases List.mem_cons.mp (maxD_mem xs (if PySem.W.dataLt x y then y else x)) with h | h
    · rw [h]; split <;> simp
    · exact List.mem_cons_of_mem _ (List.mem_cons_of_mem _ h)
theorem min_r {k : Nat} (hc : X.calm = true) (hr : Room k X.A) : CallR X (.builtin "min") (rBest X.K PySem.W.minD) := by
  intro pins s σ H vs us Q I r h
  obtain ⟨a, ys, x, xs, rfl, hs, hd, ha, hdp, q⟩ := h
  have hun := hr.un
  rw [Vals.ref1 r]
  rcases hs with hs | hs
  · obtain ⟨its, rv, hl, _⟩ := I.list hs
    obtain ⟨as, ra⟩ := Dp.readsAll I _ _ _ hd rv
    refine PySem.W.min_list_data (I.ok.hd hc) hl.isList (by simpa using ra) ha (by omega) fun i v h' tk bs hv rb hk => ?_
    have hv' : its[i]? = some v := by simpa using hv
    obtain ⟨u, hu, ru⟩ := paired_get rv hv'
    exact ⟨u, H, I.kept hk, ru, q i u hu (best_pick ra hv' hk rb ha (minD_mem xs x))⟩
  · obtain ⟨its, rv, hl, _⟩ := I.tuple hs
    obtain ⟨as, ra⟩ := Dp.readsAll I _ _ _ hd rv
    refine PySem.W.min_tuple_data (I.ok.hd hc) (show s.heap.IsTuple a its.toArray from hl) (by simpa using ra) ha (by omega) fun i v h' tk bs hv rb hk => ?_
    have hv' : its[i]? = some v := by simpa using hv
    obtain ⟨u, hu, ru⟩ := paired_get rv hv'
    exact ⟨u, H, I.kept hk, ru, q i u hu (best_pick ra hv' hk rb ha (minD_mem xs x))⟩
theorem max_r {k : Nat} (hc : X.calm = true) (hr : Room k X.A) : CallR X (.builtin "max") (rBest X.K PySem.W.maxD) := by
  intro pins s σ H vs us Q I r h
  obtain ⟨a, ys, x, xs, rfl, hs, hd, ha, hdp, q⟩ := h
  have hun := hr.un
  rw [Vals.ref1 r]
  rcases hs with hs | hs
  · obtain ⟨its, rv, hl, _⟩ := I.list hs
    obtain ⟨as, ra⟩ := Dp.readsAll I _ _ _ hd rv
    refine PySem.W.max_list_data (I.ok.hd hc) hl.isList (by simpa using ra) ha (by omega) fun i v h' tk bs hv rb hk => ?_
    have hv' : its[i]? = some v := by simpa using hv
    obtain ⟨u, hu, ru⟩ := paired_get rv hv'
    exact ⟨u, H, I.kept hk, ru, q i u hu (best_pick ra hv' hk rb ha (maxD_mem xs x))⟩
  · obtain ⟨its, rv, hl, _⟩ := I.tuple hs
    obtain ⟨as, ra⟩ := Dp.readsAll I _ _ _ hd rv
    refine PySem.W.max_tuple_data (I.ok.hd hc) (show s.heap.IsTuple a its.toArray from hl) (by simpa using ra) ha (by omega) fun i v h' tk bs hv rb hk => ?_
    have hv' : its[i]? = some v := by simpa using hv
    obtain ⟨u, hu, ru⟩ := paired_get rv hv'
    exact ⟨u, H, I.kept hk, ru, q i u hu (best_pick ra hv' hk rb ha (maxD_mem xs x))⟩
theorem best_d {best : PyData → List PyData → PyData} {bF : D → List D → D} {f : Fn} (hpy : ∀ xs x, (bF x xs).py = best x.py (D.pys xs)) (hmem : ∀ xs x, bF x xs ∈ x :: xs)
    (hf : ∀ xs M, f xs M = match xs with
      | [d] => match itemsOf M d with
        | some (x :: r) => if seqOk (x :: r) then some (.ok (bF x r), M) else none
        | _ => none
      | _ => none) : CallD W (rBest W.K best) f := fun w σ φ H M xs vs Q hs rx out => by
  rw [hf] at out
  split at out
  · split at out
    · rename_i d _ x r e
      split at out
      · rename_i hc
        obtain ⟨v, rfl, rv⟩ := rx.one
        obtain ⟨a, us, rfl, sq, rs⟩ := hs.items e rv
        unfold seqOk at hc
        rw [Bool.and_eq_true, Bool.and_eq_true, decide_eq_true_eq] at hc
        obtain ⟨⟨h1, h2⟩, h3⟩ := hc
        refine ⟨a, us, x.py, D.pys r, rfl, sq, reps_dp _ _ (D.vws_flats _ h1) rs, likeAll_ok h2, h3, fun i u hu hb => ?_⟩
        obtain ⟨c, hc, rc⟩ := rs.get' hu
        have e1 : (D.pys (x :: r))[i]? = some c.py := by rw [D.pys_map, List.getElem?_map, hc]; rfl
        have e2 : c.py = (bF x r).py := by
          rw [hpy]
          exact Option.some.inj (e1.symm.trans hb)
        have fl : ∀ y ∈ x :: r, D.flat y = true := fun y hy => by
          rw [D.flats_all, List.all_eq_true] at h1
          exact h1 y hy
        have e3 := D.py_inj c (bF x r) (fl c (List.mem_of_getElem? hc)) (fl _ (hmem r x)) e2
        subst e3
        exact out.now hs u rc
      · exact out.no.elim
    · exact out.no.elim
  · exact out.no.elim
theorem min_d : CallD W (rBest W.K PySem.W.minD) fMin := best_d (bF := minF) minF_py minF_mem fun xs M => rfl
theorem max_d : CallD W (rBest W.K PySem.W.maxD) fMax := best_d (bF := maxF) maxF_py maxF_mem fun xs M => rfl
end
end G
end
section
set_option Elab.async false
set_option linter.all false
set_option maxRecDepth 100000
set_option maxHeartbeats 4000000
/-! # what the printed walks use -/
namespace G
open PySem PySem.Spec PyProof.Rows L2
/-! ### names of the built-in -/
theorem b_len : bootBuiltins ("len" : Str) = some (.builtin "len") := by decide +kernel
theorem b_sum : bootBuiltins ("sum" : Str) = some (.builtin "sum") := by decide +kernel
theorem b_all : bootBuiltins ("all" : Str) = some (.builtin "all") := by decide +kernel
theorem b_any : bootBuiltins ("any" : Str) = some (.builtin "any") := by decide +kernel
theorem b_abs : bootBuiltins ("abs" : Str) = some (.builtin "abs") := by decide +kernel
theorem b_min : bootBuiltins ("min" : Str) = some (.builtin "min") := by decide +kernel
theorem b_max : bootBuiltins ("max" : Str) = some (.builtin "max") := by decide +kernel
theorem b_sorted : bootBuiltins ("sorted" : Str) = some (.builtin "sorted") := by decide +kernel
theorem b_int : bootBuiltins ("int" : Str) = some (.type "int") := by decide +kernel
theorem b_str : bootBuiltins ("str" : Str) = some (.type "str") := by decide +kernel
theorem b_bool : bootBuiltins ("bool" : Str) = some (.type "bool") := by decide +kernel
theorem b_tuple : bootBuiltins ("tuple" : Str) = some (.type "tuple") := by decide +kernel
theorem b_list : bootBuiltins ("list" : Str) = some (.type "list") := by decide +kernel
theorem b_dict : bootBuiltins ("dict" : Str) = some (.type "dict") := by decide +kernel
theorem b_set : bootBuiltins ("set" : Str) = some (.type "set") := by decide +kernel
section
variable {X : Cx} {W : Wd} {w : WX} {pos : Pos} {a b c e : Expr} {es : List Expr} {ma mb mc me : EM} {ta tb : TM} {k : Nat}
/-! ### comparisons -/
theorem x_lt (ha : EX X W w a ma) (hb : EX X W w b mb) (hm : behindInMarks .Lt b = false := by rfl) : EX X W w (.Compare a [.Lt] [b] pos) (eOp dLt ma mb) := x_cmp lt_r lt_d ha hb hm
theorem x_le (ha : EX X W w a ma) (hb : EX X W w b mb) (hm : behindInMarks .LtE b = false := by rfl) : EX X W w (.Compare a [.LtE] [b] pos) (eOp dLe ma mb) := x_cmp le_r le_d ha hb hm
theorem x_gt (ha : EX X W w a ma) (hb : EX X W w b mb) (hm : behindInMarks .Gt b = false := by rfl) : EX X W w (.Compare a [.Gt] [b] pos) (eOp dGt ma mb) := x_cmp op_gt gt_d ha hb hm
theorem x_ge (ha : EX X W w a ma) (hb : EX X W w b mb) (hm : behindInMarks .GtE b = false := by rfl) : EX X W w (.Compare a [.GtE] [b] pos) (eOp dGe ma mb) := x_cmp op_ge ge_d ha hb hm
theorem x_isN (ha : EX X W w a ma) (hb : EX X W w b mb) (hm : behindInMarks .Is b = false := by rfl) : EX X W w (.Compare a [.Is] [b] pos) (eOp dIsN ma mb) := x_cmp op_isN isn_d ha hb hm
theorem x_notN (ha : EX X W w a ma) (hb : EX X W w b mb) (hm : behindInMarks .IsNot b = false := by rfl) : EX X W w (.Compare a [.IsNot] [b] pos) (eOp dNotN ma mb) := x_cmp op_notN notn_d ha hb hm
theorem x_isB (ha : EX X W w a ma) (hb : EX X W w b mb) (hm : behindInMarks .Is b = false := by rfl) : EX X W w (.Compare a [.Is] [b] pos) (eOp dIsB ma mb) := x_cmp op_is_bl isb_d ha hb hm
theorem x_notB (ha : EX X W w a ma) (hb : EX X W w b mb) (hm : behindInMarks .IsNot b = false := by rfl) : EX X W w (.Compare a [.IsNot] [b] pos) (eOp dNotB ma mb) := x_cmp op_isnot_bl notb_d ha hb hm
theorem x_eq (hr : Room k X.A) (ha : EX X W w a ma) (hb : EX X W w b mb) (hK : W.K = X.K := by rfl) (hm : behindInMarks .Eq b = false := by rfl) : EX X W w (.Compare a [.Eq] [b] pos) (eOp dEq ma mb) := x_cmp (op_eqD hr.units) (by rw [← hK]; exact eq_d) ha hb hm
theorem x_ne (hr : Room k X.A) (ha : EX X W w a ma) (hb : EX X W w b mb) (hK : W.K = X.K := by rfl) (hm : behindInMarks .NotEq b = false := by rfl) : EX X W w (.Compare a [.NotEq] [b] pos) (eOp dNe ma mb) := x_cmp (op_neD hr.units) (by rw [← hK]; exact ne_d) ha hb hm
theorem x_ltT (hr : Room k X.A) (ha : EX X W w a ma) (hb : EX X W w b mb) (hK : W.K = X.K := by rfl) (hm : behindInMarks .Lt b = false := by rfl) : EX X W w (.Compare a [.Lt] [b] pos) (eOp dLtD ma mb) := x_cmp (op_ltD (by have := hr.un; omega)) (by rw [← hK]; exact ltD_d) ha hb hm
theorem t_lt (ha : EX X W w a ma) (hb : EX X W w b mb) (hm : behindInMarks .Lt b = false := by rfl) : TX X W w (.Compare a [.Lt] [b] pos) (tV (eOp dLt ma mb)) := t_cmp lt_r lt_d ha hb hm
theorem t_le (ha : EX X W w a ma) (hb : EX X W w b mb) (hm : behindInMarks .LtE b = false := by rfl) : TX X W w (.Compare a [.LtE] [b] pos) (tV (eOp dLe ma mb)) := t_cmp le_r le_d ha hb hm
theorem t_gt (ha : EX X W w a ma) (hb : EX X W w b mb) (hm : behindInMarks .Gt b = false := by rfl) : TX X W w (.Compare a [.Gt] [b] pos) (tV (eOp dGt ma mb)) := t_cmp op_gt gt_d ha hb hm
theorem t_ge (ha : EX X W w a ma) (hb : EX X W w b mb) (hm : behindInMarks .GtE b = false := by rfl) : TX X W w (.Compare a [.GtE] [b] pos) (tV (eOp dGe ma mb)) := t_cmp op_ge ge_d ha hb hm
theorem t_isN (ha : EX X W w a ma) (hb : EX X W w b mb) (hm : behindInMarks .Is b = false := by rfl) : TX X W w (.Compare a [.Is] [b] pos) (tV (eOp dIsN ma mb)) := t_cmp op_isN isn_d ha hb hm
theorem t_notN (ha : EX X W w a ma) (hb : EX X W w b mb) (hm : behindInMarks .IsNot b = false := by rfl) : TX X W w (.Compare a [.IsNot] [b] pos) (tV (eOp dNotN ma mb)) := t_cmp op_notN notn_d ha hb hm
theorem t_isB (ha : EX X W w a ma) (hb : EX X W w b mb) (hm : behindInMarks .Is b = false := by rfl) : TX X W w (.Compare a [.Is] [b] pos) (tV (eOp dIsB ma mb)) := t_cmp op_is_bl isb_d ha hb hm
theorem t_notB (ha : EX X W w a ma) (hb : EX X W w b mb) (hm : behindInMarks .IsNot b = false := by rfl) : TX X W w (.Compare a [.IsNot] [b] pos) (tV (eOp dNotB ma mb)) := t_cmp op_isnot_bl notb_d ha hb hm
theorem t_eq (hr : Room k X.A) (ha : EX X W w a ma) (hb : EX X W w b mb) (hK : W.K = X.K := by rfl) (hm : behindInMarks .Eq b = false := by rfl) : TX X W w (.Compare a [.Eq] [b] pos) (tV (eOp dEq ma mb)) := t_cmp (op_eqD hr.units) (by rw [← hK]; exact eq_d) ha hb hm
theorem t_ne (hr : Room k X.A) (ha : EX X W w a ma) (hb : EX X W w b mb) (hK : W.K = X.K := by rfl) (hm : behindInMarks .NotEq b = false := by rfl) : TX X W w (.Compare a [.NotEq] [b] pos) (tV (eOp dNe ma mb)) := t_cmp (op_neD hr.units) (by rw [← hK]; exact ne_d) ha hb hm
theorem t_ltT (hr : Room k X.A) (ha : EX X W w a ma) (hb : EX X W w b mb) (hK : W.K = X.K := by rfl) (hm : behindInMarks .Lt b = false := by rfl) : TX X W w (.Compare a [.Lt] [b] pos) (tV (eOp dLtD ma mb)) := t_cmp (op_ltD (by have := hr.un; omega)) (by rw [← hK]; exact ltD_d) ha hb hm
end
/-! ### a, b = x, y -/
def sPar (i j : Nat) (m : AM) : SM := fun ρ M => bndS (m ρ M) ρ fun xs M1 => match xs with
  | [v, u] => some (.nx, (ρ.set i (some v)).set j (some u), M1)
  | _ => none
theorem s_par {X : Cx} {W : Wd} {w : WX} {x y : Str} {a b : Expr} {m : AM} {px py pt pt2 pos : Pos} {kt k2 : Nat} (i j : Nat) (hN : X.N.Nodup) (ha : AX X W w [a, b] m) (hw : swappedStores [.Tuple [.Name x px, .Name y py] kt pt] (.Tuple [a, b] k2 pt2) X.env = pure (some [x, y]) := by rfl) (hc : X.calm = true := by rfl) (hi : X.N[i]? = some x := by rfl) (hj : X.N[j]? = some y := by rfl) (hij : i ≠ j := by decide)
    (hx : X.env.scope.names.lookup x = some .local := by rfl) (hy : X.env.scope.names.lookup y = some .local := by rfl)
    (hs : swapsWithSole [.Tuple [.Name x px, .Name y py] kt pt] (.Tuple [a, b] k2 pt2) pos.line X.env = pure false := by rfl) :
    SX X W w (.Assign [.Tuple [.Name x px, .Name y py] kt pt] (.Tuple [a, b] k2 pt2) pos) (sPar i j m) := (ps_par hc hN hi hj hij hx hy ha hw hs).less fun D σ H ⟨φ, ρ, M, hs, ro, out⟩ =>
  ⟨φ, ρ, M, hs, ro, (OutS.bnd ro out).imp fun xs M1 φ1 H1 _ g1 h1 out1 vs rv => by
    split at out1
    · obtain ⟨u, v, rfl, r1, r2⟩ := rv.two
      exact ⟨u, v, rfl, OutS.nx (w := w) out1 h1 (((ro.grow g1).set i r1).set j r2)⟩
    · exact out1.no.elim⟩
/-! ### a turn of a loop, what it made forgotten -/
def oldR (n : Nat) (ρ : Ro) : Ro := ρ.map fun o => match o with
  | some d => if D.cl n d then some d else none
  | none => none
def flOk (n : Nat) : Fl → Bool
  | .rt d => D.cl n d
  | .ex _ d => D.cl n d
  | _ => true
def scopeF (M : Ms) : Option (Fl × Ro × Ms) → Option (Fl × Ro × Ms)
  | some (f, ρ', M') => if okOld M.length M M' = true ∧ flOk M.length f = true then some (f, oldR M.length ρ', M'.take M.length) else some (f, ρ', M')
  | none => none
def sScope (m : SM) : SM := fun ρ M => scopeF M (m ρ M)
theorem RoOk.old {W : Wd} {φ ψ : List Addr} {H : Hp} : ∀ {ρ : Ro} {σ : L2.St}, RoOk W (φ ++ ψ) H ρ σ → RoOk W φ H (oldR φ.length ρ) σ
  | [], _, h => h
  | x :: ρ, σ, ⟨v, r, e, a, b⟩ => by
    refine ⟨v, r, e, fun d hd => ?_, RoOk.old b⟩
    cases x with
    | none => cases hd
    | some d0 =>
      have hd : (if D.cl φ.length d0 = true then some d0 else none) = some d := hd
      by_cases hc : D.cl φ.length d0 = true
      · rw [if_pos hc] at hd
        cases hd
        obtain ⟨u, e1, r1⟩ := a _ rfl
        exact ⟨u, e1, r1.back _ _ hc⟩
      · rw [if_neg hc] at hd
        cases hd
theorem scope_run {W : Wd} {w : WX} {m : SM} {D : Ends} {σ : L2.St} {H : Hp} (h : toS W w (sScope m) D σ H) : toS W w m D σ H := by
  obtain ⟨φ, ρ, M, hs, ro, f, ρ', M', e, q⟩ := h
  unfold sScope at e
  cases hm : m ρ M with
  | none => rw [hm] at e; cases e
  | some p =>
    obtain ⟨f1, ρ1, M1⟩ := p
    rw [hm] at e
    unfold scopeF at e
    dsimp only at e
    by_cases hc : okOld M.length M M1 = true ∧ flOk M.length f1 = true
    · rw [if_pos hc] at e
      cases e
      refine ⟨φ, ρ, M, hs, ro, f, ρ1, M1, hm, fun φ1 σ1 H1 g1 hs1 ro1 => ?_⟩
      have h0 := hs.trim0 hs1 g1 hc.1
      obtain ⟨ψ, rfl⟩ := g1.pre
      have g0 : Grow φ φ H H1 := ⟨⟨[], by simp⟩, g1.tup⟩
      have r0 : RoOk W φ H1 (oldR M.length ρ1) σ1 := by rw [← hs.len]; exact ro1.old
      have qq := q φ σ1 H1 g0 h0 r0
      cases f with
      | rt d => exact fun v rv => qq v (rv.back _ _ (by rw [hs.len]; exact hc.2))
      | ex c d => exact fun a v ha rv => qq a v ha (rv.back _ _ (by rw [hs.len]; exact hc.2))
      | _ => exact qq
    · rw [if_neg hc] at e
      cases e
      exact ⟨φ, ρ, M, hs, ro, f, ρ', M', hm, q⟩
theorem s_scope {X : Cx} {W : Wd} {w : WX} {ss : List Stmt} {m : SM} (h : SSX X W w ss m) : SSX X W w ss (sScope m) := h.less fun D σ H q => scope_run q
/-! ### all that is known of places forgotten -/
def sBlur (m : SM) : SM := fun ρ M => m (ρ.map fun _ => none) (M.map fun _ => MO.opq)
theorem RoOk.none_ {W : Wd} {φ : List Addr} {H : Hp} : ∀ {ρ : Ro} {σ : L2.St}, RoOk W φ H ρ σ → RoOk W φ H (ρ.map fun _ => none) σ
  | [], _, h => h
  | _ :: _, _, ⟨v, r, e, _, b⟩ => ⟨v, r, e, (fun _ z => nomatch z), RoOk.none_ b⟩
theorem HS.blur {W : Wd} {φ : List Addr} {H : Hp} {M : Ms} (h : HS W φ M H) : HS W φ (M.map fun _ => MO.opq) H := by
  have only : ∀ {n : Nat} {o : MO}, (M.map fun _ => MO.opq)[n]? = some o → o = .opq ∧ n < M.length := fun {n o} e => by
    rw [List.getElem?_map] at e
    cases hm : M[n]? with
    | none => rw [hm] at e; cases e
    | some u => rw [hm] at e; cases e; exact ⟨rfl, (List.getElem?_eq_some_iff.mp hm).1⟩
  refine ⟨by rw [h.len]; simp, fun n o e => ?_, fun n m a o u e1 e2 e3 e4 f1 f2 => ?_, h.tabs⟩
  · obtain ⟨rfl, hl⟩ := only e
    exact ⟨φ[n]'(by rw [h.len]; exact hl), List.getElem?_eq_getElem _, trivial⟩
  · obtain ⟨rfl, _⟩ := only e3
    cases f1
theorem s_blur {X : Cx} {W : Wd} {w : WX} {ss : List Stmt} {m : SM} (h : SSX X W w ss m) : SSX X W w ss (sBlur m) := h.less fun D σ H ⟨φ, ρ, M, hs, ro, out⟩ => ⟨φ, _, _, hs.blur, ro.none_, out⟩
/-! ### calls by keyword -/
def gP (k n : Nat) (is : List Nat) {α : Type} (us ws : List α) : List α := if us.length = k ∧ ws.length = n then is.filterMap fun i => (us ++ ws)[i]? else []
theorem paired_app {α β : Type} {R : α → β → Prop} : ∀ {a : List α} {b : List β} {c : List α} {d : List β}, Paired R a b → Paired R c d → Paired R (a ++ c) (b ++ d)
  | _, _, _, _, .nil, h => h
  | _, _, _, _, .cons r t, h => .cons r (paired_app t h)
theorem paired_at {α β : Type} {R : α → β → Prop} : ∀ {a : List α} {b : List β}, Paired R a b → ∀ i : Nat, (a[i]? = none ∧ b[i]? = none) ∨ ∃ x y, a[i]? = some x ∧ b[i]? = some y ∧ R x y
  | _, _, .nil, i => .inl ⟨by simp, by simp⟩
  | _, _, .cons r t, 0 => .inr ⟨_, _, rfl, rfl, r⟩
  | _, _, .cons r t, i + 1 => by simpa using paired_at t i
theorem paired_pick {α β : Type} {R : α → β → Prop} {a : List α} {b : List β} (h : Paired R a b) : ∀ is : List Nat, Paired R (is.filterMap fun i => a[i]?) (is.filterMap fun i => b[i]?)
  | [] => .nil
  | i :: is => by
    rw [List.filterMap_cons, List.filterMap_cons]
    rcases paired_at h i with ⟨e1, e2⟩ | ⟨x, y, e1, e2, r⟩
    · rw [e1, e2]
      exact paired_pick h is
    · rw [e1, e2]
      exact .cons r (paired_pick h is)
theorem paired_len {α β : Type} {R : α → β → Prop} : ∀ {a : List α} {b : List β}, Paired R a b → a.length = b.length
  | _, _, .nil => rfl
  | _, _, .cons r t => by simp [paired_len t]
theorem gP_rel {k n : Nat} {is : List Nat} {α β : Type} (R : α → β → Prop) {a : List α} {b : List β} {c : List α} {d : List β} (h1 : Paired R a b) (h2 : Paired R c d) : Paired R (gP k n is a c) (gP k n is b d) := by
  unfold gP
  rw [paired_len h1, paired_len h2]
  split
  · exact paired_pick (paired_app h1 h2) is
  · exact .nil
theorem reps_paired {W : Wd} {φ : List Addr} {H : Hp} : ∀ {l : List D} {vs : List V}, Reps W φ H l vs → Paired (Rep W φ H) l vs
  | [], vs, h => by rw [show vs = [] from h]; exact .nil
  | x :: l, vs, ⟨v, r, e, a, b⟩ => by rw [e]; exact .cons a (reps_paired b)
theorem paired_reps {W : Wd} {φ : List Addr} {H : Hp} : ∀ {l : List D} {vs : List V}, Paired (Rep W φ H) l vs → Reps W φ H l vs
  | _, _, .nil => rfl
  | _, _, .cons r t => ⟨_, _, rfl, r, paired_reps t⟩
theorem kperm_of {K : PySem.W.Frag} {x qual : Str} {st : Stmt} {f : Addr} {fd : FuncData} {ps ks : List Str} {k n : Nat} {is : List Nat} (F : L2.Fun K x qual st f fd) (hne : ps ≠ [])
    (h : ∀ (kV doc pm : Value) (an : Option Addr) (cdv ct : Value) (us ws : List Value), us.length = k → ws.length = n → bindArgs (PySem.W.fnOf x qual (defArgs st) (defBody st) (defScope st) .none kV doc pm an cdv ct) ⟨us, ks.zip ws⟩ = pure (ps.zip (gP k n is us ws))) : KPerm K fd ps ks (gP k n is) := by
  obtain ⟨oc, od, kV, doc, pm, an, cdv, ct, osl, rfl, lk, hcd⟩ := F.ex
  refine ⟨fun s us ws _ hl => ?_, fun R => gP_rel R, fun W φ H _ _ _ _ a c => paired_reps (gP_rel _ (reps_paired a) (reps_paired c))⟩
  by_cases hc : us.length = k ∧ ws.length = n
  · exact .of_eq (h _ _ _ _ _ _ us ws hc.1 hc.2)
  · unfold gP at hl
    rw [if_neg hc] at hl
    cases ps with
    | nil => exact absurd rfl hne
    | cons _ _ => cases hl
section
variable {X : Cx} {W : Wd} {w : WX} {pos p : Pos} {e : Expr} {es : List Expr} {m mk : AM} {x : Str} {k np : Nat} {f : Addr} {fd : FuncData} {ps ks : List Str} {fn : Fn} {g : {α : Type} → List α → List α → List α} {kws : List Keyword}
theorem x_callK0 (ar : Arity np fn) (F : FnOk X.prog X.w X.K X.mg X.base (L2.CX X.prog X.w) k f fd ps (spF W np fn)) (hr : Room k X.A) (hg : Gl X x) (hm : X.mg x = some (.ref f)) (hk : PySem.W.keepIn X.K (.ref f) = true) (hb : KPerm X.K fd ps ks g) (tk : Takes X w) (hkw : KX X W w kws mk)
    (hks : (backToKw pos (keywordEach kws X.env)).filterMap (·.1) = ks := by rfl) (hall : (backToKw pos (keywordEach kws X.env)).all (·.1.isSome) = true := by rfl) (hdb : (x == ("__debug__" : Str)) = false := by decide)
    (hplain : ((backTo pos (starEach [] X.env)).any (·.1) || (backToKw pos (keywordEach kws X.env)).any (·.1.isNone)) = false := by rfl) : EX X W w (.Call (.Name x p) [] kws pos) (kCall fn g aNil mk) := by
  refine ⟨fun pins s σ H Q I ⟨φ, ρ, M, hs, ro, out⟩ => ?_⟩
  refine wpAny_Call_Name_kw (ld_glob I hg hm ?_ hdb)
  refine PySem.W.callWith_KW0 I.ok.mod.kin hk hall (thn (hkw.run pos pins s σ H (fun zs H2 => spF W np fn (g [] zs) H2 Q (WE w σ)) I ?_) fun ws s2 ⟨zs, H2, I2, rz, q2⟩ => ⟨I2.kIn, ?_⟩) hplain
  · have out0 : Out W w σ φ H (G.bnd (mk ρ M) fun ys M2 => fn (g [] ys) M2) fun d _ φ' H' => ∀ v, Rep W φ' H' d v → Q v H' := out
    exact ⟨φ, ρ, M, hs, ro, (Out.bnd out0).imp fun ys M2 φ2 H2 _ g2 h2 out2 zs rz => ⟨φ2, M2, g [] ys, h2, hb.reps W φ2 H2 rfl rz, ar _ M2 (fun z => by rw [z] at out2; exact out2.no), out2⟩⟩
  · rw [hks]
    exact run_kw F hr hb (passAt tk σ) I2 .nil rz q2
theorem x_callKe (ar : Arity np fn) (F : FnOk X.prog X.w X.K X.mg X.base (L2.CX X.prog X.w) k f fd ps (spF W np fn)) (hr : Room k X.A) (hg : Gl X x) (hm : X.mg x = some (.ref f)) (hk : PySem.W.keepIn X.K (.ref f) = true) (hb : KPerm X.K fd ps ks g) (tk : Takes X w) (ha : AX X W w (e :: es) m) (hkw : KX X W w kws mk)
    (hks : (backToKw pos (keywordEach kws X.env)).filterMap (·.1) = ks := by rfl) (hall : (backToKw pos (keywordEach kws X.env)).all (·.1.isSome) = true := by rfl) (hdb : (x == ("__debug__" : Str)) = false := by decide)
    (hplain : ((backTo pos (starEach (e :: es) X.env)).any (·.1) || (backToKw pos (keywordEach kws X.env)).any (·.1.isNone)) = false := by rfl) (he : starEach (e :: es) X.env = (false, eval e X.env) :: starEach es X.env := by rfl) : EX X W w (.Call (.Name x p) (e :: es) kws pos) (kCall fn g m mk) :=
  x_callK ar F hr hg hm hk hb tk ha hkw (fun M A E Q s h₀ kin h => PySem.W.callWith_KW (h₀ := h₀) kin hk hall h hplain he) hks hdb
end
section
variable {P : Program} {w : World} {K : PySem.W.Frag} {mg : Str → Option Value} {base : Heap} {W : Wd}
/-- fn_ok, the def's code object known -/
theorem fn_okC {x qual : Str} {st : Stmt} {f : Addr} {fd : FuncData} {N ps : List Str} {k : Nat} {b : SM} (F : L2.Fun K x qual st f fd) (S : FnScope N ps (defScope st)) (hK : W.K = K)
    (hb : ∀ (cdv : Value), fd.code = cdv → ∀ (A : Around) (outer : List Env) (s : Shared) (H : Hp) (E : XK), Room k (A.deeper (envOfC qual (defScope st) s.heap.objs.size f cdv)) → Takes (cxOf (L2.CX P w) P w K mg base N qual (defScope st) f cdv A outer s H E) (wE E) →
      PassesOwn (model P w) (A.deeper (envOfC qual (defScope st) s.heap.objs.size f cdv)) (envOfC qual (defScope st) s.heap.objs.size f cdv) (cxOf (L2.CX P w) P w K mg base N qual (defScope st) f cdv A outer s H E).xe →
      SSX (cxOf (L2.CX P w) P w K mg base N qual (defScope st) f cdv A outer s H E) W (wE E) (defBody st) b) : FnOk P w K mg base (L2.CX P w) (k + 1) f fd ps (spF W ps.length (callF ps.length (N.length - ps.length) b)) := by
  obtain ⟨oc, od, kV, doc, pm, an, cdv, ct, osl, rfl, lk, hcd⟩ := F.ex
  refine fn_of lk hcd S (fun vs H Q E h => ?_) fun A outer s H vs Q E hr h => ⟨toS W (wE E) b, hb cdv rfl A outer s H E hr (takes_of rfl rfl rfl rfl) (passes_of (K := fun e s'' => L2.CX P w outer H s E e s'') rfl), ?_⟩
  · obtain ⟨φ, M, ds, hs, r, hl, _⟩ := h
    rw [r.len, hl]
  · obtain ⟨φ, M, ds, hs, r, hl, out⟩ := h
    unfold callF at out
    rw [if_pos hl] at out
    refine ⟨φ, _, M, hs, ?_, fn_run hs out⟩
    unfold L2.start
    rw [r.len, hl]
    exact RoOk.start _ r
end
/-! ### a def of the module -/
structure Dn (K : PySem.W.Frag) (mg : Str → Option Value) (x : Str) (st : Stmt) (ps : List Str) (f : Addr) (fd : FuncData) : Prop where
  mgf : mg x = some (.ref f)
  fn : L2.Fun K x x st f fd
  bd : Binds K fd ps []
theorem dn_mk {K : PySem.W.Frag} {h : Heap} {mg : Str → Option Value} {x : Str} {st : Stmt} {ps : List Str} {f : Addr} {oc : Value} {od an : Option Addr} {osl : Array (Option Value)} {kV doc pm cdv ct : Value} (KX : K.In h) (Gn : h.Ns mainGlobals mg) (a : PySem.W.nsIn K mainGlobals x = some (some (.ref f)))
    (l : K.lookup f = some ⟨oc, od, .func (PySem.W.fnOf x x (defArgs st) (defBody st) (defScope st) .none kV doc pm an cdv ct), osl⟩) (c : PySem.W.codeIn K cdv x = true) (k : PySem.W.keepIn K (.ref f) = true)
    (hb : ∀ (kV doc pm : Value) (an : Option Addr) (cdv ct : Value) (us : List Value), us.length = ps.length → bindArgs (PySem.W.fnOf x x (defArgs st) (defBody st) (defScope st) .none kV doc pm an cdv ct) ⟨us, []⟩ = pure (ps.zip us)) : Dn K mg x st ps f (PySem.W.fnOf x x (defArgs st) (defBody st) (defScope st) .none kV doc pm an cdv ct) :=
  have F := fun_mk (st := st) l c k
  ⟨PySem.W.mg_of KX Gn a, F, F.binds hb⟩
end G
end
section
set_option Elab.async false
set_option linter.all false
set_option maxRecDepth 100000
set_option maxHeartbeats 4000000
/-! # sorted of a list or a tuple of ints; tuple(range(..)) -/
namespace G
section
open PySem PyProof.Rows Srt SrtO
variable {prog : Program} {w : World} {A : Around} {E : Value → Shared → Prop} {s : Shared}
theorem gather_tup {l : Addr} {vs : List Value} {Q : List Value → Shared → Prop} (hl : IsTup s.heap l vs.toArray) (hsz : vs.length ≤ sizeLine)
    (h : Q vs { s with heap := (s.heap.push (seqObj "list" #[] 0)).update s.heap.objs.size (Obj.mapSeq (· ++ vs.toArray)) }) : wpAny (model prog w) A (collect (.ref l)) Q E s := by
  obtain ⟨o, ho, hc, n, hd⟩ := id hl
  unfold collect
  refine wpAny_bind (wpAny_runValue (codeAny_builtin entry_proto_collect' ?_))
  show wpAny _ _ (do again (.builtin "list.__iadd__" ⟨[← newList [], .ref l], []⟩)) _ _ s
  refine wpAny_bind (wpAny_newList (wpAny_pure ⟨Code.quiet_builtin _ (by decide +kernel), codeAny_builtin entry_list_iadd' ?_⟩))
  show wpAny _ _ (Builtin.List.listExtendWith (.ref s.heap.objs.size) (.ref l) (.ref s.heap.objs.size)) _ _ { s with heap := s.heap.push (seqObj "list" #[] 0) }
  unfold Builtin.List.listExtendWith
  have ho' : (s.heap.push (seqObj "list" #[] 0)).get? l = some o := Heap.get?_push_of_some _ ho
  refine wpAny_bind (wpAny_typeOf (T := "tuple") ⟨o, ho', hc⟩ ?_)
  have ht : (Value.type "tuple" == Value.type "tuple") = true := by rfl
  rw [if_pos (by rw [ht]; simp)]
  refine wpAny_bind (listItems_at ho' hd ?_)
  refine wpAny_bind (listItems_at (xs := #[]) (n := 0) (Heap.get?_push_size _ rfl) rfl ?_)
  rw [if_neg (by simp)]
  refine wpAny_bind (listUpdate_at (xs := #[]) (n := 0) (Heap.get?_push_size _ rfl) rfl ?_ (Nat.zero_le _) (by show (#[] ++ vs.toArray).size ≤ sizeLine + 1; simp only [Array.size_append, List.size_toArray, List.length_nil]; omega))
  refine wpAny_pure ?_
  show wpAny (model prog w) A (do
      let o ← load s.heap.objs.size
      match o.data with
      | .seq xs _ => pure xs.toList
      | _ => unsupported "internal:collect") Q E { s with heap := (s.heap.push (seqObj "list" #[] 0)).update s.heap.objs.size (Obj.mapSeq (· ++ vs.toArray)) }
  refine wpAny_bind (wpAny_load (get?_update_seq (Heap.get?_push_size _ rfl) _) ?_)
  show wpAny _ _ (pure ((#[] : Array Value) ++ vs.toArray).toList) Q E _
  rw [show ((#[] : Array Value) ++ vs.toArray).toList = vs by simp]
  exact wpAny_pure h
theorem sorted_ordT {l : Addr} {vs : List Value} {ltv : Value → Value → Bool} {Q : Value → Shared → Prop} (O : Swo ltv) (hl : IsTup s.heap l vs.toArray) (hz : vs.length ≤ sizeLine)
    (hS : 2 ≤ vs.length → ∀ (h₁ : Heap) (a : Addr), h₁.get? a = some (seqObj "list" vs.toArray 0) → (∀ b o, s.heap.get? b = some o → b ≠ a ∧ h₁.get? b = some o) → SortableO prog w A.in1.in1 { s with heap := h₁ } a vs ltv)
    (h : ∀ out : List Value, Srtd ltv out → Stb ltv out vs → Q (.ref (s.heap.objs.size + 1)) { s with heap := sortedAll s.heap vs out.toArray }) :
    wpAny (model prog w) A (call (.builtin "sorted") [.ref l]) Q E s := by
  refine Calls.call_function_entry kind_sorted plain_sorted entry_sorted (args_sorted1 _) ?_
  unfold Builtin.«sorted»
  refine wpAny_bind (m := checkCount "sorted" 1 1 _) (wpAny_pure ?_)
  refine wpAny_bind (gather_tup hl hz ?_)
  refine wpAny_bind (wpAny_newList ?_ hz)
  have hsz : ((s.heap.push (seqObj "list" #[] 0)).update s.heap.objs.size (Obj.mapSeq (· ++ vs.toArray))).objs.size = s.heap.objs.size + 1 := by
    rw [Heap.size_update, size_push']
  have hoL : (((s.heap.push (seqObj "list" #[] 0)).update s.heap.objs.size (Obj.mapSeq (· ++ vs.toArray))).push (seqObj "list" vs.toArray 0)).get? (s.heap.objs.size + 1) = some (seqObj "list" vs.toArray 0) := by
    rw [← hsz]; exact Heap.get?_push_size _ rfl
  have keep : ∀ b o, s.heap.get? b = some o → b ≠ s.heap.objs.size + 1 ∧ (((s.heap.push (seqObj "list" #[] 0)).update s.heap.objs.size (Obj.mapSeq (· ++ vs.toArray))).push (seqObj "list" vs.toArray 0)).get? b = some o := fun b o q => by
    have hlt : b < s.heap.objs.size := Heap.lt_size q
    refine ⟨Nat.ne_of_lt (Nat.lt_succ_of_lt hlt), Heap.get?_push_of_some _ ?_⟩
    rw [Heap.get?_update_ne _ _ _ _ (Nat.ne_of_lt hlt)]
    exact Heap.get?_push_of_some _ q
  show wpAny _ _ _ _ _ { s with heap := ((s.heap.push (seqObj "list" #[] 0)).update s.heap.objs.size (Obj.mapSeq (· ++ vs.toArray))).push (seqObj "list" vs.toArray 0) }
  rw [hsz]
  refine wpAny_bind (wpAny_holding (wpAny_call_entry slot_list_sort ⟨_, hoL, rfl⟩ entry_list_sort (list_sort_ord O hoL hz (fun h2 => hS h2 _ _ hoL keep) fun out hs hb => ⟨_, rfl, ?_⟩) (args_list_sort _)))
  exact wpAny_pure ⟨_, rfl, h out hs hb⟩
end
open PySem PySem.Spec PyProof.Rows L2
/-- ints, from the least on -/
def insI (n : Int) : List Int → List Int
  | [] => [n]
  | m :: r => if n ≤ m then n :: m :: r else m :: insI n r
def sortI : List Int → List Int
  | [] => []
  | n :: r => insI n (sortI r)
theorem insI_perm (n : Int) : ∀ l : List Int, (insI n l).Perm (n :: l)
  | [] => .refl _
  | m :: r => by
    unfold insI
    split
    · exact .refl _
    · exact ((insI_perm n r).cons m).trans (.swap _ _ _)
theorem sortI_perm : ∀ l : List Int, (sortI l).Perm l
  | [] => .nil
  | n :: r => (insI_perm n _).trans ((sortI_perm r).cons n)
theorem insI_le (n : Int) : ∀ {l : List Int}, l.Pairwise (· ≤ ·) → (insI n l).Pairwise (· ≤ ·)
  | [], _ => by simp [insI]
  | m :: r, h => by
    rw [List.pairwise_cons] at h
    unfold insI
    split
    · rename_i hn
      refine List.pairwise_cons.mpr ⟨fun x hx => ?_, List.pairwise_cons.mpr h⟩
      rcases List.mem_cons.mp hx with rfl | hx
      · exact hn
      · have := h.1 x hx; omega
    · rename_i hn
      refine List.pairwise_cons.mpr ⟨fun x hx => ?_, insI_le n h.2⟩
      rcases List.mem_cons.mp ((insI_perm n r).mem_iff.mp hx) with rfl | hx
      · omega
      · exact h.1 x hx
theorem sortI_le : ∀ l : List Int, (sortI l).Pairwise (· ≤ ·)
  | [] => .nil
  | n :: r => insI_le n (sortI_le r)
theorem sort_one : ∀ {l k : List Int}, l.Perm k → l.Pairwise (· ≤ ·) → k.Pairwise (· ≤ ·) → l = k
  | [], k, p, _, _ => p.nil_eq
  | x :: l, [], p, _, _ => by cases p.symm.nil_eq
  | x :: l, y :: k, p, hl, hk => by
    rw [List.pairwise_cons] at hl hk
    have e : x = y := by
      have h1 : x ∈ y :: k := p.mem_iff.mp List.mem_cons_self
      have h2 : y ∈ x :: l := p.mem_iff.mpr List.mem_cons_self
      rcases List.mem_cons.mp h1 with e | h1
      · exact e
      · rcases List.mem_cons.mp h2 with e | h2
        · exact e.symm
        · have := hk.1 x h1; have := hl.1 y h2; omega
    subst e
    rw [sort_one p.cons_inv hl.2 hk.2]
theorem sortI_unique {l k : List Int} (p : k.Perm l) (h : k.Pairwise (· ≤ ·)) : k = sortI l := sort_one (p.trans (sortI_perm l).symm) h (sortI_le l)
def fSorted : Fn := fun xs M => match xs with
  | [d] => match (itemsOf M d).bind asInts with
    | some ns => some (.ok (.loc M.length), M ++ [.lst ((sortI ns).map D.int)])
    | none => none
  | _ => none
section
variable {X : Cx} {W : Wd}
def rSort2 (K : PySem.W.Frag) : List V → Hp → VK → Prop := fun vs H Q => ∃ (a : Addr) (ns : List Int), vs = [V.ref a] ∧ (SqL K H a (ns.map V.int) ∨ SqT K H a (ns.map V.int)) ∧
  ∀ p : Addr, H p = none → Q (.ref p) (upd H p (.lst ((sortI ns).map V.int)))
theorem sorted_r : CallR X (.builtin "sorted") (rSort2 X.K) := fun pins s σ H vs us Q I r h => by
  obtain ⟨a, ns, rfl, hs | hs, q⟩ := h
  · exact cr_sortedI pins s σ H _ us Q I r ⟨a, ns, rfl, hs, fun ns' p hp ho hn => by rw [sortI_unique hp ho]; exact q p hn⟩
  · obtain ⟨its, rv, hl, hz⟩ := I.tuple hs
    rw [Vals.ref1 r]
    have hi := rv.ints
    refine sorted_ordT SrtO.swo_int hl (by rw [← rv.length]; exact hz) (fun h2 h₁ a' _ _ => SrtO.ints_sortable hi h2) fun out h1 h2 => ?_
    obtain ⟨k1, k2, k3⟩ := SrtO.ints_out hi h1 h2
    obtain ⟨ep, he'⟩ := PyProof.Rows.sortedAll_at s.heap its out.toArray
    have e : out.map SrtO.iv = sortI ns := sortI_unique k2 k3
    have hlen : ((sortI ns).map V.int).length ≤ sizeLine := by
      rw [List.length_map, (sortI_perm ns).length_eq]
      rw [List.length_map] at hz
      exact hz
    rw [e] at k1
    exact ⟨.ref _, upd H (s.heap.objs.size + 1) (.lst ((sortI ns).map V.int)), I.laid (t' := s.toks) (fun _ _ => PyProof.Rows.sortedAll_old) (Nat.le_succ _) ⟨hlen, out, ep, vals_of_ints k1, he'⟩, rfl, q _ (I.hok.fresh (Nat.le_succ _))⟩
theorem sorted_d : CallD W (rSort2 W.K) fSorted := fun w σ φ H M xs vs Q hs rx out => by
  unfold fSorted at out
  split at out
  · split at out
    · rename_i d _ ns e
      obtain ⟨v, rfl, r⟩ := rx.one
      cases hi : itemsOf M d with
      | none => rw [hi] at e; cases e
      | some l =>
        rw [hi] at e
        have el := of_asInts (show asInts l = some ns from e)
        subst el
        obtain ⟨a, us, rfl, sq, rs⟩ := hs.items hi r
        rw [reps_ints rs] at sq
        refine ⟨a, ns, rfl, sq, fun p hn => ?_⟩
        obtain ⟨g, h2, r3⟩ := new_lst hs hn (ints_reps (sortI ns))
        exact out.then_ g h2 _ r3
    · exact out.no.elim
  · exact out.no.elim
end
end G
end
section
set_option Elab.async false
set_option linter.all false
set_option maxRecDepth 100000
set_option maxHeartbeats 4000000
/-! # what stands in a list or a tuple; tuple(range(..)) -/
namespace G
open PySem PySem.Spec PyProof.Rows L2
/-- no list, no tuple -/
def D.sc : D → Bool
  | .non => true
  | .bl _ => true
  | .int _ => true
  | .str _ => true
  | _ => false
/-- == of such -/
def D.eqs : D → D → Bool
  | .non, .non => true
  | .bl a, .bl b => a == b
  | .bl a, .int b => (if a then 1 else 0) == b
  | .int a, .bl b => a == (if b then 1 else 0)
  | .int a, .int b => a == b
  | .str a, .str b => a == b
  | _, _ => false
def inD (x : D) (l : List D) : Bool := l.any fun y => D.eqs y x
def dIn : DOp := fun x y M => match itemsOf M y with
  | some l => if x.sc = true ∧ l.all D.sc = true then some (.ok (.bl (inD x l)), M) else none
  | none => none
def dNin : DOp := fun x y M => match itemsOf M y with
  | some l => if x.sc = true ∧ l.all D.sc = true then some (.ok (.bl (!inD x l)), M) else none
  | none => none
section
variable {X : Cx} {W : Wd} {w : WX} {φ : List Addr} {H : Hp} {a b : Expr} {ma mb : EM} {pos : Pos}
theorem sc_flat {d : D} {v : V} (r : Rep W φ H d v) (h : d.sc = true) : flatV v = true := by
  cases d with
  | non => rw [show v = _ from r]; rfl
  | bl b => rw [show v = _ from r]; rfl
  | int b => rw [show v = _ from r]; rfl
  | str b => rw [show v = _ from r]; rfl
  | _ => cases h
theorem str_beq {a b : List Nat} : (({ cps := a.toArray } : Str) == { cps := b.toArray }) = (a == b) := by
  by_cases h : a = b
  · subst h
    simp
  · have h2 : ¬ (({ cps := a.toArray } : Str) = { cps := b.toArray }) := fun e => h (by injection e with e; simpa using congrArg Array.toList e)
    rw [show (a == b) = false by simpa using h]
    simpa using h2
theorem eqs_eqV {d c : D} {v u : V} (r : Rep W φ H d v) (q : Rep W φ H c u) (h : d.sc = true) (k : c.sc = true) : eqV v u = D.eqs d c := by
  cases d <;> first
    | exact absurd h Bool.false_ne_true
    | (cases c <;> first
        | exact absurd k Bool.false_ne_true
        | (rw [show v = _ from r, show u = _ from q]; first | rfl | exact str_beq))
theorem sc_all : ∀ {l : List D} {vs : List V}, Reps W φ H l vs → l.all D.sc = true → vs.all flatV = true
  | [], vs, r, _ => by rw [show vs = [] from r]; rfl
  | d :: l, _, ⟨v, us, e, r, rs⟩, h => by
    rw [List.all_cons, Bool.and_eq_true] at h
    rw [e, List.all_cons, sc_flat r h.1, sc_all rs h.2]
    rfl
theorem inV_inD {x : D} {v : V} (q : Rep W φ H x v) (k : x.sc = true) : ∀ {l : List D} {vs : List V}, Reps W φ H l vs → l.all D.sc = true → inV v vs = inD x l
  | [], vs, r, _ => by rw [show vs = [] from r]; rfl
  | d :: l, _, ⟨u, us, e, r, rs⟩, h => by
    rw [List.all_cons, Bool.and_eq_true] at h
    have := inV_inD q k rs h.2
    unfold inV inD at this ⊢
    rw [e, List.any_cons, List.any_cons, this, eqs_eqV r q h.1 k]
theorem in_d : OpD W (rIn W.K false) dIn := fun w σ φ H M x y u v Q hs rx ry out => by
  unfold dIn at out
  split at out
  · rename_i l e
    split at out
    · rename_i hc
      obtain ⟨a, us, rfl, sq, rs⟩ := hs.items e ry
      refine ⟨a, us, rfl, sq, sc_flat rx hc.1, sc_all rs hc.2, ?_⟩
      rw [inV_inD rx hc.1 rs hc.2]
      exact out.now hs _ rfl
    · exact out.no.elim
  · exact out.no.elim
theorem nin_d : OpD W (rIn W.K true) dNin := fun w σ φ H M x y u v Q hs rx ry out => by
  unfold dNin at out
  split at out
  · rename_i l e
    split at out
    · rename_i hc
      obtain ⟨a, us, rfl, sq, rs⟩ := hs.items e ry
      refine ⟨a, us, rfl, sq, sc_flat rx hc.1, sc_all rs hc.2, ?_⟩
      rw [inV_inD rx hc.1 rs hc.2]
      exact out.now hs _ rfl
    · exact out.no.elim
  · exact out.no.elim
theorem x_in (ha : EX X W w a ma) (hb : EX X W w b mb) (hK : W.K = X.K := by rfl) (hm : behindInMarks .In b = false := by rfl) : EX X W w (.Compare a [.In] [b] pos) (eOp dIn ma mb) := x_cmp op_in_seq (by rw [← hK]; exact in_d) ha hb hm
theorem x_nin (ha : EX X W w a ma) (hb : EX X W w b mb) (hK : W.K = X.K := by rfl) (hm : behindInMarks .NotIn b = false := by rfl) : EX X W w (.Compare a [.NotIn] [b] pos) (eOp dNin ma mb) := x_cmp op_notIn_seq (by rw [← hK]; exact nin_d) ha hb hm
theorem t_in (ha : EX X W w a ma) (hb : EX X W w b mb) (hK : W.K = X.K := by rfl) (hm : behindInMarks .In b = false := by rfl) : TX X W w (.Compare a [.In] [b] pos) (tV (eOp dIn ma mb)) := t_cmp op_in_seq (by rw [← hK]; exact in_d) ha hb hm
theorem t_nin (ha : EX X W w a ma) (hb : EX X W w b mb) (hK : W.K = X.K := by rfl) (hm : behindInMarks .NotIn b = false := by rfl) : TX X W w (.Compare a [.NotIn] [b] pos) (tV (eOp dNin ma mb)) := t_cmp op_notIn_seq (by rw [← hK]; exact nin_d) ha hb hm
end
/-! ### tuple(range(i, j)), tuple(range(i, j, c)) -/
section
variable {X : Cx} {W : Wd} {w : WX} {a b c : Expr} {ta : TA} {m : AM} {pos p pos2 p2 : Pos}
def RgRun (X : Cx) (e : Expr) (t : L2.St → Hp → (Int → Int → Int → Hp → Prop) → Prop) : Prop :=
  ∀ (pins : List (Addr × Obj)) (s : Shared) (σ : L2.St) (H : Hp) (Q : Int → Int → Int → Hp → Prop), Inv X pins σ H s → t σ H Q →
    wpAny (model X.prog X.w) X.A (eval e X.env) (fun x s' => ∃ r i j c t u v H', x = .ref r ∧ IsRange s'.heap r i j c t u v ∧ Inv X pins σ H' s' ∧ Q i j c H') X.xe s
def tR3 (ta : TA) : L2.St → Hp → (Int → Int → Int → Hp → Prop) → Prop := fun σ H Q => ta σ H fun vs H1 => ∃ i j c, vs = [.int i, .int j, .int c] ∧ c ≠ 0 ∧ c.natAbs < 1073741824 ∧ Q i j c H1
def tR2 (ta : TA) : L2.St → Hp → (Int → Int → Int → Hp → Prop) → Prop := fun σ H Q => ta σ H fun vs H1 => ∃ i j, vs = [.int i, .int j] ∧ Q i j 1 H1
theorem rgRun3 (hg : Gl X "range") (hm : X.mg "range" = none) (ha : PA X [a, b, c] ta)
    (hs : starEach [a, b, c] X.env = (false, eval a X.env) :: starEach [b, c] X.env := by rfl) (hpl : (backTo pos (starEach [b, c] X.env)).any (·.1) = false := by rfl) :
    RgRun X (.Call (.Name "range" p) [a, b, c] [] pos) (tR3 ta) := by
  intro pins s σ H R I h
  refine Call_ (ld_blt I hg hm boot_range (PyProof.Rows.callWith_type1 (thn (ha.run pos pins s σ H _ I h) fun us s1 ⟨vs, H1, I1, r1, q1⟩ => ?_) hs hpl))
  obtain ⟨i, j, k, e, c0, c1, q⟩ := q1
  subst e
  cases r1 with
  | cons r rr =>
    cases rr with
    | cons r' rr =>
      cases rr with
      | cons r'' rr =>
        cases rr
        obtain ⟨t, rfl⟩ := r
        obtain ⟨t', rfl⟩ := r'
        obtain ⟨t'', rfl⟩ := r''
        exact call_range_3 c0 ⟨_, i, j, k, _, _, _, H1, rfl, IsRange.new .., I1.kept (t' := s1.toks) fun b o e => Heap.get?_push_of_some _ e, q⟩ (.inl (PyProof.noPylong_small c1))
theorem rgRun2 (hg : Gl X "range") (hm : X.mg "range" = none) (ha : PA X [a, b] ta)
    (hs : starEach [a, b] X.env = (false, eval a X.env) :: starEach [b] X.env := by rfl) (hpl : (backTo pos (starEach [b] X.env)).any (·.1) = false := by rfl) :
    RgRun X (.Call (.Name "range" p) [a, b] [] pos) (tR2 ta) := by
  intro pins s σ H R I h
  refine Call_ (ld_blt I hg hm boot_range (PyProof.Rows.callWith_type1 (thn (ha.run pos pins s σ H _ I h) fun us s1 ⟨vs, H1, I1, r1, q1⟩ => ?_) hs hpl))
  obtain ⟨i, j, e, q⟩ := q1
  subst e
  cases r1 with
  | cons r rr =>
    cases rr with
    | cons r' rr =>
      cases rr
      obtain ⟨t, rfl⟩ := r
      obtain ⟨t', rfl⟩ := r'
      exact call_range_2 ⟨_, i, j, 1, _, _, _, H1, rfl, IsRange.new _ _ _ _ _ _ _, I1.kept fun b u e => Heap.get?_push_of_some _ e, q⟩
def rgC (i c : Int) (n : Nat) : List V := (List.range n).map fun k => V.int (i + (k : Nat) * c)
def tTupC (te : L2.St → Hp → (Int → Int → Int → Hp → Prop) → Prop) : TE := fun σ H Q => te σ H fun i j c H1 => ∃ n : Nat, Builtin.Range.small i j c = true ∧ Builtin.Range.rangeSize i j c = n ∧ n ≤ 2 ^ 24 ∧ ∀ q, H1 q = none → Q (.ref q) (upd H1 q (.tup (rgC i c n)))
theorem vals_rgC {i c : Int} {n : Nat} {acc : Array Value} (h : ItemsOf (fun k v => ∃ t, v = .int (i + k * c) t) acc n) : Vals (rgC i c n) acc.toList := by
  have e : acc.toList.length = n := by rw [Array.length_toList]; exact h.1
  unfold rgC
  rw [← e]
  refine vals_of_get acc.toList _ fun j u hj => ?_
  obtain ⟨t, rfl⟩ := h.2 j u (by rw [← hj, Array.getElem?_toList])
  exact ⟨t, rfl⟩
theorem pe_tupC {e : Expr} {te : L2.St → Hp → (Int → Int → Int → Hp → Prop) → Prop} (hc : X.calm = true) (hg : Gl X "tuple") (hm : X.mg "tuple" = none) (he : RgRun X e te) (na : starEach [e] X.env = (false, eval e X.env) :: starEach [] X.env := by rfl) : PE X (.Call (.Name "tuple" p) [e] [] pos) (tTupC te) := by
  refine ⟨fun pins s σ H Q I h => ?_⟩
  refine Call_ (ld_blt I hg hm boot_tuple (PyProof.Rows.callWith_type1 (args_cons (thn (he pins s σ H _ I h) fun x s1 ⟨r, i, j, c, t, u, v, H1, ex, hr, I1, n, b1, b2, b3, q⟩ => args_nil ?_) na) na))
  subst ex
  refine call_tuple_range (n := n) (I1.ok.hd hc) hr b1 b2 b3 fun h' tk acc hk hi => ?_
  have I2 : Inv X pins σ H1 { s1 with heap := h', toks := tk } := I1.kept hk
  refine ⟨.ref h'.objs.size, upd H1 h'.objs.size (.tup (rgC i c n)), I2.laid (t' := tk) (fun c o e => Heap.get?_push_of_some _ e) (Nat.le_refl _) (show ObjOk X.prog X.w _ _ _ (.tup (rgC i c n)) from ⟨?_, acc.toList, vals_rgC hi, ?_⟩), rfl, q _ (I2.hok.fresh (Nat.le_refl _))⟩
  · rw [rgC, List.length_map, List.length_range, sizeLine_eq]; omega
  · rw [Array.toArray_toList]; exact IsTup.new _ _
theorem rgC_reps {φ : List Addr} {H : Hp} {i c : Int} {n : Nat} : Reps W φ H (rngC i c n) (rgC i c n) := by
  unfold rngC rgC
  generalize List.range n = l
  induction l with
  | nil => rfl
  | cons k l ih => exact ⟨_, _, rfl, rfl, ih⟩
def tupRn (i j c : Int) (M : Ms) : Ot D := if c ≠ 0 ∧ c.natAbs < 1073741824 ∧ Builtin.Range.small i j c = true ∧ 0 ≤ Builtin.Range.rangeSize i j c ∧ (Builtin.Range.rangeSize i j c).toNat ≤ 2 ^ 24 then some (.ok (.tup (rngC i c (Builtin.Range.rangeSize i j c).toNat)), M) else none
def eTR3 (m : AM) : EM := fun ρ M => bnd (m ρ M) fun d M1 => match d with
  | [.int i, .int j, .int c] => tupRn i j c M1
  | _ => none
def eTR2 (m : AM) : EM := fun ρ M => bnd (m ρ M) fun d M1 => match d with
  | [.int i, .int j] => tupRn i j 1 M1
  | _ => none
theorem x_tupRn3 (hc : X.calm = true) (hg : Gl X "tuple") (hm : X.mg "tuple" = none) (hg2 : Gl X "range") (hm2 : X.mg "range" = none) (ha : AX X W w [a, b, c] m) (na : starEach [.Call (.Name "range" p2) [a, b, c] [] pos2] X.env = (false, eval (.Call (.Name "range" p2) [a, b, c] [] pos2) X.env) :: starEach [] X.env := by rfl)
    (hst : starEach [a, b, c] X.env = (false, eval a X.env) :: starEach [b, c] X.env := by rfl) (hpl : (backTo pos2 (starEach [b, c] X.env)).any (·.1) = false := by rfl) : EX X W w (.Call (.Name "tuple" p) [.Call (.Name "range" p2) [a, b, c] [] pos2] [] pos) (eTR3 m) :=
  (pe_tupC hc hg hm (rgRun3 hg2 hm2 ha hst hpl) na).less fun σ H Q ⟨φ, ρ, M, hs, ro, out⟩ => ⟨φ, ρ, M, hs, ro, (Out.bnd out).imp fun d M1 φ1 H1 e0 g1 h1 out1 vs rv => by
    clear e0
    split at out1
    · rename_i i j c
      obtain ⟨v, r, rfl, e1, v2, r2, rfl, e2, v3, r3, rfl, e4, e3⟩ := rv
      cases e1
      cases e2
      cases e4
      rw [show r3 = [] from e3]
      unfold tupRn at out1
      split at out1
      · rename_i hc
        refine ⟨i, j, c, rfl, hc.1, hc.2.1, _, hc.2.2.1, (Int.toNat_of_nonneg hc.2.2.2.1).symm, hc.2.2.2.2, fun q hn => ?_⟩
        obtain ⟨g, h2, r5⟩ := new_tup h1 hn rgC_reps
        exact out1.then_ g h2 _ r5
      · exact out1.no.elim
    · exact out1.no.elim⟩
theorem x_tupRn2 (hc : X.calm = true) (hg : Gl X "tuple") (hm : X.mg "tuple" = none) (hg2 : Gl X "range") (hm2 : X.mg "range" = none) (ha : AX X W w [a, b] m) (na : starEach [.Call (.Name "range" p2) [a, b] [] pos2] X.env = (false, eval (.Call (.Name "range" p2) [a, b] [] pos2) X.env) :: starEach [] X.env := by rfl)
    (hst : starEach [a, b] X.env = (false, eval a X.env) :: starEach [b] X.env := by rfl) (hpl : (backTo pos2 (starEach [b] X.env)).any (·.1) = false := by rfl) : EX X W w (.Call (.Name "tuple" p) [.Call (.Name "range" p2) [a, b] [] pos2] [] pos) (eTR2 m) :=
  (pe_tupC hc hg hm (rgRun2 hg2 hm2 ha hst hpl) na).less fun σ H Q ⟨φ, ρ, M, hs, ro, out⟩ => ⟨φ, ρ, M, hs, ro, (Out.bnd out).imp fun d M1 φ1 H1 e0 g1 h1 out1 vs rv => by
    clear e0
    split at out1
    · rename_i i j
      obtain ⟨v, r, rfl, e1, v2, r3, rfl, e2, e3⟩ := rv
      cases e1
      cases e2
      rw [show r3 = [] from e3]
      unfold tupRn at out1
      split at out1
      · rename_i hc
        refine ⟨i, j, rfl, _, hc.2.2.1, (Int.toNat_of_nonneg hc.2.2.2.1).symm, hc.2.2.2.2, fun q hn => ?_⟩
        obtain ⟨g, h2, r5⟩ := new_tup h1 hn rgC_reps
        exact out1.then_ g h2 _ r5
      · exact out1.no.elim
    · exact out1.no.elim⟩
end
end G
end
section
set_option Elab.async false
set_option linter.all false
set_option maxRecDepth 100000
set_option maxHeartbeats 6400000
/-! # len(set(t)) of a tuple of texts, however many -/
namespace SU
open PySem PySem.Spec PyProof.Rows
/-- how many unlike texts stand among the first i -/
def dcnt (xs : List Str) : Nat → Nat
  | 0 => 0
  | i + 1 => if (xs.take i).any (· == xs.getD i Str.empty) = true then dcnt xs i else dcnt xs i + 1
theorem dcnt_le (xs : List Str) : ∀ i, dcnt xs i ≤ i
  | 0 => Nat.le_refl _
  | i + 1 => by
    have h := dcnt_le xs i
    unfold dcnt
    split <;> omega
section
variable {prog : Program} {w : World} {A : Around} {R : Result → Shared → Prop} {I : Addr} {fp wr : List Addr} {G : Array GenState → Array GenState → Prop} {n : Nat} {P : Nat → Value → Prop} {St : Nat → Shared → Prop}
abbrev Has (prog : Program) (w : World) (h : Heap) (S : Addr) (xs : List Str) (i : Nat) : Prop := h.SetOf (PySem.strKind prog w) S (fun z => (xs.take i).any (· == z)) (dcnt xs i)
theorem Has.keep {h h' : Heap} {S : Addr} {xs : List Str} {i : Nat} (x : Has prog w h S xs i) (k : ∀ o, h.get? S = some o → h'.get? S = some o) : Has prog w h' S xs i := by
  obtain ⟨o, es, ep, t, ho, more⟩ := x
  exact ⟨o, es, ep, t, k o ho, more⟩
theorem fill (W : WalksS prog w A.in1 I fp wr G n P St) {S : Addr} (hSf : S ∉ fp) (xs : List Str) (hsz : xs.length = n) (hb : n + 1 < scanBound) (hval : ∀ i v, P i v → ∃ t, v = .str (xs.getD i Str.empty) t) :
    ∀ (k i : Nat) (s : Shared), n - i = k → i ≤ n → St i s → Has prog w s.heap S xs i → (∀ s', Moved (S :: wr) G s s' → Has prog w s'.heap S xs n → R (.ok (.ret .none)) s') → codeAny (model prog w) A (.builtin "set.update.loop" ⟨[.ref S, .ref I], []⟩) R s
  | 0, i, s, hk, hi, hst, hS, hR => by
    have e : i = n := by omega
    subst e
    refine codeAny_builtin PyProof.Rows.F.entry_set_update_loop ?_; rw [Around.under_plainId PyProof.Rows.F.plain_set_update_loop _]
    show wpAny _ A.in1 (pyNext (.ref I) >>= _) _ _ s; refine wpAny_bind (W.done s _ _ hst fun s1 mv => ?_)
    show wpAny _ A.in1 (ret Value.none) _ _ s1
    exact wpAny_pure (hR s1 (mv.mono fun b => List.mem_cons_of_mem _) (hS.keep fun o => mv.heap S o fun z => hSf (W.sub _ z)))
  | k + 1, i, s, hk, hi, hst, hS, hR => by
    have lt : i < n := by omega
    refine codeAny_builtin PyProof.Rows.F.entry_set_update_loop ?_; rw [Around.under_plainId PyProof.Rows.F.plain_set_update_loop _]
    show wpAny _ A.in1 (pyNext (.ref I) >>= _) _ _ s; refine wpAny_bind (W.item i s _ _ lt hst fun v s1 pv st1 mv => ?_)
    obtain ⟨t, rfl⟩ := hval i v pv
    have h1 : Has prog w s1.heap S xs i := hS.keep fun o => mv.heap S o fun z => hSf (W.sub _ z)
    show wpAny _ A.in1 (holding [Value.str (xs.getD i Str.empty) t] (setAdd S (.str (xs.getD i Str.empty) t)) >>= _) _ _ s1; refine wpAny_bind (wpAny_holding ?_)
    unfold setAdd; refine wpAny_holding ?_; refine wpAny_bind ((PySem.strKind prog w).pyHash (k := xs.getD i Str.empty) (strKind_is _ _ _ _) ?_)
    have room : dcnt xs i + 1 < scanBound := by have := dcnt_le xs i; omega
    refine wpAny_setAddHashed_of (knd := PySem.strKind prog w) (s := { s1 with toks := s1.toks + 1 }) (strKind_is _ _ _ _) rfl h1 room fun h2 sb S2 => ?_
    have hx : xs.take (i + 1) = xs.take i ++ [xs.getD i Str.empty] := by
      have hl : i < xs.length := by omega
      rw [List.take_add_one, List.getD_eq_getElem?_getD, List.getElem?_eq_getElem hl]
      rfl
    have S3 : Has prog w h2 S xs (i + 1) := SetOf_congr S2 (fun z => by
      rw [hx, List.any_append, List.any_cons, List.any_nil, Bool.or_false]
      generalize xs.getD i Str.empty = y
      by_cases e : z = y
      · subst e; simp
      · have nb : (y == z) = false := by simpa [beq_iff_eq] using fun q : y = z => e q.symm
        rw [nb, decide_eq_false e]) (by rw [dcnt])
    refine wpAny_pure ⟨plainId_quiet PyProof.Rows.F.plain_set_update_loop _, fill W hSf xs hsz hb hval k (i + 1) _ (by omega) lt (W.frame _ s1 _ _ st1 (Nat.le_succ _) fun b hb' o e => ?_) S3 fun s2 mv2 S4 => ?_⟩
    · rw [sb.2 b fun z => hSf (by rw [← z]; exact hb')]; exact e
    · refine hR s2 (Moved.trans W.gtrans ((mv.mono fun b => List.mem_cons_of_mem _).then_heap (Nat.le_succ _) fun b o nb e => ?_) mv2) S4
      rw [sb.2 b fun z => nb (by rw [z]; exact List.mem_cons_self)]; exact e
end
section
variable {prog : Program} {w : World} {A : Around} {E : Value → Shared → Prop} {s : Shared}
/-- the heap with an empty set behind -/
abbrev withSet (h : Heap) (led : Bool) : Heap := h.push { cls := .type "set", dict := none, data := .set #[] 0 (.fresh 0 0 led) }
theorem set_of_tup {l : Addr} {items : Array Value} {xs : List Str} {Q : Value → Shared → Prop} (hh : A.handled = none) (hl : s.heap.IsTuple l items) (hi : StrsAre items.toList xs) (hb : xs.length + 1 < scanBound)
    (h : ∀ (h' : Heap) (tk : Nat), Has prog w h' s.heap.objs.size xs xs.length → (∀ b o, b < s.heap.objs.size → s.heap.get? b = some o → h'.get? b = some o) → Q (.ref s.heap.objs.size) { s with heap := h', toks := tk }) : wpAny (model prog w) A (call (.type "set") [.ref l]) Q E s := by
  have ⟨c0, tl0, mro0⟩ := PySem.F.called_set.mro
  have made0 := PySem.F.called_set.made; have sub0 := PySem.F.called_set.sub
  have n1 := PySem.F.called_set.notType; have n2 := PySem.F.called_set.canCreate; have n3 := PySem.F.typeCall_set_1 (.ref l)
  have hsz : items.size = xs.length := by rw [← StrsAre.len_eq hi, Array.length_toList]
  refine wpAny_call (codeAny_of_tree ?_); show wpAny _ _ (callAny (.type "set") _) _ _ _
  refine wpAny_pure ⟨Code.quiet_builtin _ (by decide +kernel), codeAny_builtin PySem.F.entry_type_call ?_⟩; rw [Around.under_plain (weight_type_call_type "set" [.ref l] []) rfl]
  repeat (any_goals (first | assumption | wp_step))
  refine codeAny_mono (code_set_new_1 (.ref l) (E := E) (Q₁ := fun x s1 => ∃ led : Bool, x = .ref s.heap.objs.size ∧ s1 = { s with heap := withSet s.heap led }) fun led => ⟨led, rfl, rfl⟩) fun r s1 hr => ?_
  match r, hr with
  | .error e, hr => exact hr
  | .ok (.ret x), hr =>
    obtain ⟨led, rfl, rfl⟩ := hr
    have at0 : (withSet s.heap led).get? s.heap.objs.size = some { cls := .type "set", dict := none, data := .set #[] 0 (.fresh 0 0 led) } := Heap.get?_push_size _ rfl
    have ty0 : Shared.TypeIs { s with heap := withSet s.heap led } (.ref s.heap.objs.size) "set" := ⟨_, at0, rfl⟩
    have lk0 := PySem.F.called_set.init.lookup; have bd0 := PySem.F.called_set.init.bind (.ref s.heap.objs.size)
    repeat (any_goals (first | assumption | wp_step))
    refine codeAny_mono (codeAny_call_builtin (R := wants (fun x s2 => x = .none ∧ ∃ h' tk, s2 = { s with heap := h', toks := tk } ∧ Has prog w h' s.heap.objs.size xs xs.length ∧ (∀ b o, b < s.heap.objs.size → s.heap.get? b = some o → h'.get? b = some o)) E) PySem.F.called_set.init.plain PySem.F.entry_set_init (check_set_init_1 ty0 ?_)) fun r2 s2 hr2 => ?_
    · obtain ⟨⟨oc, od, oda, osl⟩, hol, hcl, nl, hdl⟩ := hl
      simp only at hcl hdl
      subst hcl hdl
      have old : (withSet s.heap led).get? l = some { cls := .type "tuple", dict := od, data := .seq items nl, slots := osl } := Heap.get?_push_of_some _ hol
      have tup1 : (withSet s.heap led).IsTuple l items := ⟨_, old, rfl, nl, rfl⟩
      have t1 := PySem.F.sub_tuple_set; have t2 := PySem.F.sub_tuple_frozenset; have t3 : (Value.type "tuple" == Value.type "dict") = false := by decide
      have lS : l < s.heap.objs.size := Heap.lt_size hol
      have hnd : A.in1.in1.in1.handled = none := by simp [hh]
      have neI : l ≠ (withSet s.heap led).objs.size := by rw [Heap.size_push]; exact Nat.ne_of_lt (Nat.lt_succ_of_lt lS)
      have nSf : s.heap.objs.size ∉ [(withSet s.heap led).objs.size, l] := by
        rw [Heap.size_push]; simp only [List.mem_cons, List.not_mem_nil, or_false, not_or]
        exact ⟨Nat.ne_of_lt (Nat.lt_succ_self _), Nat.ne_of_gt lS⟩
      have val : ∀ (i : Nat) (v : Value), items[i]? = some v → ∃ t, v = .str (xs.getD i Str.empty) t := fun i v hv => SS.strs_at hi i v (by rw [Array.getElem?_toList]; exact hv)
      unfold Builtin.«set.__init__» noKeywords Builtin.Frozenset.updateFrom; generalize hPI : pyIter = PI
      wp_walk
      subst hPI; refine wpAny_pyIter_tuple tup1 ?_; refine wpAny_bind (wpAny_runValue ?_)
      refine fill ((Walks.tuple hnd _ l neI items).toS) nSf xs hsz.symm (by omega) val (items.size - 0) 0 _ (by omega) (Nat.zero_le _) ⟨⟨_, Heap.get?_push_size _ rfl, rfl, rfl⟩, tup1.push _⟩ ?start ?fin
      case start =>
        have again : ((withSet s.heap led).push { cls := .type "tuple_iterator", data := .fields #[.ref l, .int 0 0] }).get? s.heap.objs.size = some { cls := .type "set", dict := none, data := .set #[] 0 (.fresh 0 0 led) } := Heap.get?_push_of_some _ at0
        exact SetOf_congr ((setObjOf_fresh (knd := PySem.strKind prog w) led).setOf again (by unfold scanBound; omega)) (fun _ => rfl) rfl
      case fin =>
        intro s3 mv hS3
        obtain ⟨h3, g3, d3, tk3, os3⟩ := s3
        have e1 : g3 = s.gens := mv.gens
        have e2 : d3 = s.drawn := mv.drawn
        have e3 : os3 = s.os := mv.os
        subst e1 e2 e3
        show wpAny _ _ _ _ _ _; refine wpAny_pure ?_; show wpAny _ _ (ret Value.none) _ _ _
        rw [hsz] at hS3
        refine wpAny_pure ⟨rfl, h3, tk3, rfl, hS3, fun b o hb' e => ?_⟩
        refine mv.heap b o ?_ (Heap.get?_push_of_some _ (Heap.get?_push_of_some _ e))
        have z1 : (withSet s.heap led).objs.size = s.heap.objs.size + 1 := Heap.size_push ..
        simp only [List.mem_cons, List.not_mem_nil, or_false, not_or]
        exact ⟨Nat.ne_of_lt hb', by rw [z1]; exact Nat.ne_of_lt (Nat.lt_succ_of_lt hb')⟩
    · match r2, hr2 with
      | .error e, hr2 => exact hr2
      | .ok (.ret x), hr2 =>
        obtain ⟨rfl, h', tk, rfl, hS', hk'⟩ := hr2
        repeat (any_goals (first | assumption | wp_step))
        exact h _ _ hS' hk'
      | .ok .next, hr2 => exact hr2.elim
      | .ok .brk, hr2 => exact hr2.elim
      | .ok .cont, hr2 => exact hr2.elim
  | .ok .next, hr => exact hr.elim
  | .ok .brk, hr => exact hr.elim
  | .ok .cont, hr => exact hr.elim
end
end SU
end
section
set_option Elab.async false
set_option linter.all false
set_option maxRecDepth 100000
set_option maxHeartbeats 4000000
/-! # tuples of texts: displays, index, len(set(..)) -/
namespace G
open PySem PySem.Spec PyProof.Rows L2
def asStrs : List D → Option (List (List Nat))
  | [] => some []
  | .str s :: r => (asStrs r).map (s :: ·)
  | _ => none
theorem of_asStrs : ∀ {l : List D} {ss : List (List Nat)}, asStrs l = some ss → l = ss.map D.str
  | [], ss, h => by cases h; rfl
  | d :: r, ss, h => by
    cases d with
    | str s =>
      unfold asStrs at h
      cases hr : asStrs r with
      | none => rw [hr] at h; cases h
      | some rs =>
        rw [hr] at h
        cases h
        rw [of_asStrs hr]
        rfl
    | _ => cases h
@[simp] theorem asStrs_map : ∀ ss : List (List Nat), asStrs (ss.map D.str) = some ss
  | [] => rfl
  | s :: ss => by
    have h := asStrs_map ss
    show (asStrs (ss.map D.str)).map (s :: ·) = _
    rw [h]
    rfl
/-- the first place of a text -/
def ixS (z : List Nat) : List (List Nat) → Option Nat
  | [] => none
  | s :: r => if s = z then some 0 else (ixS z r).map (· + 1)
theorem ixS_at {z : List Nat} : ∀ {ss : List (List Nat)} {j : Nat}, ixS z ss = some j → ss[j]? = some z ∧ ∀ m, m < j → ss[m]? ≠ some z
  | [], j, h => by cases h
  | s :: r, j, h => by
    unfold ixS at h
    by_cases e : s = z
    · rw [if_pos e] at h
      cases h
      exact ⟨by rw [e]; rfl, fun m hm => absurd hm (Nat.not_lt_zero m)⟩
    · rw [if_neg e] at h
      cases hr : ixS z r with
      | none => rw [hr] at h; cases h
      | some k =>
        rw [hr] at h
        cases h
        obtain ⟨h1, h2⟩ := ixS_at hr
        refine ⟨by simpa using h1, fun m hm => ?_⟩
        cases m with
        | zero => simpa using e
        | succ m => simpa using h2 m (Nat.lt_of_succ_lt_succ hm)
def mkS (s : List Nat) : Str := ⟨s.toArray⟩
theorem map_sV (ss : List (List Nat)) : ss.map sV = (ss.map mkS).map V.str := by
  rw [List.map_map]
  rfl
section
variable {X : Cx} {W : Wd} {w : WX} {e o a : Expr} {es : List Expr} {t ta : TA} {to te : TE} {m : AM} {mo me : EM} {pos p p2 q2 apos cpos : Pos}
/-- a display whose tuple is known to have no dict -/
def tTupN (t : TA) : TE := fun σ H Q => t σ H fun xs H1 => xs.length ≤ sizeLine ∧ ∀ (p : Addr) (ob : Obj), H1 p = none → ob.dict = none → Q (.ref p) (upd H1 p (.frz ob (.tup xs)))
theorem pe_tupN {x1} (h : PA X es t) : PE X (.Tuple es x1 pos) (tTupN t) := ⟨fun pins s σ H Q I hq => by
  refine wpAny_Tuple_spliced (thn (h.run pos pins s σ H _ I hq) fun us s1 ⟨xs, H1, I1, r, z, q⟩ => ⟨by rw [← r.length]; exact z, ?_⟩)
  have fr : H1 s1.heap.objs.size = none := I1.hok.fresh (Nat.le_refl _)
  exact ⟨.ref s1.heap.objs.size, upd H1 s1.heap.objs.size (.frz { cls := .type "tuple", data := .seq us.toArray } (.tup xs)), I1.laid (t' := s1.toks) (fun b u k => Heap.get?_push_of_some _ k) (Nat.le_refl _) (show ObjOk X.prog X.w _ _ _ (.frz _ (.tup xs)) from ⟨Heap.get?_push_size _ rfl, z, us, r, ⟨_, Heap.get?_push_size _ rfl, rfl, _, rfl⟩⟩), rfl, q _ _ fr rfl⟩⟩
def eNam (m : AM) : EM := fun ρ M => bnd (m ρ M) fun xs M1 => match asStrs xs with
  | some ss => if ss.length ≤ sizeLine then some (.ok (.nam ss), M1) else none
  | none => none
theorem x_nam {x1} (h : AX X W w es m) : EX X W w (.Tuple es x1 pos) (eNam m) := (pe_tupN h).less fun σ H Q ⟨φ, ρ, M, hs, ro, out⟩ =>
  ⟨φ, ρ, M, hs, ro, (Out.bnd out).imp fun xs M1 φ1 H1 _ g1 h1 out1 vs rv => by
    cases hx : asStrs xs with
    | none => rw [hx] at out1; exact out1.no.elim
    | some ss =>
      rw [hx] at out1
      dsimp only at out1
      have el := of_asStrs hx
      by_cases hl : ss.length ≤ sizeLine
      · rw [if_pos hl] at out1
        refine ⟨by rw [rv.len, el, List.length_map]; exact hl, fun p ob n hd => ?_⟩
        have g : Grow φ1 φ1 H1 (upd H1 p (.frz ob (.tup vs))) := Grow.upd fun u z => by rw [n] at z; cases z
        have ev : vs = ss.map sV := by
          rw [el] at rv
          have key : ∀ {ss : List (List Nat)} {vs : List V}, Reps W φ1 H1 (ss.map D.str) vs → vs = ss.map sV := fun {ss} => by
            induction ss with
            | nil => intro vs h; exact h
            | cons s ss ih =>
              intro vs h
              obtain ⟨v, r, rfl, h1, h2⟩ := h
              rw [ih h2, show v = _ from h1]
              rfl
          exact key rv
        exact out1.then_ g (h1.laid n) _ ⟨p, rfl, .inl ⟨ob, by rw [← ev]; exact upd_same, hd⟩⟩
      · rw [if_neg hl] at out1
        exact out1.no.elim⟩
/-! ### index -/
def NoD (K : PySem.W.Frag) (H : Hp) (a : Addr) : Prop := (∃ ob xs, H a = some (.frz ob (.tup xs)) ∧ ob.dict = none) ∨ ∃ ob, K.lookup a = some ob ∧ ob.cls = .type "tuple" ∧ ob.dict = none
theorem NoD.is {pins : List (Addr × Obj)} {σ : L2.St} {H : Hp} {s : Shared} {a : Addr} (I : Inv X pins σ H s) (h : NoD X.K H a) : s.TypeIs (.ref a) "tuple" ∧ ∀ b, Value.ref a = .ref b → ∃ ob, s.heap.get? b = some ob ∧ ob.dict = none := by
  rcases h with ⟨ob, xs, h1, h2⟩ | ⟨ob, h1, h2, h3⟩
  · obtain ⟨k1, _, _, _, ob2, k2, k3, _⟩ := (show ObjOk X.prog X.w H s.heap a (.frz ob (.tup xs)) from I.hok a _ h1)
    rw [k1] at k2
    cases k2
    exact ⟨⟨ob, k1, k3⟩, fun b e => by cases e; exact ⟨ob, k1, h2⟩⟩
  · exact tyV_is (x := .ref a) I rfl (.inr (.inl ⟨rfl, ob, h1, h2, h3⟩))
def tTIx (K : PySem.W.Frag) (to te : TE) : TE := fun σ H Q => to σ H fun x H1 => ∃ a, x = .ref a ∧ NoD K H1 a ∧ te σ H1 fun y H2 => ∃ (ys : List Str) (z : Str) (j : Nat), [y] = [V.str z] ∧ SqT K H2 a (ys.map V.str) ∧ ys[j]? = some z ∧ (∀ m, m < j → ys[m]? ≠ some z) ∧ Q (.int (j : Nat)) H2
theorem pe_tix (ho : PE X o to) (he : PE X e te) (hbase : attributeBase o "index" X.env (eval o X.env) = eval o X.env := by rfl)
    (hfew : ((backTo cpos (starEach [e] X.env)).all (fun x => !x.1) && (backToKw cpos (keywordEach [] X.env)).all (fun x => x.1.isSome) && decide ([e].length + ([] : List Keyword).length + (if ([] : List Keyword).isEmpty then 0 else 1) < 30)) = true := by rfl)
    (hline : (apos.endLine == cpos.line) = true := by rfl) (hs : starEach [e] X.env = (false, eval e X.env) :: starEach [] X.env := by rfl) : PE X (.Call (.Attribute o "index" apos) [e] [] cpos) (tTIx X.K to te) := ⟨fun pins s σ H Q I h => by
  refine wpAny_Call_method_late hbase hfew hline rfl (thn (ho.run pins s σ H _ I h) fun v s1 ⟨x, H1, I1, r1, a, ex, nd, q1⟩ => ?_)
  subst ex
  cases r1
  obtain ⟨t1, t2⟩ := nd.is I1
  refine ⟨"tuple", "tuple.index", PySem.F.plainAttrs_tuple, PySem.F.slot_tuple_index, PySem.F.type_tuple_index, t1, t2, ?_⟩
  have hA := (pa_cons he pa_nil hs).run cpos pins s1 σ H1 (fun vs H2 => ∃ (ys : List Str) (z : Str) (j : Nat), vs = [V.str z] ∧ SqT X.K H2 a (ys.map V.str) ∧ ys[j]? = some z ∧ (∀ m, m < j → ys[m]? ≠ some z) ∧ Q (.int (j : Nat)) H2) I1 q1
  rw [hs] at hA ⊢
  refine Calls.callWith_builtin rfl (Calls.evalArgs_plain ?_)
  exact thn hA fun us s2 ⟨vs, H2, I2, r2, ys, z, j, e1, sq, h1, h2, q2⟩ => mt_tup_index pins s2 σ H2 (.ref a) _ (.ref a) us Q I2 rfl r2 ⟨a, ys, z, j, rfl, e1, sq, h1, h2, q2⟩⟩
def eTIx (mo me : EM) : EM := fun ρ M => bnd (mo ρ M) fun x M1 => match x with
  | .nam ss => bnd (me ρ M1) fun y M2 => match y with
    | .str z => (match ixS z ss with
      | some j => some (.ok (.int (j : Nat)), M2)
      | none => none)
    | _ => none
  | _ => none
theorem NamAt.nod {K : PySem.W.Frag} {H : Hp} {a : Addr} {ss : List (List Nat)} (h : NamAt K H a ss) : NoD K H a := h.imp (fun ⟨ob, h1, h2⟩ => ⟨ob, _, h1, h2⟩) fun ⟨_, h⟩ => h
theorem x_tix (ho : EX X W w o mo) (he : EX X W w e me) (hK : W.K = X.K := by rfl) (hbase : attributeBase o "index" X.env (eval o X.env) = eval o X.env := by rfl)
    (hfew : ((backTo cpos (starEach [e] X.env)).all (fun x => !x.1) && (backToKw cpos (keywordEach [] X.env)).all (fun x => x.1.isSome) && decide ([e].length + ([] : List Keyword).length + (if ([] : List Keyword).isEmpty then 0 else 1) < 30)) = true := by rfl)
    (hline : (apos.endLine == cpos.line) = true := by rfl) (hs : starEach [e] X.env = (false, eval e X.env) :: starEach [] X.env := by rfl) : EX X W w (.Call (.Attribute o "index" apos) [e] [] cpos) (eTIx mo me) :=
  (pe_tix ho he hbase hfew hline hs).less fun σ H Q ⟨φ, ρ, M, hs, ro, out⟩ => ⟨φ, ρ, M, hs, ro, (Out.bnd out).imp fun x M1 φ1 H1 _ g1 h1 out1 v rv => by
    cases x with
    | nam ss =>
      have out2 := Out.bnd out1
      obtain ⟨a, rfl, t⟩ := rv
      refine ⟨a, rfl, hK ▸ t.nod, φ1, ρ, M1, h1, ro.grow g1, out2.imp fun y M2 φ2 H2 _ g2 h2 out3 u ru => ?_⟩
      cases y with
      | str z =>
        cases hi : ixS z ss with
        | none =>
          have out4 : Out W w σ φ2 H2 (match ixS z ss with
            | some j => some (.ok (.int (j : Nat)), M2)
            | none => none) fun d _ φ' H' => ∀ v, Rep W φ' H' d v → Q v H' := out3
          rw [hi] at out4
          exact out4.no.elim
        | some j =>
          have out4 : Out W w σ φ2 H2 (match ixS z ss with
            | some j => some (.ok (.int (j : Nat)), M2)
            | none => none) fun d _ φ' H' => ∀ v, Rep W φ' H' d v → Q v H' := out3
          rw [hi] at out4
          obtain ⟨k1, k2⟩ := ixS_at hi
          refine ⟨ss.map mkS, mkS z, j, by rw [show u = _ from ru]; rfl, by rw [← map_sV, ← hK]; exact (t.grow g2).sq, by rw [List.getElem?_map, k1]; rfl, fun m hm z2 => ?_, out4.now h2 _ rfl⟩
          rw [List.getElem?_map] at z2
          cases hm2 : ss[m]? with
          | none => rw [hm2] at z2; cases z2
          | some s =>
            rw [hm2] at z2
            have e1 : mkS s = mkS z := Option.some.inj z2
            have e2 : s = z := by
              have := congrArg (fun s : Str => s.cps.toList) e1
              simpa [mkS] using this
            exact k2 m hm (by rw [hm2, e2])
      | _ => exact out3.no.elim
    | _ => exact out1.no.elim⟩
/-! ### len(set(t)) -/
def tLenS (K : PySem.W.Frag) (ta : TE) : TE := fun σ H Q => ta σ H fun x H1 => ∃ (l : Addr) (xs : List Str), x = .ref l ∧ SqT K H1 l (xs.map V.str) ∧ xs.length ≤ 1000 ∧ Q (.int (SU.dcnt xs xs.length : Nat)) H1
theorem pe_lenS {ta : TE} (hc : X.calm = true) (hg : Gl X "len") (hm : X.mg "len" = none) (hg2 : Gl X "set") (hm2 : X.mg "set" = none) (ha : PE X a ta) (na : starEach [a] X.env = (false, eval a X.env) :: starEach [] X.env := by rfl) : PE X (.Call (.Name "len" p) [.Call (.Name "set" p2) [a] [] q2] [] pos) (tLenS X.K ta) := ⟨fun pins s σ H Q I h => by
  refine Call_ (ld_blt I hg hm boot_len (PyProof.Rows.callWith_builtin1 (PyProof.Rows.args_cons (Call_ (ld_blt I hg2 hm2 boot_set (PyProof.Rows.callWith_type1 (PyProof.Rows.args_cons (thn (ha.run pins s σ H _ I h) fun v s1 ⟨x, H1, I1, r1, q1⟩ => PyProof.Rows.args_nil ?_) na) na rfl))) rfl) rfl rfl))
  obtain ⟨l, xs, rfl, sq, hl, q⟩ := q1
  cases r1
  obtain ⟨its, r, pl, hz⟩ := I1.tuple sq
  refine SU.set_of_tup (I1.ok.hd hc) pl (by simpa using strsAre_of r) (by unfold scanBound; omega) fun h' tk hS hk => PyProof.Rows.args_nil ?_
  obtain ⟨ob, es, ep, t, ho, hex, hd, _, _, _, hf, hn⟩ := hS
  have I2 : Inv X pins σ H1 { s1 with heap := h', toks := tk } := I1.kept fun b o e => hk b o (Heap.lt_size e) e
  have hb := SU.dcnt_le xs xs.length
  exact call_len_set ho hex hd hf (by rw [hn]; omega) ⟨.int (SU.dcnt xs xs.length : Nat), H1, I2.tok _, ⟨_, by rw [hn]⟩, q⟩⟩
/-- how many unlike texts -/
def dcD (ss : List (List Nat)) : Nat := SU.dcnt (ss.map mkS) ss.length
def strsOf : D → Option (List (List Nat))
  | .nam ss => some ss
  | .tup l => asStrs l
  | _ => none
def eLenS (m : EM) : EM := fun ρ M => bnd (m ρ M) fun x M1 => match strsOf x with
  | some ss => if ss.length ≤ 1000 then some (.ok (.int (dcD ss : Nat)), M1) else none
  | none => none
theorem reps_strs {φ : List Addr} {H : Hp} : ∀ {ss : List (List Nat)} {vs : List V}, Reps W φ H (ss.map D.str) vs → vs = ss.map sV
  | [], vs, h => h
  | s :: ss, vs, h => by
    obtain ⟨v, r, rfl, h1, h2⟩ := h
    rw [reps_strs h2, show v = _ from h1]
    rfl
theorem x_lenS {ma : EM} (hc : X.calm = true) (hg : Gl X "len") (hm : X.mg "len" = none) (hg2 : Gl X "set") (hm2 : X.mg "set" = none) (ha : EX X W w a ma) (hK : W.K = X.K := by rfl) (na : starEach [a] X.env = (false, eval a X.env) :: starEach [] X.env := by rfl) : EX X W w (.Call (.Name "len" p) [.Call (.Name "set" p2) [a] [] q2] [] pos) (eLenS ma) :=
  (pe_lenS hc hg hm hg2 hm2 ha na).less fun σ H Q ⟨φ, ρ, M, hs, ro, out⟩ => ⟨φ, ρ, M, hs, ro, (Out.bnd out).imp fun x M1 φ1 H1 _ g1 h1 out1 v rv => by
    cases hx : strsOf x with
    | none => rw [hx] at out1; exact out1.no.elim
    | some ss =>
      rw [hx] at out1
      dsimp only at out1
      by_cases hl : ss.length ≤ 1000
      · rw [if_pos hl] at out1
        have key : ∃ l, v = .ref l ∧ SqT W.K H1 l (ss.map sV) := by
          cases x with
          | nam k => cases hx; obtain ⟨b, rfl, t⟩ := rv; exact ⟨b, rfl, t.sq⟩
          | tup k =>
            obtain ⟨b, vs, rfl, t, rs⟩ := rv
            rw [of_asStrs (show asStrs k = some ss from hx)] at rs
            rw [reps_strs rs] at t
            exact ⟨b, rfl, t.sq⟩
          | _ => cases hx
        obtain ⟨l, rfl, sq⟩ := key
        refine ⟨l, ss.map mkS, rfl, by rw [← hK, ← map_sV]; exact sq, by rw [List.length_map]; exact hl, out1.now h1 _ ?_⟩
        show V.int _ = V.int _
        rw [List.length_map]
        rfl
      · rw [if_neg hl] at out1
        exact out1.no.elim⟩
end
/-! ### one sign in a text -/
def dInC : DOp
  | .str [c], .str z, M => some (.ok (.bl (decide (c ∈ z))), M)
  | _, _, _ => none
def dNinC : DOp
  | .str [c], .str z, M => some (.ok (.bl (!decide (c ∈ z))), M)
  | _, _, _ => none
section
variable {X : Cx} {W : Wd} {w : WX} {a b : Expr} {ma mb : EM} {pos : Pos}
theorem inC_d : OpD W (fun x y H Q => ∃ (c : Nat) (z : Str), x = .str ⟨#[c]⟩ ∧ y = .str z ∧ Q (.bl (decide (c ∈ z.cps.toList))) H) dInC := fun w σ φ H M x y u v Q hs rx ry out => by
  unfold dInC at out
  split at out
  · rename_i c z
    refine ⟨c, ⟨z.toArray⟩, rx, ry, out.now hs _ ?_⟩
    show V.bl _ = V.bl _
    simp
  · exact out.no.elim
theorem ninC_d : OpD W (fun x y H Q => ∃ (c : Nat) (z : Str), x = .str ⟨#[c]⟩ ∧ y = .str z ∧ Q (.bl (!decide (c ∈ z.cps.toList))) H) dNinC := fun w σ φ H M x y u v Q hs rx ry out => by
  unfold dNinC at out
  split at out
  · rename_i c z
    refine ⟨c, ⟨z.toArray⟩, rx, ry, out.now hs _ ?_⟩
    show V.bl _ = V.bl _
    simp
  · exact out.no.elim
theorem x_inC (ha : EX X W w a ma) (hb : EX X W w b mb) (hm : behindInMarks .In b = false := by rfl) : EX X W w (.Compare a [.In] [b] pos) (eOp dInC ma mb) := x_cmp op_in_sign inC_d ha hb hm
theorem x_ninC (ha : EX X W w a ma) (hb : EX X W w b mb) (hm : behindInMarks .NotIn b = false := by rfl) : EX X W w (.Compare a [.NotIn] [b] pos) (eOp dNinC ma mb) := x_cmp op_notIn_sign ninC_d ha hb hm
theorem t_inC (ha : EX X W w a ma) (hb : EX X W w b mb) (hm : behindInMarks .In b = false := by rfl) : TX X W w (.Compare a [.In] [b] pos) (tV (eOp dInC ma mb)) := t_cmp op_in_sign inC_d ha hb hm
theorem t_ninC (ha : EX X W w a ma) (hb : EX X W w b mb) (hm : behindInMarks .NotIn b = false := by rfl) : TX X W w (.Compare a [.NotIn] [b] pos) (tV (eOp dNinC ma mb)) := t_cmp op_notIn_sign ninC_d ha hb hm
end
theorem x_gstr2 {X : Cx} {W : Wd} {w : WX} {pos : Pos} {x : Str} {s : Str} {l : List Nat} (hg : Gl X x) (hm : ∃ t, X.mg x = some (.str s t)) (he : s.cps.toList = l) (hd : (x == ("__debug__" : Str)) = false := by decide) : EX X W w (.Name x pos) (eC (.str l)) := by
  subst he
  exact x_gstr hg hm hd
theorem mkS_inj {s t : List Nat} (h : mkS s = mkS t) : s = t := by
  have := congrArg (fun s : Str => s.cps.toList) h
  simpa [mkS] using this
theorem dcnt_nodup {ss : List (List Nat)} (h : ss.Nodup) (i : Nat) : i ≤ ss.length → SU.dcnt (ss.map mkS) i = i := by
  induction i with
  | zero => intro _; rfl
  | succ i ih =>
    intro hi
    have hlt : i < ss.length := by omega
    have eg : (ss.map mkS).getD i Str.empty = mkS ss[i] := by rw [List.getD_eq_getElem?_getD, List.getElem?_map, List.getElem?_eq_getElem hlt]; rfl
    have hn : ((ss.map mkS).take i).any (· == (ss.map mkS).getD i Str.empty) = false := by
      rw [eg, List.any_eq_false]
      intro x hx
      rw [← List.map_take] at hx
      obtain ⟨s, hs, rfl⟩ := List.mem_map.mp hx
      intro z
      have z := mkS_inj (eq_of_beq z)
      obtain ⟨j, hj, ej⟩ := List.getElem_of_mem hs
      rw [List.length_take] at hj
      rw [List.getElem_take] at ej
      exact List.pairwise_iff_getElem.mp h j i (by omega) hlt (by omega) (ej.trans z)
    rw [SU.dcnt, hn, if_neg Bool.false_ne_true, ih (by omega)]
/-- as many as there are, where none stands twice -/
theorem dcD_nodup {ss : List (List Nat)} (h : ss.Nodup) : dcD ss = ss.length := dcnt_nodup h _ (Nat.le_refl _)
end G
end
section
set_option linter.all false
set_option maxRecDepth 100000
set_option maxHeartbeats 4000000
/-! # readings computed: rewriting rules, loops, comprehensions, what is trimmed -/
namespace G
open PySem PySem.Spec PyProof.Rows L2
section
variable {ρ : Ro} {M : Ms} {a b c : EM} {t u : TM} {s r : SM} {m : AM} {d x y : D}
@[simp] theorem ev_var (i : Nat) : eVar i ρ M = match ρ[i]? with
  | some (some d) => some (.ok d, M)
  | _ => none := rfl
@[simp] theorem ev_c : eC d ρ M = some (.ok d, M) := rfl
@[simp] theorem ev_op (f : DOp) : eOp f a b ρ M = bnd (a ρ M) fun x M1 => bnd (b ρ M1) fun y M2 => f x y M2 := rfl
@[simp] theorem ev_u (f : DU) : eU f a ρ M = bnd (a ρ M) fun x M1 => f x M1 := rfl
@[simp] theorem ev_tV : tV a ρ M = bnd (a ρ M) fun x M1 => match x with
  | .bl b => some (.ok b, M1)
  | _ => none := rfl
@[simp] theorem ev_tAn : tAn t u ρ M = bnd (t ρ M) fun c M1 => if c then u ρ M1 else some (.ok false, M1) := rfl
@[simp] theorem ev_tO : tO t u ρ M = bnd (t ρ M) fun c M1 => if c then some (.ok true, M1) else u ρ M1 := rfl
@[simp] theorem ev_tN : tN t ρ M = bnd (t ρ M) fun c M1 => some (.ok (!c), M1) := rfl
@[simp] theorem ev_tY : tY ρ M = some (.ok true, M) := rfl
@[simp] theorem ev_if : eIf t a b ρ M = bnd (t ρ M) fun c M1 => if c then a ρ M1 else b ρ M1 := rfl
@[simp] theorem ev_an : eAn a b ρ M = bnd (a ρ M) fun x M1 => match x with
  | .bl true => b ρ M1
  | .bl false => some (.ok (.bl false), M1)
  | _ => none := rfl
@[simp] theorem ev_o : eO a b ρ M = bnd (a ρ M) fun x M1 => match x with
  | .bl false => b ρ M1
  | .bl true => some (.ok (.bl true), M1)
  | _ => none := rfl
@[simp] theorem ev_n : eN a ρ M = bnd (a ρ M) fun x M1 => match x with
  | .bl b => some (.ok (.bl (!b)), M1)
  | _ => none := rfl
@[simp] theorem ev_chain (f g : DOp) : eChain f g a b c ρ M = bnd (a ρ M) fun x M1 => bnd (b ρ M1) fun y M2 => bnd (f x y M2) fun z M3 => match z with
  | .bl true => bnd (c ρ M3) fun u M4 => g y u M4
  | .bl false => some (.ok (.bl false), M3)
  | _ => none := rfl
@[simp] theorem ev_nil : aNil ρ M = some (.ok [], M) := rfl
@[simp] theorem ev_cons : aCons a m ρ M = bnd (a ρ M) fun x M1 => bnd (m ρ M1) fun xs M2 => some (.ok (x :: xs), M2) := rfl
@[simp] theorem ev_tup : eTup m ρ M = bnd (m ρ M) fun xs M1 => if xs.length ≤ sizeLine then some (.ok (.tup xs), M1) else none := rfl
@[simp] theorem ev_lst : eLst m ρ M = bnd (m ρ M) fun xs M1 => if xs.length ≤ sizeLine then some (.ok (.loc M1.length), M1 ++ [.lst xs]) else none := rfl
@[simp] theorem ev_B (f : Fn) : eB f m ρ M = bnd (m ρ M) fun xs M1 => f xs M1 := rfl
@[simp] theorem ev_call (f : Fn) : eCall f m ρ M = bnd (m ρ M) fun xs M1 => f xs M1 := rfl
@[simp] theorem ev_kcall (f : Fn) (g : List D → List D → List D) (mk : AM) : kCall f g m mk ρ M = bnd (m ρ M) fun xs M1 => bnd (mk ρ M1) fun ys M2 => f (g xs ys) M2 := rfl
@[simp] theorem ev_M (T : String) (f : D → Fn) : eM T f a m ρ M = bnd (a ρ M) fun x M1 => if tyD M1 x = some T then bnd (m ρ M1) fun xs M2 => f x xs M2 else none := rfl
@[simp] theorem ev_sl (f : DSl) (l h : OM) : eSl f a l h ρ M = bnd (a ρ M) fun x M1 => bnd (l ρ M1) fun lo M2 => bnd (h ρ M2) fun hi M3 => f x lo hi M3 := rfl
@[simp] theorem ev_oNo : oNo ρ M = some (.ok none, M) := rfl
@[simp] theorem ev_oSo : oSo a ρ M = bnd (a ρ M) fun x M1 => match x with
  | .int i => some (.ok (some i), M1)
  | _ => none := by
  unfold oSo
  rfl
@[simp] theorem ev_dget : eDGet a b ρ M = bnd (a ρ M) fun o M1 => bnd (b ρ M1) fun i M2 => match o with
  | .loc n => match M2[n]? with
    | some (.dic l) => if keyD i then (match getD_ l i with
      | some d => some (.ok d, M2)
      | none => none) else none
    | _ => none
  | _ => none := rfl
@[simp] theorem ev_lc (own : List Nat) (im : IM) (tg : Tgt) : eLc own im tg t a ρ M = bnd (im ρ M) fun src M1 => lcF src tg t a (wipeR ρ own) M1.length src.items (M1 ++ [.lst []]) := rfl
@[simp] theorem ev_sNil : sNil ρ M = some (.nx, ρ, M) := rfl
@[simp] theorem ev_seq : sSeq s r ρ M = match s ρ M with
  | some (.nx, ρ1, M1) => r ρ1 M1
  | r => r := rfl
@[simp] theorem ev_brk : sBrk ρ M = some (.bk, ρ, M) := rfl
@[simp] theorem ev_cnt : sCnt ρ M = some (.ct, ρ, M) := rfl
@[simp] theorem ev_ret : sRet a ρ M = bndS (a ρ M) ρ fun d M1 => some (.rt d, ρ, M1) := rfl
@[simp] theorem ev_retN : sRetN ρ M = some (.rt .non, ρ, M) := rfl
@[simp] theorem ev_ex : sEx a ρ M = bndS (a ρ M) ρ fun _ M1 => some (.nx, ρ, M1) := rfl
@[simp] theorem ev_sIf : sIf t s r ρ M = bndS (t ρ M) ρ fun c M1 => if c then s ρ M1 else r ρ M1 := rfl
@[simp] theorem ev_raise (n : Nat) : sRaise n a ρ M = bndS (a ρ M) ρ fun d M1 => some (.ex n d, ρ, M1) := rfl
@[simp] theorem ev_as (g : GM) : sAs a g ρ M = bndS (a ρ M) ρ fun d M1 => match g d ρ M1 with
  | some (ρ2, M2) => some (.nx, ρ2, M2)
  | none => none := rfl
@[simp] theorem ev_par (i j : Nat) : sPar i j m ρ M = bndS (m ρ M) ρ fun xs M1 => match xs with
  | [v, u] => some (.nx, (ρ.set i (some v)).set j (some u), M1)
  | _ => none := rfl
@[simp] theorem ev_for (im : IM) (g : GM) (body : SM) : sFor im g body ρ M = bndS (im ρ M) ρ fun src M1 => loopF src g body src.items ρ M1 := rfl
@[simp] theorem ev_gN (i : Nat) : gN i d ρ M = some (ρ.set i (some d), M) := rfl
@[simp] theorem ev_gNl : gNl [] ρ M = some (ρ, M) := rfl
@[simp] theorem ev_gCn (g : GM) (gs : GsM) (ds : List D) : gCn g gs (d :: ds) ρ M = match g d ρ M with
  | some (ρ1, M1) => gs ds ρ1 M1
  | none => none := rfl
@[simp] theorem ev_gT (n : Nat) (gs : GsM) (ds : List D) : gT n gs (.tup ds) ρ M = if ds.length = n then gs ds ρ M else none := rfl
@[simp] theorem ev_gIx (e f : EM) : gIx e f d ρ M = match e ρ M with
  | some (.ok o, M1) => match f ρ M1 with
    | some (.ok i, M2) => (setF o i d M2).map fun M3 => (ρ, M3)
    | _ => none
  | _ => none := rfl
@[simp] theorem ev_iLst : iLst a ρ M = bnd (a ρ M) fun d M1 => match d with
  | .loc n => match seqAt M1 n with
    | some l => some (.ok ⟨l, [(n, l)]⟩, M1)
    | none => none
  | .tup l => some (.ok ⟨l, []⟩, M1)
  | .nam ss => some (.ok ⟨ss.map D.str, []⟩, M1)
  | .str z => some (.ok ⟨z.map fun c => D.str [c], []⟩, M1)
  | _ => none := rfl
@[simp] theorem ev_iEn : iEn m ρ M = bnd (m ρ M) fun d M1 => match d with
  | [.loc n] => match seqAt M1 n with
    | some l => some (.ok ⟨numD l, [(n, l)]⟩, M1)
    | none => none
  | [.tup l] => some (.ok ⟨numD l, []⟩, M1)
  | _ => none := rfl
@[simp] theorem ev_iZp : iZp m ρ M = bnd (m ρ M) fun d M1 => match d with
  | [.loc n, .loc k] => match seqAt M1 n, seqAt M1 k with
    | some l, some l2 => some (.ok ⟨zipD l l2, [(n, l), (k, l2)]⟩, M1)
    | _, _ => none
  | [.tup l, .tup l2] => some (.ok ⟨zipD l l2, []⟩, M1)
  | _ => none := rfl
theorem ev_iRn1 : iRn1 m ρ M = bnd (m ρ M) fun d M1 => match d with
  | [.int j] => if -(2 ^ 62) ≤ j ∧ j < 2 ^ 62 then some (.ok ⟨rngD 0 j.toNat, []⟩, M1) else none
  | _ => none := rfl
theorem ev_iRn2 : iRn2 m ρ M = bnd (m ρ M) fun d M1 => match d with
  | [.int i, .int j] => if -(2 ^ 62) ≤ i ∧ i < 2 ^ 62 ∧ -(2 ^ 62) ≤ j ∧ j < 2 ^ 62 then some (.ok ⟨rngD i (j - i).toNat, []⟩, M1) else none
  | _ => none := rfl
/-! ### operators -/
variable {i j : Int}
@[simp] theorem add_ii : dAdd (.int i) (.int j) M = some (.ok (.int (i + j)), M) := rfl
@[simp] theorem sub_ii : dSub (.int i) (.int j) M = some (.ok (.int (i - j)), M) := rfl
@[simp] theorem mod_ii : dMod (.int i) (.int j) M = if 0 < j then some (.ok (.int (i % j)), M) else none := rfl
@[simp] theorem div_ii : dDiv (.int i) (.int j) M = if 0 < j ∧ j < 1073741824 then some (.ok (.int (i / j)), M) else none := rfl
@[simp] theorem mul_ii : dMul (.int i) (.int j) M = if (-(2 ^ 64) < i ∧ i < 2 ^ 64) ∨ (-(2 ^ 64) < j ∧ j < 2 ^ 64) then some (.ok (.int (i * j)), M) else none := rfl
@[simp] theorem pow_ii : dPow (.int i) (.int j) M = if 0 ≤ j ∧ j ≤ 1000000 ∧ i.natAbs < 2 ^ 64 then some (.ok (.int (i ^ j.toNat)), M) else none := rfl
@[simp] theorem neg_i : dNeg (.int i) M = some (.ok (.int (-i)), M) := rfl
@[simp] theorem lt_ii : dLt (.int i) (.int j) M = some (.ok (.bl (decide (i < j))), M) := rfl
@[simp] theorem le_ii : dLe (.int i) (.int j) M = some (.ok (.bl (decide (i ≤ j))), M) := rfl
@[simp] theorem gt_ii : dGt (.int i) (.int j) M = some (.ok (.bl (decide (j < i))), M) := rfl
@[simp] theorem ge_ii : dGe (.int i) (.int j) M = some (.ok (.bl (decide (j ≤ i))), M) := rfl
theorem add_tt {l k : List D} (h : l.length + k.length ≤ sizeLine) : dAdd (.tup l) (.tup k) M = some (.ok (.tup (l ++ k)), M) := if_pos h
theorem add_ll {n k : Nat} {l l2 : List D} (h1 : lstAt M n = some l) (h2 : lstAt M k = some l2) (h : l.length + l2.length ≤ sizeLine) : dAdd (.loc n) (.loc k) M = some (.ok (.loc M.length), M ++ [.lst (l ++ l2)]) := by
  unfold dAdd
  dsimp only
  rw [h1, h2]
  exact if_pos h
@[simp] theorem isN_e : dIsN x .non M = some (.ok (.bl (decide (x = .non))), M) := by cases x <;> rfl
@[simp] theorem notN_e : dNotN x .non M = some (.ok (.bl (!decide (x = .non))), M) := by cases x <;> rfl
@[simp] theorem isB_e {p q : Bool} : dIsB (.bl p) (.bl q) M = some (.ok (.bl (decide (p = q))), M) := rfl
@[simp] theorem notB_e {p q : Bool} : dNotB (.bl p) (.bl q) M = some (.ok (.bl (!decide (p = q))), M) := rfl
theorem eq_ff (h1 : x.flat = true) (h2 : y.flat = true) (h3 : SeqAt.shaped x.py = true) (h4 : SeqAt.shaped y.py = true) : dEq x y M = some (.ok (.bl (PyData.eqv x.py y.py)), M) := by
  unfold dEq view
  rw [if_pos (D.vw_flat x h1), if_pos (D.vw_flat y h2)]
  exact if_pos ⟨h3, h4⟩
theorem ne_ff (h1 : x.flat = true) (h2 : y.flat = true) (h3 : SeqAt.shaped x.py = true) (h4 : SeqAt.shaped y.py = true) : dNe x y M = some (.ok (.bl (!PyData.eqv x.py y.py)), M) := by
  unfold dNe view
  rw [if_pos (D.vw_flat x h1), if_pos (D.vw_flat y h2)]
  exact if_pos ⟨h3, h4⟩
@[simp] theorem eq_ii : dEq (.int i) (.int j) M = some (.ok (.bl (decide (i = j))), M) := by
  rw [eq_ff (by rfl) (by rfl) (by rfl) (by rfl)]
  congr 4
@[simp] theorem ne_ii : dNe (.int i) (.int j) M = some (.ok (.bl (!decide (i = j))), M) := by
  rw [ne_ff (by rfl) (by rfl) (by rfl) (by rfl)]
  congr 4
end
/-! ### what is trimmed -/
theorem okOld_app (n : Nat) : ∀ (M G : Ms), okOld n M (M ++ G) = true
  | [], _ => rfl
  | x :: M, G => by
    show ((decide (x = x) || _) && okOld n M (M ++ G)) = true
    rw [okOld_app n M G]
    simp
theorem okOld_self (n : Nat) (M : Ms) : okOld n M M = true := by
  have := okOld_app n M []
  rwa [List.append_nil] at this
theorem okOld_set {n : Nat} {o : MO} (ho : o.cl n = true) : ∀ (M : Ms) (i : Nat) (G : Ms), okOld n M (M.set i o ++ G) = true
  | [], _, _ => rfl
  | x :: M, 0, G => by
    show ((decide (x = o) || o.cl n) && okOld n M (M ++ G)) = true
    rw [okOld_app n M G, ho]
    simp
  | x :: M, i + 1, G => by
    show ((decide (x = x) || _) && okOld n M (M.set i o ++ G)) = true
    rw [okOld_set ho M i G]
    simp
mutual
theorem D.cl_flat (n : Nat) : ∀ d : D, d.flat = true → D.cl n d = true
  | .non, _ => rfl
  | .bl _, _ => rfl
  | .int _, _ => rfl
  | .str _, _ => rfl
  | .nam _, _ => rfl
  | .tup l, h => D.cls_flats n l h
  | .loc _, h => by cases h
theorem D.cls_flats (n : Nat) : ∀ l : List D, D.flats l = true → D.cls n l = true
  | [], _ => rfl
  | x :: l, h => by
    unfold D.flats at h
    rw [Bool.and_eq_true] at h
    unfold D.cls
    rw [D.cl_flat n x h.1, D.cls_flats n l h.2]
    rfl
end
section
variable {M K : Ms} {d : D} {ρ : Ro} {i : Nat} {o : MO} {c : Nat}
theorem trim_cl (h : D.cl M.length d = true) : trim M d (M ++ K) = (d, M) := by
  unfold trim
  rw [okOld_app, if_pos rfl, if_pos h, List.take_left]
theorem trim_fl (h : d.flat = true) : trim M d (M ++ K) = (d, M) := trim_cl (D.cl_flat _ d h)
theorem trim_fl0 (h : d.flat = true) : trim M d M = (d, M) := by
  have := trim_fl (M := M) (K := []) h
  rwa [List.append_nil] at this
theorem trim_set (h : d.flat = true) (ho : o.cl M.length = true) : trim M d (M.set i o ++ K) = (d, M.set i o) := by
  unfold trim
  rw [okOld_set ho, if_pos rfl, if_pos (D.cl_flat _ d h)]
  have : M.length = (M.set i o).length := by simp
  rw [this, List.take_left]
theorem trim_set0 (h : d.flat = true) (ho : o.cl M.length = true) : trim M d (M.set i o) = (d, M.set i o) := by
  have := trim_set (i := i) (K := []) h ho
  rwa [List.append_nil] at this
/-- a new object comes, the rest goes -/
theorem trim_loc {l : Nat} (hl : M.length ≤ l) (hk : (M ++ K)[l]? = some o) (ho : o.cl M.length = true) : trim M (.loc l) (M ++ K) = (.loc M.length, M ++ [o]) := by
  unfold trim
  have hc : D.cl M.length (.loc l) = false := by
    show decide (l < M.length) = false
    rw [decide_eq_false_iff_not]
    omega
  rw [okOld_app, if_pos rfl, hc, if_neg Bool.false_ne_true]
  simp only [hk, ho, if_true, List.take_left]
theorem fin_fl (h : d.flat = true) : finF M (some (.rt d, ρ, M ++ K)) = some (.ok d, M) := by
  unfold finF
  dsimp only
  rw [trim_fl h]
theorem fin_fl0 (h : d.flat = true) : finF M (some (.rt d, ρ, M)) = some (.ok d, M) := by
  unfold finF
  dsimp only
  rw [trim_fl0 h]
theorem fin_set0 (h : d.flat = true) (ho : o.cl M.length = true) : finF M (some (.rt d, ρ, M.set i o)) = some (.ok d, M.set i o) := by
  unfold finF
  dsimp only
  rw [trim_set0 h ho]
theorem fin_ex (h : d.flat = true) : finF M (some (.ex c d, ρ, M ++ K)) = some (.ex c d, M) := by
  unfold finF
  dsimp only
  rw [trim_fl h]
theorem fin_ex0 (h : d.flat = true) : finF M (some (.ex c d, ρ, M)) = some (.ex c d, M) := by
  unfold finF
  dsimp only
  rw [trim_fl0 h]
theorem fin_nx0 : finF M (some (.nx, ρ, M)) = some (.ok .non, M) := by
  unfold finF
  dsimp only
  rw [trim_fl0 rfl]
@[simp] theorem flat_n : D.non.flat = true := rfl
@[simp] theorem flat_b {b : Bool} : (D.bl b).flat = true := rfl
@[simp] theorem flat_i {i : Int} : (D.int i).flat = true := rfl
@[simp] theorem flat_s {s : List Nat} : (D.str s).flat = true := rfl
@[simp] theorem flat_t {l : List D} : (D.tup l).flat = D.flats l := rfl
@[simp] theorem flats_n : D.flats [] = true := rfl
@[simp] theorem flats_c {x : D} {l : List D} : D.flats (x :: l) = (x.flat && D.flats l) := by rw [D.flats]
@[simp] theorem fin_bl {b : Bool} : finF M (some (.rt (.bl b), ρ, M)) = some (.ok (.bl b), M) := fin_fl0 rfl
@[simp] theorem fin_int {i : Int} : finF M (some (.rt (.int i), ρ, M)) = some (.ok (.int i), M) := fin_fl0 rfl
@[simp] theorem fin_bl' {b : Bool} : finF M (some (.rt (.bl b), ρ, M ++ K)) = some (.ok (.bl b), M) := fin_fl rfl
@[simp] theorem fin_int' {i : Int} : finF M (some (.rt (.int i), ρ, M ++ K)) = some (.ok (.int i), M) := fin_fl rfl
@[simp] theorem fin_nx' : finF M (some (.nx, ρ, M)) = some (.ok .non, M) := fin_nx0
theorem fin_loc {l : Nat} (hl : M.length ≤ l) (hk : (M ++ K)[l]? = some o) (ho : o.cl M.length = true) : finF M (some (.rt (.loc l), ρ, M ++ K)) = some (.ok (.loc M.length), M ++ [o]) := by
  unfold finF
  dsimp only
  rw [trim_loc hl hk ho]
theorem tr_fl {e : EM} (h : e ρ M = some (.ok d, M ++ K)) (hd : d.flat = true) : eTr e ρ M = some (.ok d, M) := by
  unfold eTr
  rw [h]
  dsimp only
  rw [trim_fl hd]
theorem tr_fl0 {e : EM} (h : e ρ M = some (.ok d, M)) (hd : d.flat = true) : eTr e ρ M = some (.ok d, M) := by
  unfold eTr
  rw [h]
  dsimp only
  rw [trim_fl0 hd]
theorem tr_set {e : EM} (h : e ρ M = some (.ok d, M.set i o ++ K)) (hd : d.flat = true) (ho : o.cl M.length = true) : eTr e ρ M = some (.ok d, M.set i o) := by
  unfold eTr
  rw [h]
  dsimp only
  rw [trim_set hd ho]
theorem tr_loc {e : EM} {l : Nat} (h : e ρ M = some (.ok (.loc l), M ++ K)) (hl : M.length ≤ l) (hk : (M ++ K)[l]? = some o) (ho : o.cl M.length = true) : eTr e ρ M = some (.ok (.loc M.length), M ++ [o]) := by
  unfold eTr
  rw [h]
  dsimp only
  rw [trim_loc hl hk ho]
end
/-! ### loops -/
theorem loop_go {src : Src} {g : GM} {body : SM} (I : List D → Ro → Ms → Prop) (R : Option (Fl × Ro × Ms) → Prop)
    (h : ∀ d rest ρ M, I (d :: rest) ρ M → src.ok M = true ∧ ∃ ρ1 M1, g d ρ M = some (ρ1, M1) ∧ (match body ρ1 M1 with
      | some (.nx, ρ2, M2) => I rest ρ2 M2
      | some (.ct, ρ2, M2) => I rest ρ2 M2
      | some (.bk, ρ2, M2) => R (some (.nx, ρ2, M2))
      | r => R r))
    (he : ∀ ρ M, I [] ρ M → src.ok M = true ∧ R (some (.nx, ρ, M))) : ∀ (items : List D) (ρ : Ro) (M : Ms), I items ρ M → R (loopF src g body items ρ M)
  | [], ρ, M, i => by
    obtain ⟨h1, h2⟩ := he ρ M i
    unfold loopF
    rw [if_pos h1]
    exact h2
  | d :: rest, ρ, M, i => by
    obtain ⟨h1, ρ1, M1, h2, h3⟩ := h d rest ρ M i
    unfold loopF
    rw [if_pos h1, h2]
    dsimp only
    cases hb : body ρ1 M1 with
    | none => rw [hb] at h3; exact h3
    | some p =>
      obtain ⟨f, ρ2, M2⟩ := p
      rw [hb] at h3
      cases f with
      | nx => exact loop_go I R h he rest ρ2 M2 h3
      | ct => exact loop_go I R h he rest ρ2 M2 h3
      | bk => exact h3
      | rt d => exact h3
      | ex c d => exact h3
/-- a loop that runs to its end -/
theorem loop_inv {src : Src} {g : GM} {body : SM} (I : List D → Ro → Ms → Prop) (h : ∀ d rest ρ M, I (d :: rest) ρ M → src.ok M = true ∧ ∃ ρ1 M1 ρ2 M2, g d ρ M = some (ρ1, M1) ∧ body ρ1 M1 = some (.nx, ρ2, M2) ∧ I rest ρ2 M2)
    (he : ∀ ρ M, I [] ρ M → src.ok M = true) {items : List D} {ρ : Ro} {M : Ms} (i : I items ρ M) : ∃ ρ' M', loopF src g body items ρ M = some (.nx, ρ', M') ∧ I [] ρ' M' :=
  loop_go I (fun r => ∃ ρ' M', r = some (.nx, ρ', M') ∧ I [] ρ' M') (fun d rest ρ M i => by
    obtain ⟨h1, ρ1, M1, ρ2, M2, h2, h3, h4⟩ := h d rest ρ M i
    refine ⟨h1, ρ1, M1, h2, ?_⟩
    rw [h3]
    exact h4) (fun ρ M i => ⟨he ρ M i, ρ, M, rfl, i⟩) items ρ M i
theorem while_go {t : TM} {body : SM} (I : Nat → Ro → Ms → Prop) (R : Option (Fl × Ro × Ms) → Prop)
    (h : ∀ n ρ M, I n ρ M → ∃ b M1, t ρ M = some (.ok b, M1) ∧ (b = false → R (some (.nx, ρ, M1))) ∧ (b = true → ∃ k, n = k + 1 ∧ (match body ρ M1 with
      | some (.nx, ρ2, M2) => I k ρ2 M2
      | some (.ct, ρ2, M2) => I k ρ2 M2
      | some (.bk, ρ2, M2) => R (some (.nx, ρ2, M2))
      | r => R r))) : ∀ (f n : Nat) (ρ : Ro) (M : Ms), n < f → I n ρ M → R (whileF t body f ρ M)
  | 0, n, _, _, hn, _ => absurd hn (Nat.not_lt_zero n)
  | f + 1, n, ρ, M, hn, i => by
    obtain ⟨b, M1, h1, h2, h3⟩ := h n ρ M i
    unfold whileF
    rw [h1]
    simp only [bndS_ok]
    cases b with
    | false => exact h2 rfl
    | true =>
      obtain ⟨k, rfl, h4⟩ := h3 rfl
      rw [if_pos rfl]
      cases hb : body ρ M1 with
      | none => rw [hb] at h4; exact h4
      | some p =>
        obtain ⟨fl, ρ2, M2⟩ := p
        rw [hb] at h4
        cases fl with
        | nx => exact while_go I R h f k ρ2 M2 (by omega) h4
        | ct => exact while_go I R h f k ρ2 M2 (by omega) h4
        | bk => exact h4
        | rt d => exact h4
        | ex c d => exact h4
/-! ### comprehensions -/
def Src.ix (s : Src) (M : Ms) : Prop := ∀ p ∈ s.gd, p.1 < M.length ∧ seqAt M p.1 = some p.2
theorem seqAt_app {M G : Ms} {n : Nat} (h : n < M.length) : seqAt (M ++ G) n = seqAt M n := by
  unfold seqAt
  rw [List.getElem?_append_left h]
theorem lstAt_app {M G : Ms} {n : Nat} (h : n < M.length) : lstAt (M ++ G) n = lstAt M n := by
  unfold lstAt
  rw [List.getElem?_append_left h]
theorem Src.ok_app {s : Src} {M G : Ms} (h : s.ix M) : s.ok (M ++ G) = true := by
  unfold Src.ok
  rw [List.all_eq_true]
  intro p hp
  obtain ⟨h1, h2⟩ := h p hp
  rw [decide_eq_true_eq, seqAt_app h1, h2]
theorem Src.ok_of {s : Src} {M : Ms} (h : s.ix M) : s.ok M = true := by
  have := Src.ok_app (G := []) h
  rwa [List.append_nil] at this
theorem Src.ix_nil {l : List D} {M : Ms} : Src.ix ⟨l, []⟩ M := fun p hp => by cases hp
theorem lst_last {M : Ms} {l : List D} : lstAt (M ++ [.lst l]) M.length = some l := by simp [lstAt]
theorem set_last {M : Ms} {o u : MO} : (M ++ [o]).set M.length u = M ++ [u] := by simp
/-- the items are looked at without any change of the store -/
theorem lc_pure {src : Src} {tg : Tgt} {t : TM} {e : EM} {ρ : Ro} {M : Ms} (p : D → Bool) (v : D → D) (hs : src.ix M) : ∀ (items acc : List D), acc.length + items.length ≤ sizeLine →
    (∀ d ∈ items, ∃ ρ2, tg.go d ρ = some ρ2 ∧ ∀ l, t ρ2 (M ++ [.lst l]) = some (.ok (p d), M ++ [.lst l]) ∧ (p d = true → e ρ2 (M ++ [.lst l]) = some (.ok (v d), M ++ [.lst l]))) →
    lcF src tg t e ρ M.length items (M ++ [.lst acc]) = some (.ok (.loc M.length), M ++ [.lst (acc ++ (items.filter p).map v)])
  | [], acc, _, _ => by
    unfold lcF
    rw [if_pos (Src.ok_app hs)]
    simp
  | d :: rest, acc, hl, h => by
    obtain ⟨ρ2, h1, h2⟩ := h d List.mem_cons_self
    obtain ⟨h3, h4⟩ := h2 acc
    unfold lcF
    rw [if_pos (Src.ok_app hs), h1]
    dsimp only
    rw [h3]
    cases hp : p d with
    | false =>
      dsimp only
      rw [lc_pure p v hs rest acc (by simp at hl; omega) fun c hc => h c (List.mem_cons_of_mem _ hc)]
      simp [List.filter_cons, hp]
    | true =>
      dsimp only
      rw [h4 hp]
      dsimp only
      rw [lst_last]
      dsimp only
      rw [if_pos (by simp at hl; omega), set_last, lc_pure p v hs rest (acc ++ [v d]) (by simp at hl ⊢; omega) fun c hc => h c (List.mem_cons_of_mem _ hc)]
      simp [List.filter_cons, hp]
/-- .. with a change of the store -/
theorem lc_go {src : Src} {tg : Tgt} {t : TM} {e : EM} {ρ : Ro} {n : Nat} (I : List D → List D → Ms → Prop)
    (h : ∀ d rest acc M, I (d :: rest) acc M → M.length = n ∧ src.ok (M ++ [.lst acc]) = true ∧ ∃ ρ2, tg.go d ρ = some ρ2 ∧ ∃ b M', t ρ2 (M ++ [.lst acc]) = some (.ok b, M' ++ [.lst acc]) ∧ M'.length = n ∧ (b = false → I rest acc M') ∧
      (b = true → ∃ y M2, e ρ2 (M' ++ [.lst acc]) = some (.ok y, M2 ++ [.lst acc]) ∧ M2.length = n ∧ acc.length < sizeLine ∧ I rest (acc ++ [y]) M2))
    (he : ∀ acc M, I [] acc M → src.ok (M ++ [.lst acc]) = true) : ∀ (items acc : List D) (M : Ms), I items acc M → ∃ acc' M', lcF src tg t e ρ n items (M ++ [.lst acc]) = some (.ok (.loc n), M' ++ [.lst acc']) ∧ I [] acc' M'
  | [], acc, M, i => by
    refine ⟨acc, M, ?_, i⟩
    unfold lcF
    rw [if_pos (he acc M i)]
  | d :: rest, acc, M, i => by
    obtain ⟨hn, h0, ρ2, h1, b, M', h2, hn', h3, h4⟩ := h d rest acc M i
    unfold lcF
    rw [if_pos h0, h1]
    dsimp only
    rw [h2]
    cases b with
    | false => exact lc_go I h he rest acc M' (h3 rfl)
    | true =>
      obtain ⟨y, M2, h5, hn2, h6, h7⟩ := h4 rfl
      dsimp only
      rw [h5]
      dsimp only
      rw [show lstAt (M2 ++ [.lst acc]) n = some acc by rw [← hn2]; exact lst_last]
      dsimp only
      rw [if_pos h6, show List.set (M2 ++ [MO.lst acc]) n (MO.lst (acc ++ [y])) = M2 ++ [MO.lst (acc ++ [y])] by rw [← hn2]; exact set_last]
      exact lc_go I h he rest (acc ++ [y]) M2 h7
@[simp] theorem wipe_nil {ρ : Ro} : wipeR ρ [] = ρ := rfl
@[simp] theorem wipe_cons {ρ : Ro} {v : Nat} {vs : List Nat} : wipeR ρ (v :: vs) = (wipeR ρ vs).set v none := rfl
@[simp] theorem go_one {ρ : Ro} {i : Nat} {d : D} : Tgt.go (.one i) d ρ = some (ρ.set i (some d)) := rfl
@[simp] theorem go_many {ρ : Ro} {is : List Nat} {ds : List D} : Tgt.go (.many is) (.tup ds) ρ = if ds.length = is.length then some (setAll is ds ρ) else none := rfl
@[simp] theorem setAll_c {ρ : Ro} {i : Nat} {is : List Nat} {d : D} {ds : List D} : setAll (i :: is) (d :: ds) ρ = setAll is ds (ρ.set i (some d)) := rfl
@[simp] theorem setAll_n {ρ : Ro} : setAll [] [] ρ = ρ := rfl
theorem bls_true (l : List D) : l.map (fun _ => D.bl true) = (l.map fun _ => true).map D.bl := by simp
/-! ### built-in calls -/
section
variable {M : Ms} {n : Nat} {l : List D} {i j : Int}
@[simp] theorem items_tup : itemsOf M (.tup l) = some l := rfl
@[simp] theorem items_nam {ss : List (List Nat)} : itemsOf M (.nam ss) = some (ss.map D.str) := rfl
@[simp] theorem items_loc : itemsOf M (.loc n) = seqAt M n := rfl
@[simp] theorem seq_last {l : List D} : seqAt (M ++ [.lst l]) M.length = some l := by simp [seqAt]
theorem seqAt_lst (h : M[n]? = some (.lst l)) : seqAt M n = some l := by
  unfold seqAt
  rw [h]
theorem seqAt_frz (h : M[n]? = some (.frz l)) : seqAt M n = some l := by
  unfold seqAt
  rw [h]
theorem lstAt_lst (h : M[n]? = some (.lst l)) : lstAt M n = some l := by
  unfold lstAt
  rw [h]
@[simp] theorem len_tup : fLen [.tup l] M = some (.ok (.int l.length), M) := by
  have h : itemsOf M (.tup l) = some l := rfl
  unfold fLen
  simp only [h]
theorem len_loc (h : seqAt M n = some l) : fLen [.loc n] M = some (.ok (.int l.length), M) := by
  unfold fLen
  simp [h]
@[simp] theorem sum_tup (ns : List Int) : fSum [.tup (ns.map .int)] M = some (.ok (.int ns.sum), M) := by
  unfold fSum
  simp
theorem sum_loc {ns : List Int} (h : seqAt M n = some (ns.map .int)) : fSum [.loc n] M = some (.ok (.int ns.sum), M) := by
  unfold fSum
  simp [h]
theorem all_loc {bs : List Bool} (h : seqAt M n = some (bs.map .bl)) : fAll [.loc n] M = some (.ok (.bl (bs.all id)), M) := by
  unfold fAll
  simp [h]
theorem any_loc {bs : List Bool} (h : seqAt M n = some (bs.map .bl)) : fAny [.loc n] M = some (.ok (.bl (bs.any id)), M) := by
  unfold fAny
  simp [h]
@[simp] theorem int_i : fInt [.int i] M = some (.ok (.int i), M) := rfl
@[simp] theorem abs_i : fAbs [.int i] M = some (.ok (.int (if i < 0 then -i else i)), M) := rfl
@[simp] theorem max2_i : fMax2 [.int i, .int j] M = some (.ok (.int (if j > i then j else i)), M) := rfl
@[simp] theorem min2_i : fMin2 [.int i, .int j] M = some (.ok (.int (if j < i then j else i)), M) := rfl
@[simp] theorem tuple_tup : fTuple [.tup l] M = some (.ok (.tup l), M) := rfl
theorem tuple_loc (h : seqAt M n = some l) : fTuple [.loc n] M = some (.ok (.tup l), M) := by
  unfold fTuple
  simp [h]
@[simp] theorem list_tup : fList [.tup l] M = some (.ok (.loc M.length), M ++ [.lst l]) := rfl
/-! the least and the greatest of whole numbers -/
theorem flats_ints : ∀ ns : List Int, D.flats (ns.map .int) = true
  | [] => rfl
  | n :: r => flats_ints r
theorem like_ints (ns : List Int) : likeAll (ns.map .int) = true := by
  unfold likeAll
  rw [Bool.and_eq_true, List.all_eq_true, List.all_eq_true]
  refine ⟨fun x hx => List.all_eq_true.mpr fun y hy => ?_, fun x hx => ?_⟩
  · obtain ⟨a, _, rfl⟩ := List.mem_map.mp hx
    obtain ⟨b, _, rfl⟩ := List.mem_map.mp hy
    rfl
  · obtain ⟨a, _, rfl⟩ := List.mem_map.mp hx
    rfl
theorem depth_ints : ∀ ns : List Int, PyData.depthAll (D.pys (ns.map .int)) ≤ 64
  | [] => by decide
  | n :: r => by
    have h := depth_ints r
    rw [List.map_cons]
    show max (PyData.depth (.int n)) (PyData.depthAll (D.pys (r.map .int))) ≤ 64
    have : PyData.depth (.int n) ≤ 64 := by simp [PyData.depth]
    omega
theorem seqOk_ints (ns : List Int) : seqOk (ns.map .int) = true := by
  unfold seqOk
  rw [flats_ints, like_ints, decide_eq_true (depth_ints ns)]
  rfl
theorem less_ii : dLess (.int i) (.int j) = decide (i < j) := PySem.W.dataLt_int i j
theorem minF_ints : ∀ (ns : List Int) (n : Int), minF (.int n) (ns.map .int) = .int (ns.foldl min n)
  | [], n => rfl
  | a :: r, n => by
    show minF (if dLess (.int a) (.int n) then .int a else .int n) (r.map .int) = _
    rw [less_ii, List.foldl_cons]
    by_cases h : a < n
    · rw [decide_eq_true h, if_pos rfl, minF_ints r a, show min n a = a by omega]
    · rw [decide_eq_false h, if_neg Bool.false_ne_true, minF_ints r n, show min n a = n by omega]
theorem maxF_ints : ∀ (ns : List Int) (n : Int), maxF (.int n) (ns.map .int) = .int (ns.foldl max n)
  | [], n => rfl
  | a :: r, n => by
    show maxF (if dLess (.int n) (.int a) then .int a else .int n) (r.map .int) = _
    rw [less_ii, List.foldl_cons]
    by_cases h : n < a
    · rw [decide_eq_true h, if_pos rfl, maxF_ints r a, show max n a = a by omega]
    · rw [decide_eq_false h, if_neg Bool.false_ne_true, maxF_ints r n, show max n a = n by omega]
theorem min_of {d : D} {n : Int} {ns : List Int} (h : itemsOf M d = some ((n :: ns).map .int)) : fMin [d] M = some (.ok (.int (ns.foldl min n)), M) := by
  unfold fMin
  have e := seqOk_ints (n :: ns)
  rw [List.map_cons] at h e
  simp only [h, e, if_true, minF_ints]
theorem max_of {d : D} {n : Int} {ns : List Int} (h : itemsOf M d = some ((n :: ns).map .int)) : fMax [d] M = some (.ok (.int (ns.foldl max n)), M) := by
  unfold fMax
  have e := seqOk_ints (n :: ns)
  rw [List.map_cons] at h e
  simp only [h, e, if_true, maxF_ints]
theorem foldl_min_le : ∀ (ns : List Int) (n : Int), ns.foldl min n ≤ n ∧ ∀ x ∈ ns, ns.foldl min n ≤ x
  | [], n => ⟨Int.le_refl _, fun x h => by cases h⟩
  | a :: r, n => by
    obtain ⟨h1, h2⟩ := foldl_min_le r (min n a)
    rw [List.foldl_cons]
    exact ⟨by omega, fun x hx => (List.mem_cons.mp hx).elim (fun e => by subst e; omega) (h2 x)⟩
theorem foldl_min_mem : ∀ (ns : List Int) (n : Int), ns.foldl min n ∈ n :: ns
  | [], n => List.mem_cons_self
  | a :: r, n => by
    rw [List.foldl_cons]
    rcases List.mem_cons.mp (foldl_min_mem r (min n a)) with h | h
    · rw [h]
      have : min n a = n ∨ min n a = a := by omega
      rcases this with e | e <;> rw [e] <;> simp
    · exact List.mem_cons_of_mem _ (List.mem_cons_of_mem _ h)
theorem foldl_max_ge : ∀ (ns : List Int) (n : Int), n ≤ ns.foldl max n ∧ ∀ x ∈ ns, x ≤ ns.foldl max n
  | [], n => ⟨Int.le_refl _, fun x h => by cases h⟩
  | a :: r, n => by
    obtain ⟨h1, h2⟩ := foldl_max_ge r (max n a)
    rw [List.foldl_cons]
    exact ⟨by omega, fun x hx => (List.mem_cons.mp hx).elim (fun e => by subst e; omega) (h2 x)⟩
theorem foldl_max_mem : ∀ (ns : List Int) (n : Int), ns.foldl max n ∈ n :: ns
  | [], n => List.mem_cons_self
  | a :: r, n => by
    rw [List.foldl_cons]
    rcases List.mem_cons.mp (foldl_max_mem r (max n a)) with h | h
    · rw [h]
      have : max n a = n ∨ max n a = a := by omega
      rcases this with e | e <;> rw [e] <;> simp
    · exact List.mem_cons_of_mem _ (List.mem_cons_of_mem _ h)
end
@[simp] theorem ty_last {M : Ms} {l : List D} : tyD (M ++ [.lst l]) (.loc M.length) = some "list" := by simp [tyD]
theorem append_last {M : Ms} {l : List D} {d : D} (h : l.length < sizeLine) : fAppend (.loc M.length) [d] (M ++ [.lst l]) = some (.ok .non, M ++ [.lst (l ++ [d])]) := by
  unfold fAppend
  dsimp only
  rw [lst_last]
  dsimp only
  rw [if_pos h, set_last]
theorem ty_lst {M : Ms} {n : Nat} {l : List D} (h : M[n]? = some (.lst l)) : tyD M (.loc n) = some "list" := by simp [tyD, h]
theorem append_at {M : Ms} {n : Nat} {l : List D} {d : D} (hm : M[n]? = some (.lst l)) (h : l.length < sizeLine) : fAppend (.loc n) [d] M = some (.ok .non, M.set n (.lst (l ++ [d]))) := by
  unfold fAppend
  dsimp only
  rw [lstAt_lst hm]
  dsimp only
  rw [if_pos h]
theorem rn1 {m : AM} {ρ : Ro} {M M1 : Ms} {j : Int} (hm : m ρ M = some (.ok [.int j], M1)) (h1 : -1000000000 ≤ j) (h2 : j ≤ 1000000000) : iRn1 m ρ M = some (.ok ⟨rngD 0 j.toNat, []⟩, M1) := by
  rw [ev_iRn1, hm, bnd_ok]
  exact if_pos ⟨by omega, by omega⟩
theorem rn2 {m : AM} {ρ : Ro} {M M1 : Ms} {i j : Int} (hm : m ρ M = some (.ok [.int i, .int j], M1)) (h1 : -1000000000 ≤ i) (h2 : i ≤ 1000000000) (h3 : -1000000000 ≤ j) (h4 : j ≤ 1000000000) : iRn2 m ρ M = some (.ok ⟨rngD i (j - i).toNat, []⟩, M1) := by
  rw [ev_iRn2, hm, bnd_ok]
  exact if_pos ⟨by omega, by omega, by omega, by omega⟩
/-! ### comprehensions handed to built-in calls -/
section
variable {α : Type} {own : List Nat} {im : IM} {tg : Tgt} {t : TM} {e : EM} {ρ : Ro} {M : Ms} {l : List α} {f v : α → D} {gd : List (Nat × List D)} {p : α → Bool}
theorem comp_filter (h0 : im ρ M = some (.ok ⟨l.map f, gd⟩, M)) (hix : Src.ix ⟨l.map f, gd⟩ M) (hl : l.length ≤ sizeLine)
    (h : ∀ a ∈ l, ∃ ρ2, tg.go (f a) (wipeR ρ own) = some ρ2 ∧ ∀ k, t ρ2 (M ++ [.lst k]) = some (.ok (p a), M ++ [.lst k]) ∧ (p a = true → e ρ2 (M ++ [.lst k]) = some (.ok (v a), M ++ [.lst k]))) :
    eLc own im tg t e ρ M = some (.ok (.loc M.length), M ++ [.lst ((l.filter p).map v)]) := by
  have key : ∀ (l2 : List α) (acc : List D), (∀ a ∈ l2, a ∈ l) → acc.length + l2.length ≤ sizeLine → lcF ⟨l.map f, gd⟩ tg t e (wipeR ρ own) M.length (l2.map f) (M ++ [.lst acc]) = some (.ok (.loc M.length), M ++ [.lst (acc ++ (l2.filter p).map v)]) := by
    intro l2
    induction l2 with
    | nil =>
      intro acc _ _
      unfold lcF
      simp only [List.map_nil]
      rw [if_pos (Src.ok_app hix)]
      simp
    | cons a r ih =>
      intro acc hm hz
      obtain ⟨ρ2, h1, h2⟩ := h a (hm a List.mem_cons_self)
      obtain ⟨h3, h4⟩ := h2 acc
      rw [List.map_cons]
      unfold lcF
      rw [if_pos (Src.ok_app hix), h1]
      dsimp only
      rw [h3]
      cases hp : p a with
      | false =>
        dsimp only
        rw [ih acc (fun b hb => hm b (List.mem_cons_of_mem _ hb)) (by simp at hz; omega)]
        simp [List.filter_cons, hp]
      | true =>
        dsimp only
        rw [h4 hp]
        dsimp only
        rw [lst_last]
        dsimp only
        rw [if_pos (by simp at hz; omega), set_last, ih (acc ++ [v a]) (fun b hb => hm b (List.mem_cons_of_mem _ hb)) (by simp at hz ⊢; omega)]
        simp [List.filter_cons, hp]
  rw [ev_lc, h0]
  have := key l [] (fun a ha => ha) (by simpa using hl)
  simpa using this
theorem comp_map (h0 : im ρ M = some (.ok ⟨l.map f, gd⟩, M)) (hix : Src.ix ⟨l.map f, gd⟩ M) (hl : l.length ≤ sizeLine)
    (h : ∀ a ∈ l, ∃ ρ2, tg.go (f a) (wipeR ρ own) = some ρ2 ∧ ∀ k, e ρ2 (M ++ [.lst k]) = some (.ok (v a), M ++ [.lst k])) : eLc own im tg tY e ρ M = some (.ok (.loc M.length), M ++ [.lst (l.map v)]) := by
  have := comp_filter (t := tY) (p := fun _ => true) (v := v) h0 hix hl fun a ha => by
    obtain ⟨ρ2, h1, h2⟩ := h a ha
    exact ⟨ρ2, h1, fun k => ⟨rfl, fun _ => h2 k⟩⟩
  rw [this, List.filter_eq_self.mpr fun _ _ => rfl]
theorem all_comp (h0 : im ρ M = some (.ok ⟨l.map f, gd⟩, M)) (hix : Src.ix ⟨l.map f, gd⟩ M) (hl : l.length ≤ sizeLine)
    (h : ∀ a ∈ l, ∃ ρ2, tg.go (f a) (wipeR ρ own) = some ρ2 ∧ ∀ k, e ρ2 (M ++ [.lst k]) = some (.ok (.bl (p a)), M ++ [.lst k])) : eTr (eB fAll (aCons (eLc own im tg tY e) aNil)) ρ M = some (.ok (.bl (l.all p)), M) := by
  have hc := comp_map (v := fun a => .bl (p a)) h0 hix hl h
  refine tr_fl (K := [.lst (l.map fun a => .bl (p a))]) ?_ rfl
  have h3 := all_loc (M := M ++ [.lst (l.map fun a => .bl (p a))]) (n := M.length) (bs := l.map p) (by rw [seq_last, List.map_map]; rfl)
  rw [ev_B, ev_cons, hc]
  simp only [bnd_ok, ev_nil]
  rw [h3, List.all_map]
  rfl
theorem sum_comp {v : α → Int} (h0 : im ρ M = some (.ok ⟨l.map f, gd⟩, M)) (hix : Src.ix ⟨l.map f, gd⟩ M) (hl : l.length ≤ sizeLine)
    (h : ∀ a ∈ l, ∃ ρ2, tg.go (f a) (wipeR ρ own) = some ρ2 ∧ ∀ k, e ρ2 (M ++ [.lst k]) = some (.ok (.int (v a)), M ++ [.lst k])) : eTr (eB fSum (aCons (eLc own im tg tY e) aNil)) ρ M = some (.ok (.int (l.map v).sum), M) := by
  have hc := comp_map (v := fun a => .int (v a)) h0 hix hl h
  refine tr_fl (K := [.lst (l.map fun a => .int (v a))]) ?_ rfl
  have h3 := sum_loc (M := M ++ [.lst (l.map fun a => .int (v a))]) (n := M.length) (ns := l.map v) (by rw [seq_last, List.map_map]; rfl)
  rw [ev_B, ev_cons, hc]
  simp only [bnd_ok, ev_nil]
  rw [h3]
/-- the least of a comprehension of whole numbers -/
theorem min_comp {v : α → Int} {n : Int} {ns : List Int} (h0 : im ρ M = some (.ok ⟨l.map f, gd⟩, M)) (hix : Src.ix ⟨l.map f, gd⟩ M) (hl : l.length ≤ sizeLine)
    (h : ∀ a ∈ l, ∃ ρ2, tg.go (f a) (wipeR ρ own) = some ρ2 ∧ ∀ k, t ρ2 (M ++ [.lst k]) = some (.ok (p a), M ++ [.lst k]) ∧ (p a = true → e ρ2 (M ++ [.lst k]) = some (.ok (.int (v a)), M ++ [.lst k]))) (hn : (l.filter p).map v = n :: ns) :
    eTr (eB fMin (aCons (eLc own im tg t e) aNil)) ρ M = some (.ok (.int (ns.foldl min n)), M) := by
  have hc := comp_filter (v := fun a => .int (v a)) h0 hix hl h
  refine tr_fl (K := [.lst ((l.filter p).map fun a => .int (v a))]) ?_ rfl
  have h3 := min_of (M := M ++ [.lst ((l.filter p).map fun a => .int (v a))]) (d := .loc M.length) (n := n) (ns := ns) (by rw [items_loc, seq_last, ← hn, List.map_map]; rfl)
  rw [ev_B, ev_cons, hc]
  simp only [bnd_ok, ev_nil]
  rw [h3]
theorem max_comp {v : α → Int} {n : Int} {ns : List Int} (h0 : im ρ M = some (.ok ⟨l.map f, gd⟩, M)) (hix : Src.ix ⟨l.map f, gd⟩ M) (hl : l.length ≤ sizeLine)
    (h : ∀ a ∈ l, ∃ ρ2, tg.go (f a) (wipeR ρ own) = some ρ2 ∧ ∀ k, t ρ2 (M ++ [.lst k]) = some (.ok (p a), M ++ [.lst k]) ∧ (p a = true → e ρ2 (M ++ [.lst k]) = some (.ok (.int (v a)), M ++ [.lst k]))) (hn : (l.filter p).map v = n :: ns) :
    eTr (eB fMax (aCons (eLc own im tg t e) aNil)) ρ M = some (.ok (.int (ns.foldl max n)), M) := by
  have hc := comp_filter (v := fun a => .int (v a)) h0 hix hl h
  refine tr_fl (K := [.lst ((l.filter p).map fun a => .int (v a))]) ?_ rfl
  have h3 := max_of (M := M ++ [.lst ((l.filter p).map fun a => .int (v a))]) (d := .loc M.length) (n := n) (ns := ns) (by rw [items_loc, seq_last, ← hn, List.map_map]; rfl)
  rw [ev_B, ev_cons, hc]
  simp only [bnd_ok, ev_nil]
  rw [h3]
end
end G
end
section
set_option linter.all false
set_option maxRecDepth 100000
set_option maxHeartbeats 4000000
/-! # the defs that all laws share -/
namespace G.C
open PySem PySem.Spec PyProof.Rows L2 G
def demand : Fn := callF 2 0 (sIf (tN (tV (eVar 0))) (sRaise 0 (eVar 1)) sNil)
def is_in : Fn := callF 3 0 (sRet (eAn (eB (fIs "int") (aCons (eVar 0) aNil)) (eAn (eN (eB (fIs "bool") (aCons (eVar 0) aNil))) (eChain dLe dLe (eVar 1) (eVar 0) (eVar 2)))))
def is_tuple : Fn := callF 3 0 (sRet (eAn (eB (fIs "tuple") (aCons (eVar 0) aNil)) (eChain dLe dLe (eVar 1) (eB fLen (aCons (eVar 0) aNil)) (eVar 2))))
section
variable {M : Ms} {d : D} {i lo hi : Int} {l : List D} {b : Bool} {n : Nat} {s : List Nat}
@[simp] theorem is_int_i : fIs "int" [.int i] M = some (.ok (.bl true), M) := rfl
@[simp] theorem is_int_b : fIs "int" [.bl b] M = some (.ok (.bl true), M) := rfl
@[simp] theorem is_int_n : fIs "int" [.non] M = some (.ok (.bl false), M) := rfl
@[simp] theorem is_int_s : fIs "int" [.str s] M = some (.ok (.bl false), M) := rfl
@[simp] theorem is_int_t : fIs "int" [.tup l] M = some (.ok (.bl false), M) := rfl
@[simp] theorem is_bool_i : fIs "bool" [.int i] M = some (.ok (.bl false), M) := rfl
@[simp] theorem is_bool_b : fIs "bool" [.bl b] M = some (.ok (.bl true), M) := rfl
@[simp] theorem is_tup_i : fIs "tuple" [.int i] M = some (.ok (.bl false), M) := rfl
@[simp] theorem is_tup_n : fIs "tuple" [.non] M = some (.ok (.bl false), M) := rfl
@[simp] theorem is_tup_b : fIs "tuple" [.bl b] M = some (.ok (.bl false), M) := rfl
@[simp] theorem is_tup_s : fIs "tuple" [.str s] M = some (.ok (.bl false), M) := rfl
@[simp] theorem is_tup_t : fIs "tuple" [.tup l] M = some (.ok (.bl true), M) := rfl
theorem is_tup_l (h : M[n]? = some (.lst l)) : fIs "tuple" [.loc n] M = some (.ok (.bl false), M) := by
  unfold fIs tyOf
  simp only [h]
  rfl
@[simp] theorem demand_t : demand [.bl true, d] M = some (.ok .non, M) := by
  simp [demand, callF, fin_nx0]
theorem demand_f (h : d.flat = true) : demand [.bl false, d] M = some (.ex 0 d, M) := by
  simp [demand, callF, fin_ex0 h]
@[simp] theorem in_i : is_in [.int i, .int lo, .int hi] M = some (.ok (.bl (decide (lo ≤ i ∧ i ≤ hi))), M) := by
  simp only [is_in, callF]
  by_cases h : lo ≤ i
  · by_cases h2 : i ≤ hi <;> simp [h, h2]
  · simp [h]
@[simp] theorem in_b : is_in [.bl b, .int lo, .int hi] M = some (.ok (.bl false), M) := by simp [is_in, callF]
@[simp] theorem in_n : is_in [.non, .int lo, .int hi] M = some (.ok (.bl false), M) := by simp [is_in, callF]
@[simp] theorem in_s : is_in [.str s, .int lo, .int hi] M = some (.ok (.bl false), M) := by simp [is_in, callF]
@[simp] theorem in_t : is_in [.tup l, .int lo, .int hi] M = some (.ok (.bl false), M) := by simp [is_in, callF]
@[simp] theorem tuple_t : is_tuple [.tup l, .int lo, .int hi] M = some (.ok (.bl (decide (lo ≤ l.length ∧ (l.length : Int) ≤ hi))), M) := by
  simp only [is_tuple, callF]
  by_cases h : lo ≤ l.length
  · by_cases h2 : (l.length : Int) ≤ hi <;> simp [h, h2]
  · simp [h]
@[simp] theorem tuple_i : is_tuple [.int i, .int lo, .int hi] M = some (.ok (.bl false), M) := by simp [is_tuple, callF]
@[simp] theorem tuple_n : is_tuple [.non, .int lo, .int hi] M = some (.ok (.bl false), M) := by simp [is_tuple, callF]
@[simp] theorem tuple_b : is_tuple [.bl b, .int lo, .int hi] M = some (.ok (.bl false), M) := by simp [is_tuple, callF]
@[simp] theorem tuple_s : is_tuple [.str s, .int lo, .int hi] M = some (.ok (.bl false), M) := by simp [is_tuple, callF]
theorem tuple_l (h : M[n]? = some (.lst l)) : is_tuple [.loc n, .int lo, .int hi] M = some (.ok (.bl false), M) := by simp [is_tuple, callF, is_tup_l h]
end
/-! ### dice -/
def roll : Fn := callF 2 1 (sSeq (sIf (tV (eOp dGt (eOp dIx (eVar 0) (eC (.int 0))) (eC (.int 0)))) (sSeq (sAs (eOp dMod (eB fInt (aCons (eOp dIx (eVar 0) (eC (.int 0))) aNil)) (eVar 1)) (gN 2)) (sSeq (sAs (eOp dDiv (eOp dIx (eVar 0) (eC (.int 0))) (eVar 1)) (gIx (eVar 0) (eC (.int 0)))) (sRet (eVar 2)))) sNil) (sSeq (sAs (eOp dAdd (eOp dIx (eVar 0) (eC (.int 2))) (eC (.int 1))) (gIx (eVar 0) (eC (.int 2)))) (sSeq (sAs (eOp dMod (eB fInt (aCons (eOp dAdd (eOp dAdd (eOp dMul (eOp dIx (eVar 0) (eC (.int 1))) (eC (.int 48271))) (eOp dMul (eOp dMul (eOp dIx (eVar 0) (eC (.int 2))) (eOp dIx (eVar 0) (eC (.int 2)))) (eC (.int 2003)))) (eC (.int 91))) aNil)) (eC (.int 2147480009))) (gIx (eVar 0) (eC (.int 1)))) (sRet (eOp dMod (eB fInt (aCons (eOp dDiv (eOp dIx (eVar 0) (eC (.int 1))) (eC (.int 197))) aNil)) (eVar 1))))))
def pick : Fn := callF 2 0 (sRet (eOp dIx (eVar 1) (eCall roll (aCons (eVar 0) (aCons (eB fLen (aCons (eVar 1) aNil)) aNil)))))
/-- dice that have been rolled at most k times -/
def DiceO (k : Nat) (o : MO) : Prop := ∃ a b c : Int, o = .lst [.int a, .int b, .int c] ∧ 0 ≤ a ∧ 0 ≤ b ∧ b < 2147480009 ∧ 0 ≤ c ∧ c ≤ k
theorem DiceO.cl {k n : Nat} {o : MO} (h : DiceO k o) : o.cl n = true := by
  obtain ⟨a, b, c, rfl, _⟩ := h
  rfl
theorem DiceO.mono {k j : Nat} {o : MO} (h : DiceO k o) (hk : k ≤ j) : DiceO j o := by
  obtain ⟨a, b, c, e, h1, h2, h3, h4, h5⟩ := h
  exact ⟨a, b, c, e, h1, h2, h3, h4, by omega⟩
section
variable {M : Ms} {n : Nat} {l : List D}
theorem ix_loc {i : Int} {d : D} (h : seqAt M n = some l) (hd : atI l i = some d) : dIx (.loc n) (.int i) M = some (.ok d, M) := by
  unfold dIx
  dsimp only
  rw [h]
  dsimp only
  rw [hd]
theorem ix_tup {i : Int} {d : D} (hd : atI l i = some d) : dIx (.tup l) (.int i) M = some (.ok d, M) := by
  unfold dIx
  dsimp only
  rw [hd]
theorem setF_lst {k : Int} {j : Nat} {d : D} (h : M[n]? = some (.lst l)) (hj : ixN l.length k = some j) : setF (.loc n) (.int k) d M = some (M.set n (.lst (l.set j d))) := by
  unfold setF
  dsimp only
  rw [h]
  dsimp only
  rw [hj]
theorem roll_ok {k : Nat} {o : MO} {t : Int} (hm : M[n]? = some o) (ho : DiceO k o) (hk : k < 2 ^ 62) (t0 : 0 < t) (t1 : t < 1073741824) : ∃ r o', roll [.loc n, .int t] M = some (.ok (.int r), M.set n o') ∧ 0 ≤ r ∧ r < t ∧ DiceO (k + 1) o' := by
  obtain ⟨a, b, c, rfl, ha, hb, hb2, hc, hc2⟩ := ho
  have hl : n < M.length := (List.getElem?_eq_some_iff.mp hm).1
  have sq := seqAt_lst hm
  have i0 : ∀ {x y z : D}, atI [x, y, z] 0 = some x := rfl
  have i1 : ∀ {x y z : D}, atI [x, y, z] 1 = some y := rfl
  have i2 : ∀ {x y z : D}, atI [x, y, z] 2 = some z := rfl
  simp only [roll, callF, List.length_cons, List.length_nil]
  by_cases h : 0 < a
  · refine ⟨a % t, .lst [.int (a / t), .int b, .int c], ?_, Int.emod_nonneg _ (by omega), Int.emod_lt_of_pos _ t0, a / t, b, c, rfl, Int.ediv_nonneg ha (by omega), hb, hb2, hc, by omega⟩
    simp [ix_loc sq i0, h, t0, t1, setF_lst (l := [.int a, .int b, .int c]) (k := 0) (j := 0) hm rfl]
    exact fin_set0 rfl rfl
  · have hm1 : (M.set n (.lst [.int a, .int b, .int (c + 1)]))[n]? = some (.lst [.int a, .int b, .int (c + 1)]) := List.getElem?_set_self hl
    have hm2 : (M.set n (.lst [.int a, .int ((b * 48271 + (c + 1) * (c + 1) * 2003 + 91) % 2147480009), .int (c + 1)]))[n]? = some (.lst [.int a, .int ((b * 48271 + (c + 1) * (c + 1) * 2003 + 91) % 2147480009), .int (c + 1)]) := List.getElem?_set_self hl
    have hcc : (c : Int) + 1 < 18446744073709551616 := by omega
    have hcd : (-18446744073709551616 : Int) < c + 1 := by omega
    refine ⟨((b * 48271 + (c + 1) * (c + 1) * 2003 + 91) % 2147480009 / 197) % t, .lst [.int a, .int ((b * 48271 + (c + 1) * (c + 1) * 2003 + 91) % 2147480009), .int (c + 1)], ?_, Int.emod_nonneg _ (by omega), Int.emod_lt_of_pos _ t0, a, _, c + 1, rfl, ha, Int.emod_nonneg _ (by decide), Int.emod_lt_of_pos _ (by decide), by omega, by omega⟩
    simp [ix_loc sq i0, ix_loc sq i2, h, t0, setF_lst (l := [.int a, .int b, .int c]) (k := 2) (j := 2) hm rfl, ix_loc (seqAt_lst hm1) i1, ix_loc (seqAt_lst hm1) i2, setF_lst (l := [.int a, .int b, .int (c + 1)]) (k := 1) (j := 1) hm1 rfl, ix_loc (seqAt_lst hm2) i1, hcc, hcd]
    exact fin_set0 rfl rfl
theorem flats_get {l : List D} {i : Nat} {d : D} (h : D.flats l = true) (hd : l[i]? = some d) : d.flat = true := by
  rw [D.flats_all, List.all_eq_true] at h
  exact h d (List.mem_of_getElem? hd)
theorem atI_nat {l : List D} {r : Int} (h0 : 0 ≤ r) (h1 : r < l.length) : ∃ d, l[r.toNat]? = some d ∧ atI l r = some d := by
  have hn : r.toNat < l.length := by omega
  refine ⟨l[r.toNat], List.getElem?_eq_getElem hn, ?_⟩
  unfold atI ixN
  rw [if_pos h0, if_pos h1]
  simp [List.getElem?_eq_getElem hn]
theorem seqAt_set {m : Nat} {o : MO} (h : m ≠ n) : seqAt (M.set n o) m = seqAt M m := by
  unfold seqAt
  rw [List.getElem?_set_ne (Ne.symm h)]
theorem pick_loc {k m : Nat} {o : MO} (hm : M[n]? = some o) (ho : DiceO k o) (hk : k < 2 ^ 62) (hl : seqAt M m = some l) (hne : m ≠ n) (l0 : l ≠ []) (l1 : l.length < 1073741824) (hf : D.flats l = true) :
    ∃ d o', pick [.loc n, .loc m] M = some (.ok d, M.set n o') ∧ d ∈ l ∧ DiceO (k + 1) o' := by
  have hp : 0 < l.length := List.length_pos_iff.mpr l0
  obtain ⟨r, o', h1, h2, h3, h4⟩ := roll_ok (t := l.length) hm ho hk (by omega) (by omega)
  obtain ⟨d, e1, e2⟩ := atI_nat h2 h3
  refine ⟨d, o', ?_, List.mem_of_getElem? e1, h4⟩
  have q := ix_loc (M := M.set n o') (i := r) (by rw [seqAt_set hne]; exact hl) e2
  simp [pick, callF, len_loc hl, h1, q]
  exact fin_set0 (flats_get hf e1) h4.cl
theorem pick_tup {k : Nat} {o : MO} (hm : M[n]? = some o) (ho : DiceO k o) (hk : k < 2 ^ 62) (l0 : l ≠ []) (l1 : l.length < 1073741824) (hf : D.flats l = true) :
    ∃ d o', pick [.loc n, .tup l] M = some (.ok d, M.set n o') ∧ d ∈ l ∧ DiceO (k + 1) o' := by
  have hp : 0 < l.length := List.length_pos_iff.mpr l0
  obtain ⟨r, o', h1, h2, h3, h4⟩ := roll_ok (t := l.length) hm ho hk (by omega) (by omega)
  obtain ⟨d, e1, e2⟩ := atI_nat h2 h3
  refine ⟨d, o', ?_, List.mem_of_getElem? e1, h4⟩
  simp [pick, callF, h1, ix_tup e2]
  exact fin_set0 (flats_get hf e1) h4.cl
end
def dice_loop : SM := (sAs (eOp dMod (eB fInt (aCons (eOp dAdd (eOp dMul (eVar 3) (eC (.int 69621))) (eOp dMod (eB fInt (aCons (eVar 4) aNil)) (eC (.int 2147480009)))) aNil)) (eC (.int 2147480009))) (gN 3))
def dice : Fn := callF 2 3 (sSeq (sAs (eIf (tV (eOp dLt (eVar 1) (eB fLen (aCons (eVar 0) aNil)))) (eOp dIx (eVar 0) (eVar 1)) (eOp dAdd (eOp dMul (eC (.int 811)) (eVar 1)) (eC (.int 37)))) (gN 2)) (sSeq (sAs (eOp dAdd (eC (.int 700001)) (eOp dMul (eC (.int 6947)) (eVar 1))) (gN 3)) (sSeq (sFor (iLst (eOp dAdd (eSl dSl (eVar 0) oNo (oSo (eC (.int 6)))) (eLst (aCons (eVar 2) aNil)))) (gN 4) dice_loop) (sRet (eLst (aCons (eIf (tO (tV (eOp dLt (eVar 2) (eC (.int 0)))) (tV (eOp dGe (eVar 2) (eOp dPow (eC (.int 10)) (eC (.int 16)))))) (eB fAbs (aCons (eVar 2) aNil)) (eC (.int 0))) (aCons (eVar 3) (aCons (eC (.int 0)) aNil))))))))
theorem cut_ints (ns : List Int) (a b : Option Int) : cutD (ns.map D.int) a b = (cutD ns a b).map D.int := by
  unfold cutD
  simp
theorem cut_len {α : Type} (l : List α) (a b : Option Int) : (cutD l a b).length ≤ l.length := by
  unfold cutD
  simp
  omega
theorem dice_mix {src : Src} {g0 g1 g2 : D} {M : Ms} (hs : src.ix M) (ns : List Int) (b : Int) (hb : 0 ≤ b ∧ b < 2147480009) (hne : ns ≠ [] ∨ True) (x : Option D) :
    ∃ b' x', loopF src (gN 4) dice_loop (ns.map D.int) [some g0, some g1, some g2, some (.int b), x] M = some (.nx, [some g0, some g1, some g2, some (.int b'), x'], M) ∧ 0 ≤ b' ∧ b' < 2147480009 := by
  obtain ⟨ρ', M', e, i⟩ := loop_inv (src := src) (g := gN 4) (body := dice_loop) (fun rest ρ M1 => M1 = M ∧ (∃ ns : List Int, rest = ns.map D.int) ∧ ∃ b x, ρ = [some g0, some g1, some g2, some (.int b), x] ∧ 0 ≤ b ∧ b < 2147480009)
    (fun d rest ρ M1 i => by
      obtain ⟨rfl, ⟨ns, hn⟩, b, x, rfl, h1, h2⟩ := i
      cases ns with
      | nil => cases hn
      | cons n ns =>
        cases hn
        refine ⟨Src.ok_of hs, [some g0, some g1, some g2, some (.int b), some (.int n)], M1, [some g0, some g1, some g2, some (.int ((b * 69621 + n % 2147480009) % 2147480009)), some (.int n)], M1, by simp, by simp [dice_loop], rfl, ⟨ns, rfl⟩, _, _, rfl, Int.emod_nonneg _ (by decide), Int.emod_lt_of_pos _ (by decide)⟩)
    (fun ρ M1 i => by obtain ⟨rfl, _⟩ := i; exact Src.ok_of hs) (items := ns.map D.int) (ρ := [some g0, some g1, some g2, some (.int b), x]) (M := M) ⟨rfl, ⟨ns, rfl⟩, b, x, rfl, hb⟩
  obtain ⟨rfl, _, b', x', rfl, h1, h2⟩ := i
  exact ⟨b', x', e, h1, h2⟩
theorem dice_ok {M : Ms} {s : Nat} {ns : List Int} {spot : Int} (hs : s < M.length) (hq : seqAt M s = some (ns.map D.int)) (hl : ns.length ≤ 1000) (h0 : 0 ≤ spot) (h1 : spot ≤ 1000) : ∃ o, dice [.loc s, .int spot] M = some (.ok (.loc M.length), M ++ [o]) ∧ DiceO 0 o := by
  -- the loop runs over six cells of the script and the own one
  have main : ∀ own : Int, ∃ o, finF M ((sSeq (sAs (eOp dAdd (eC (.int 700001)) (eOp dMul (eC (.int 6947)) (eVar 1))) (gN 3)) (sSeq (sFor (iLst (eOp dAdd (eSl dSl (eVar 0) oNo (oSo (eC (.int 6)))) (eLst (aCons (eVar 2) aNil)))) (gN 4) dice_loop) (sRet (eLst (aCons (eIf (tO (tV (eOp dLt (eVar 2) (eC (.int 0)))) (tV (eOp dGe (eVar 2) (eOp dPow (eC (.int 10)) (eC (.int 16)))))) (eB fAbs (aCons (eVar 2) aNil)) (eC (.int 0))) (aCons (eVar 3) (aCons (eC (.int 0)) aNil))))))) [some (.loc s), some (.int spot), some (.int own), none, none] M) = some (.ok (.loc M.length), M ++ [o]) ∧ DiceO 0 o := by
    intro own
    have cl := cut_len ns none (some 6)
    have hsz : (1 : Nat) ≤ sizeLine := by decide
    have hsz2 : (cutD ns none (some 6)).length + 1 ≤ sizeLine := by
      have : 2000 ≤ sizeLine := by decide
      omega
    have l1 : lstAt (M ++ [.lst (cutD (ns.map D.int) none (some 6)), .lst [.int own]]) M.length = some (cutD (ns.map D.int) none (some 6)) := by simp [lstAt]
    have l2 : lstAt (M ++ [.lst (cutD (ns.map D.int) none (some 6)), .lst [.int own]]) (M.length + 1) = some [.int own] := by
      unfold lstAt
      rw [List.getElem?_append_right (by omega)]
      simp
    have hadd := add_ll (M := M ++ [.lst (cutD (ns.map D.int) none (some 6)), .lst [.int own]]) l1 l2 (by rw [cut_ints]; simpa using hsz2)
    have hcut : cutD (ns.map D.int) none (some 6) ++ [.int own] = (cutD ns none (some 6) ++ [own]).map D.int := by rw [cut_ints]; simp
    rw [hcut] at hadd
    have hix : Src.ix ⟨(cutD ns none (some 6) ++ [own]).map D.int, [(M.length + 2, (cutD ns none (some 6) ++ [own]).map D.int)]⟩ (M ++ [.lst (cutD (ns.map D.int) none (some 6)), .lst [.int own]] ++ [.lst ((cutD ns none (some 6) ++ [own]).map D.int)]) := fun p hp => by
      rw [List.mem_singleton] at hp
      subst hp
      refine ⟨by simp, seqAt_lst ?_⟩
      rw [List.getElem?_append_right (by simp)]
      simp
    obtain ⟨b', x', e, hb1, hb2⟩ := dice_mix (g0 := .loc s) (g1 := .int spot) (g2 := .int own) hix (cutD ns none (some 6) ++ [own]) (700001 + 6947 * spot) (by omega) (.inr trivial) none
    have hsl : dSl (.loc s) none (some 6) M = some (.ok (.loc M.length), M ++ [.lst (cutD (ns.map D.int) none (some 6))]) := by
      unfold dSl
      dsimp only
      rw [hq]
    have hq3 : seqAt (M ++ [.lst (cutD (ns.map D.int) none (some 6)), .lst [.int own]] ++ [.lst ((cutD ns none (some 6) ++ [own]).map D.int)]) (M.length + 2) = some ((cutD ns none (some 6) ++ [own]).map D.int) := (hix (M.length + 2, _) (by simp)).2
    refine ⟨.lst [.int (if own < 0 ∨ 10000000000000000 ≤ own then (if own < 0 then -own else own) else 0), .int b', .int 0], ?_, _, b', 0, rfl, ?_, hb1, hb2, by decide, by decide⟩
    · simp only [List.append_assoc, List.cons_append, List.nil_append] at hadd hq3 e
      generalize (cutD ns none (some 6) ++ [own]).map D.int = L at hadd hq3 e
      generalize cutD (ns.map D.int) none (some 6) = L0 at hadd hq3 e hsl
      have h3 : (3 : Nat) ≤ sizeLine := by decide
      have at3 : ∀ o : MO, (M ++ [MO.lst L0, MO.lst [D.int own], MO.lst L, o])[M.length + 3]? = some o := fun o => by
        rw [List.getElem?_append_right (by omega)]
        simp
      by_cases n1 : own < 0
      · simp [hsl, hadd, hq3, hsz, e, n1, h3]
        exact fin_loc (K := [_, _, _, _]) (by omega) (at3 _) rfl
      · by_cases n2 : 10000000000000000 ≤ own
        · simp [hsl, hadd, hq3, hsz, e, n1, n2, h3]
          exact fin_loc (K := [_, _, _, _]) (by omega) (at3 _) rfl
        · simp [hsl, hadd, hq3, hsz, e, n1, n2, h3]
          exact fin_loc (K := [_, _, _, _]) (by omega) (at3 _) rfl
    · split
      · split <;> omega
      · decide
  have st : ∀ own : Int, (eIf (tV (eOp dLt (eVar 1) (eB fLen (aCons (eVar 0) aNil)))) (eOp dIx (eVar 0) (eVar 1)) (eOp dAdd (eOp dMul (eC (.int 811)) (eVar 1)) (eC (.int 37)))) [some (.loc s), some (.int spot), none, none, none] M = some (.ok (.int own), M) → ∃ o, dice [.loc s, .int spot] M = some (.ok (.loc M.length), M ++ [o]) ∧ DiceO 0 o := fun own h => by
    obtain ⟨o, h1, h2⟩ := main own
    refine ⟨o, ?_, h2⟩
    have e : dice [.loc s, .int spot] M = finF M ((sSeq (sAs (eIf (tV (eOp dLt (eVar 1) (eB fLen (aCons (eVar 0) aNil)))) (eOp dIx (eVar 0) (eVar 1)) (eOp dAdd (eOp dMul (eC (.int 811)) (eVar 1)) (eC (.int 37)))) (gN 2)) _) [some (.loc s), some (.int spot), none, none, none] M) := rfl
    rw [e, ev_seq, ev_as, h]
    simpa using h1
  by_cases h : spot < ns.length
  · obtain ⟨d, e1, e2⟩ := atI_nat (l := ns.map D.int) h0 (by simpa using h)
    rw [List.getElem?_map] at e1
    cases hn : ns[spot.toNat]? with
    | none => rw [hn] at e1; cases e1
    | some own =>
      rw [hn] at e1
      cases e1
      refine st own ?_
      simp [len_loc hq, h, ix_loc hq e2]
  · refine st (811 * spot + 37) ?_
    have h6 : ((spot : Int) < 18446744073709551616) := by omega
    simp [len_loc hq, h]
end G.C
end
section
set_option linter.all false
set_option maxHeartbeats 4000000
/-! # tools: statements one behind the other, draws -/
namespace G
open PySem PySem.Spec PyProof.Rows L2
section
variable {e : EM} {g : GM} {R B s : SM} {t : TM} {im : IM} {ρ ρ1 ρ2 ρ' : Ro} {M M1 M2 M' : Ms} {d : D} {src : Src} {rest : List D}
theorem seq_nx (h : s ρ M = some (.nx, ρ1, M1)) : (sSeq s R) ρ M = R ρ1 M1 := by
  simp [h]
theorem seq_rt (h : s ρ M = some (.rt d, ρ1, M1)) : (sSeq s R) ρ M = some (.rt d, ρ1, M1) := by
  simp [h]
theorem seq_xx {c : Nat} (h : s ρ M = some (.ex c d, ρ1, M1)) : (sSeq s R) ρ M = some (.ex c d, ρ1, M1) := by
  simp [h]
theorem seq_set {i : Nat} (h : e ρ M = some (.ok d, M1)) : (sSeq (sAs e (gN i)) R) ρ M = R (ρ.set i (some d)) M1 := by
  simp [h]
theorem as_set {i : Nat} (h : e ρ M = some (.ok d, M1)) : (sAs e (gN i)) ρ M = some (.nx, ρ.set i (some d), M1) := by
  simp [h]
theorem seq_do (h : e ρ M = some (.ok d, M1)) : (sSeq (sEx e) R) ρ M = R ρ M1 := by
  simp [h]
theorem seq_if0 (h : t ρ M = some (.ok false, M1)) : (sSeq (sIf t B sNil) R) ρ M = R ρ M1 := by
  simp [h]
theorem if_t {A : SM} (h : t ρ M = some (.ok true, M1)) : (sIf t A B) ρ M = A ρ M1 := by
  simp [h]
theorem if_f {A : SM} (h : t ρ M = some (.ok false, M1)) : (sIf t A B) ρ M = B ρ M1 := by
  simp [h]
theorem ret_ok (h : e ρ M = some (.ok d, M1)) : sRet e ρ M = some (.rt d, ρ, M1) := by
  simp [h]
theorem seq_loop (h : im ρ M = some (.ok src, M1)) (k : loopF src g B src.items ρ M1 = some (.nx, ρ', M')) : (sSeq (sFor im g B) R) ρ M = R ρ' M' := by
  simp [h, k]
theorem for_loop (h : im ρ M = some (.ok src, M1)) : (sFor im g B) ρ M = loopF src g B src.items ρ M1 := by
  simp [h]
theorem seq_for (h : im ρ M = some (.ok src, M1)) : (sSeq (sFor im g B) R) ρ M = sSeq (loopF src g B src.items) R ρ M1 := by
  simp only [ev_seq, for_loop h]
theorem loop_nx (ok : src.ok M = true) (hg : g d ρ M = some (ρ1, M1)) (h : B ρ1 M1 = some (.nx, ρ2, M2)) : loopF src g B (d :: rest) ρ M = loopF src g B rest ρ2 M2 := by
  conv => lhs; unfold loopF
  rw [if_pos ok, hg]
  dsimp only
  rw [h]
theorem loop_rt {v : D} (ok : src.ok M = true) (hg : g d ρ M = some (ρ1, M1)) (h : B ρ1 M1 = some (.rt v, ρ2, M2)) : loopF src g B (d :: rest) ρ M = some (.rt v, ρ2, M2) := by
  conv => lhs; unfold loopF
  rw [if_pos ok, hg]
  dsimp only
  rw [h]
theorem loop_nil (ok : src.ok M = true) : loopF src g B [] ρ M = some (.nx, ρ, M) := by
  unfold loopF
  rw [if_pos ok]
theorem tv_ok {b : Bool} (h : e ρ M = some (.ok (.bl b), M1)) : tV e ρ M = some (.ok b, M1) := by
  simp [h]
theorem an_t {t u : TM} {b : Bool} (h : t ρ M = some (.ok true, M1)) (k : u ρ M1 = some (.ok b, M2)) : tAn t u ρ M = some (.ok b, M2) := by
  simp [h, k]
theorem an_f {t u : TM} (h : t ρ M = some (.ok false, M1)) : tAn t u ρ M = some (.ok false, M1) := by
  simp [h]
theorem o_f {t u : TM} {b : Bool} (h : t ρ M = some (.ok false, M1)) (k : u ρ M1 = some (.ok b, M2)) : tO t u ρ M = some (.ok b, M2) := by
  simp [h, k]
theorem o_t {t u : TM} (h : t ρ M = some (.ok true, M1)) : tO t u ρ M = some (.ok true, M1) := by
  simp [h]
theorem n_ok {b : Bool} (h : t ρ M = some (.ok b, M1)) : tN t ρ M = some (.ok (!b), M1) := by
  simp [h]
theorem size_ge {n : Nat} (h : n ≤ 1000000) : n ≤ sizeLine := Nat.le_trans h (by decide)
theorem size_gt {n : Nat} (h : n < 1000000) : n < sizeLine := Nat.lt_of_lt_of_le h (by decide)
end
/-! ### ranges -/
theorem rngD_len (lo : Int) (n : Nat) : (rngD lo n).length = n := by simp [rngD]
theorem rngD_nil' {lo : Int} {n k : Nat} (h : n ≤ k) : (rngD lo n).drop k = [] := List.drop_eq_nil_of_le (by rw [rngD_len]; exact h)
theorem rngD_get {lo : Int} {n k : Nat} (h : k < n) : (rngD lo n)[k]'(by rw [rngD_len]; exact h) = .int (lo + (k : Nat)) := by simp [rngD]
theorem rngD_drop' {lo : Int} {n k : Nat} (h : k < n) : (rngD lo n).drop k = .int (lo + (k : Nat)) :: (rngD lo n).drop (k + 1) := by
  rw [List.drop_eq_getElem_cons (by rw [rngD_len]; exact h), rngD_get h]
theorem rngD_map (lo : Int) (n : Nat) : rngD lo n = (List.range n).map fun i => D.int (lo + (i : Nat)) := rfl
theorem at_last {α : Type} {p : List α} {x : α} : atI (p ++ [x]) (-1) = some x := by
  unfold atI ixN
  rw [if_neg (by decide), if_pos (by simp; omega)]
  have : (-1 + ((p ++ [x]).length : Int)).toNat = p.length := by simp; omega
  rw [this]
  simp
theorem at_first {α : Type} {p : List α} {x : α} : atI (x :: p) 0 = some x := by
  unfold atI ixN
  rw [if_pos (by decide), if_pos (by simp)]
  rfl
/-! ### dice that are drawn from, again and again -/
section
variable {M : Ms} {n : Nat}
theorem DiceO.refl {k : Nat} {o : MO} (h : C.DiceO k o) : C.DiceO (k + 0) o := h
theorem set_get {o : MO} (h : n < M.length) : (M.set n o)[n]? = some o := List.getElem?_set_self h
theorem set_self {o : MO} (h : M[n]? = some o) : M.set n o = M := by
  have hn := (List.getElem?_eq_some_iff.mp h).1
  apply List.ext_getElem?
  intro i
  by_cases hi : n = i
  · subst hi
    rw [List.getElem?_set_self hn, h]
  · rw [List.getElem?_set_ne hi]
theorem set_app {o : MO} {K : Ms} (h : n < M.length) : (M ++ K).set n o = M.set n o ++ K := List.set_append_left n o h
/-- a comprehension over a range whose items are drawn -/
theorem draws {i : Nat} {e : EM} {ρ : Ro} {c j k : Nat} {od : MO} (P : D → Prop) (hn : n < M.length) (ho : C.DiceO k od) (hc : c ≤ 1000)
    (he : ∀ (z : D) (k' : Nat) (od : MO) (acc : List D), C.DiceO k' od → k' ≤ k + c * j → ∃ v od', e (ρ.set i (some z)) (M.set n od ++ [.lst acc]) = some (.ok v, M.set n od' ++ [.lst acc]) ∧ C.DiceO (k' + j) od' ∧ P v) :
    ∃ vs od', lcF ⟨rngD 0 c, []⟩ (.one i) tY e ρ M.length (rngD 0 c) (M.set n od ++ [.lst []]) = some (.ok (.loc M.length), M.set n od' ++ [.lst vs]) ∧ C.DiceO (k + c * j) od' ∧ vs.length = c ∧ ∀ v ∈ vs, P v := by
  obtain ⟨acc, M', q, od', h1, h2, h3, h4, h5⟩ := lc_go (src := ⟨rngD 0 c, []⟩) (tg := .one i) (t := tY) (e := e) (ρ := ρ) (n := M.length)
    (fun rest acc M1 => ∃ od, M1 = M.set n od ∧ C.DiceO (k + acc.length * j) od ∧ acc.length + rest.length = c ∧ (∀ v ∈ acc, P v) ∧ True)
    (fun d rest acc M1 i => by
      obtain ⟨od, rfl, i1, i2, i3, _⟩ := i
      simp only [List.length_cons] at i2
      have hle : acc.length * j ≤ c * j := Nat.mul_le_mul_right _ (by omega)
      obtain ⟨v, od', e1, e2, e3⟩ := he d _ od acc i1 (by omega)
      refine ⟨by simp, rfl, _, rfl, true, M.set n od, rfl, by simp, (fun z => by cases z), fun _ => ⟨v, M.set n od', e1, by simp, size_gt (by omega), od', rfl, ?_, ?_, ?_, trivial⟩⟩
      · rw [List.length_append, List.length_singleton, Nat.add_mul, Nat.one_mul, ← Nat.add_assoc]
        exact e2
      · rw [List.length_append, List.length_singleton]
        omega
      · intro v hv
        rcases List.mem_append.mp hv with z | z
        · exact i3 v z
        · rw [List.mem_singleton] at z
          subst z
          exact e3)
    (fun acc M1 i => rfl) (rngD 0 c) [] (M.set n od) ⟨od, rfl, by simpa using ho, by simp [rngD_len], by simp, trivial⟩
  subst h1
  simp only [List.length_nil, Nat.add_zero] at h3
  rw [h3] at h2
  exact ⟨acc, od', q, h2, h3, h4⟩
theorem ints_of {Q : Int → Prop} : ∀ {vs : List D}, (∀ v ∈ vs, ∃ z, v = .int z ∧ Q z) → ∃ ns : List Int, vs = ns.map D.int ∧ ∀ z ∈ ns, Q z
  | [], _ => ⟨[], rfl, fun z hz => by cases hz⟩
  | v :: vs, h => by
    obtain ⟨z, rfl, hz⟩ := h v List.mem_cons_self
    obtain ⟨ns, rfl, hn⟩ := ints_of (vs := vs) fun v hv => h v (List.mem_cons_of_mem _ hv)
    exact ⟨z :: ns, rfl, fun y hy => (List.mem_cons.mp hy).elim (fun e => by subst e; exact hz) (hn y)⟩
/-- a roll as an expression -/
theorem roll_e {i k : Nat} {o : MO} {t : Int} {ρ : Ro} {e : EM} (hi : ρ[i]? = some (some (.loc n))) (hv : e ρ M = some (.ok (.int t), M)) (hm : M[n]? = some o) (ho : C.DiceO k o) (hk : k < 2 ^ 62) (t0 : 0 < t) (t1 : t < 1073741824) :
    ∃ r o', eCall C.roll (aCons (eVar i) (aCons e aNil)) ρ M = some (.ok (.int r), M.set n o') ∧ 0 ≤ r ∧ r < t ∧ C.DiceO (k + 1) o' := by
  obtain ⟨r, o', h1, h2, h3, h4⟩ := C.roll_ok hm ho hk t0 t1
  exact ⟨r, o', by simp [hi, hv, h1], h2, h3, h4⟩
end
end G
end
section
set_option linter.all false
set_option maxHeartbeats 4000000
/-! # tools: rows of whole numbers, rising rows, tests that are trimmed -/
namespace G
open PySem PySem.Spec PyProof.Rows L2
section
variable {ρ : Ro} {M K : Ms} {d : D} {e : EM} {t : TM}
theorem ttr_fl {b : Bool} (h : t ρ M = some (.ok b, M ++ K)) : tTr t ρ M = some (.ok b, M) := by
  unfold tTr
  rw [h]
  dsimp only
  rw [trim_fl rfl]
theorem seqAt_lt {n : Nat} {l : List D} (h : seqAt M n = some l) : n < M.length := by
  apply Nat.lt_of_not_le
  intro z
  unfold seqAt at h
  rw [List.getElem?_eq_none z] at h
  cases h
theorem ix_one {n : Nat} {l : List D} (h : seqAt M n = some l) : Src.ix ⟨l, [(n, l)]⟩ M := fun p hp => by
  rw [List.mem_singleton] at hp
  subst hp
  exact ⟨seqAt_lt h, h⟩
theorem sq_app {n : Nat} {l : List D} (h : seqAt M n = some l) : seqAt (M ++ K) n = some l := by
  rw [seqAt_app (seqAt_lt h), h]
theorem cut_from {α : Type} {l : List α} {k : Nat} : cutD l (some (k : Nat)) none = l.drop k := by
  unfold cutD
  have h1 : HT.sIx l.length 0 (some ((k : Nat) : Int)) = min k l.length := by
    unfold HT.sIx
    simp
    omega
  have h2 : HT.sIx l.length l.length none = l.length := rfl
  rw [h1, h2]
  by_cases h : k ≤ l.length
  · rw [Nat.min_eq_left h, List.take_of_length_le (by simp)]
  · rw [Nat.min_eq_right (by omega), Nat.sub_self, List.take_zero, List.drop_eq_nil_of_le (by omega)]
theorem cut_to {α : Type} {l : List α} {k : Nat} : cutD l none (some (k : Nat)) = l.take k := by
  unfold cutD
  have h1 : HT.sIx l.length 0 none = 0 := rfl
  have h2 : HT.sIx l.length l.length (some ((k : Nat) : Int)) = min k l.length := by
    unfold HT.sIx
    simp
    omega
  rw [h1, h2, List.drop_zero, Nat.sub_zero]
  by_cases h : k ≤ l.length
  · rw [Nat.min_eq_left h]
  · rw [Nat.min_eq_right (by omega), List.take_of_length_le (by omega), List.take_of_length_le (by omega)]
@[simp] theorem sl_tup {l : List D} {a b : Option Int} : dSl (.tup l) a b M = some (.ok (.tup (cutD l a b)), M) := rfl
/-! ### rising rows -/
def risB (cs : List Int) : Bool := (cs.zip cs.tail).all fun p => decide (p.1 < p.2)
theorem risB_iff : ∀ {cs : List Int}, risB cs = true ↔ cs.Pairwise (· < ·)
  | [] => by simp [risB]
  | [x] => by simp [risB]
  | x :: y :: r => by
    have ih := risB_iff (cs := y :: r)
    have e : risB (x :: y :: r) = (decide (x < y) && risB (y :: r)) := rfl
    rw [e, Bool.and_eq_true, ih, decide_eq_true_eq, List.pairwise_cons (a := x)]
    constructor
    · rintro ⟨h1, h2⟩
      refine ⟨fun z hz => ?_, h2⟩
      rcases List.mem_cons.mp hz with q | q
      · subst q; exact h1
      · have := (List.pairwise_cons.mp h2).1 z q
        omega
    · rintro ⟨h1, h2⟩
      exact ⟨h1 y List.mem_cons_self, h2⟩
theorem zip_ints (cs ds : List Int) : zipD (cs.map D.int) (ds.map D.int) = (cs.zip ds).map fun p => D.tup [.int p.1, .int p.2] := by
  unfold zipD
  rw [List.zip_map, List.map_map]
  rfl
/-- all([one < two for one, two in zip(v, v[1:])]) -/
theorem rise_e {i a b : Nat} {cs : List Int} (hi : ρ[i]? = some (some (.tup (cs.map D.int)))) (ha : a < ρ.length) (hb : b < ρ.length) (hab : a ≠ b) (hl : cs.length ≤ 1000) :
    eTr (eB fAll (aCons (eLc [a, b] (iZp (aCons (eVar i) (aCons (eSl dSl (eVar i) (oSo (eC (.int 1))) oNo) aNil))) (.many [a, b]) tY (eOp dLt (eVar a) (eVar b))) aNil)) ρ M = some (.ok (.bl (risB cs)), M) := by
  have c1 : cutD (cs.map D.int) (some 1) none = cs.tail.map D.int := by
    rw [show (1 : Int) = ((1 : Nat) : Int) from rfl, cut_from, List.drop_one, List.map_tail]
  have h := all_comp (own := [a, b]) (im := iZp (aCons (eVar i) (aCons (eSl dSl (eVar i) (oSo (eC (.int 1))) oNo) aNil))) (tg := .many [a, b]) (e := eOp dLt (eVar a) (eVar b)) (ρ := ρ) (M := M) (l := cs.zip cs.tail) (f := fun p => D.tup [.int p.1, .int p.2]) (gd := []) (p := fun p => decide (p.1 < p.2))
    (by simp [hi, c1]; rw [← List.map_tail, zip_ints]) Src.ix_nil (size_ge (by rw [List.length_zip]; omega)) (fun p hp => ⟨((wipeR ρ [a, b]).set a (some (.int p.1))).set b (some (.int p.2)), rfl, fun k => by
      have e1 : (((wipeR ρ [a, b]).set a (some (.int p.1))).set b (some (.int p.2)))[a]? = some (some (.int p.1)) := by
        rw [List.getElem?_set_ne (Ne.symm hab), List.getElem?_set_self (by simp; exact ha)]
      have e2 : (((wipeR ρ [a, b]).set a (some (.int p.1))).set b (some (.int p.2)))[b]? = some (some (.int p.2)) := by
        rw [List.getElem?_set_self (by simp; exact hb)]
      simp only [ev_op, ev_var, e1, e2, bnd_ok, lt_ii]⟩)
  exact h
/-- one number less than another: the least and the greatest of a row -/
theorem span_le {n : Int} {r : List Int} {w : Int} : r.foldl max n - r.foldl min n ≤ w ↔ ∀ x ∈ n :: r, ∀ y ∈ n :: r, y - x ≤ w := by
  have h1 := foldl_min_le r n
  have h2 := foldl_min_mem r n
  have h3 := foldl_max_ge r n
  have h4 := foldl_max_mem r n
  constructor
  · intro h x hx y hy
    have a1 : r.foldl min n ≤ x := by
      rcases List.mem_cons.mp hx with e | e
      · rw [e]; exact h1.1
      · exact h1.2 _ e
    have a2 : y ≤ r.foldl max n := by
      rcases List.mem_cons.mp hy with e | e
      · rw [e]; exact h3.1
      · exact h3.2 _ e
    omega
  · intro h
    exact h _ h2 _ h4
end
/-! ### places, rows given as tuples or as lists -/
theorem atI_get {α : Type} {l : List α} {k : Nat} {d : α} (h : l[k]? = some d) : atI l ((k : Nat) : Int) = some d := by
  have hk := (List.getElem?_eq_some_iff.mp h).1
  unfold atI ixN
  rw [if_pos (by omega), if_pos (by omega)]
  simpa using h
theorem numD_drop' {l : List D} {i : Nat} (h : i < l.length) : (numD l).drop i = .tup [.int (i : Nat), l[i]] :: (numD l).drop (i + 1) := by
  rw [List.drop_eq_getElem_cons (by rw [numD_len]; exact h)]
  congr 1
  obtain ⟨x, h1, h2⟩ := numD_get (l := l) (i := i) (List.getElem?_eq_getElem (by rw [numD_len]; exact h))
  rw [List.getElem?_eq_getElem h] at h1
  cases h1
  exact h2
theorem numD_nil' {l : List D} {i : Nat} (h : l.length ≤ i) : (numD l).drop i = [] := List.drop_eq_nil_of_le (by rw [numD_len]; exact h)
/-- a row in a tuple or in a list -/
def Row (M : Ms) (d : D) (l : List D) : Prop := d = .tup l ∨ ∃ n, d = .loc n ∧ seqAt M n = some l
section
variable {ρ : Ro} {M M1 K : Ms} {d : D} {e : EM} {l : List D}
theorem Row.app (h : Row M d l) : Row (M ++ K) d l := by
  rcases h with h | ⟨n, h1, h2⟩
  · exact .inl h
  · exact .inr ⟨n, h1, sq_app h2⟩
theorem Row.it (h : Row M d l) : ∃ gd, Src.ix ⟨l, gd⟩ M ∧ ∀ (e : EM) (ρ : Ro) (K : Ms), e ρ (M ++ K) = some (.ok d, M ++ K) → iLst e ρ (M ++ K) = some (.ok ⟨l, gd⟩, M ++ K) := by
  rcases h with rfl | ⟨n, rfl, h2⟩
  · exact ⟨[], Src.ix_nil, fun e ρ K he => by simp [he]⟩
  · exact ⟨[(n, l)], ix_one h2, fun e ρ K he => by simp [he, sq_app h2]⟩
theorem ix_app {s : Src} (h : s.ix M) : s.ix (M ++ K) := fun p hp => by
  obtain ⟨h1, h2⟩ := h p hp
  exact ⟨by rw [List.length_append]; omega, sq_app h2⟩
/-- .. over what a call makes -/
theorem comp_filter2 {α : Type} {own : List Nat} {im : IM} {tg : Tgt} {t : TM} {l : List α} {f v : α → D} {gd : List (Nat × List D)} {p : α → Bool} (h0 : im ρ M = some (.ok ⟨l.map f, gd⟩, M1)) (hix : Src.ix ⟨l.map f, gd⟩ M1) (hl : l.length ≤ sizeLine)
    (h : ∀ a ∈ l, ∃ ρ2, tg.go (f a) (wipeR ρ own) = some ρ2 ∧ ∀ k, t ρ2 (M1 ++ [.lst k]) = some (.ok (p a), M1 ++ [.lst k]) ∧ (p a = true → e ρ2 (M1 ++ [.lst k]) = some (.ok (v a), M1 ++ [.lst k]))) :
    eLc own im tg t e ρ M = some (.ok (.loc M1.length), M1 ++ [.lst ((l.filter p).map v)]) := by
  have := comp_filter (own := own) (im := fun _ M => some (.ok ⟨l.map f, gd⟩, M)) (tg := tg) (t := t) (e := e) (ρ := ρ) (M := M1) (l := l) (f := f) (v := v) (gd := gd) (p := p) rfl hix hl h
  rw [ev_lc] at this ⊢
  rw [h0]
  exact this
theorem fin_open {o : MO} {n : Nat} (hl : M.length ≤ n) (hk : (M ++ K)[n]? = some o) (ho : o.cl M.length = false) : finF M (some (.rt (.loc n), ρ, M ++ K)) = some (.ok (.loc n), M ++ K) := by
  have hc : D.cl M.length (.loc n) = false := by
    show decide (n < M.length) = false
    rw [decide_eq_false_iff_not]
    omega
  have : trim M (.loc n) (M ++ K) = (.loc n, M ++ K) := by
    unfold trim
    rw [okOld_app, if_pos rfl, hc, if_neg Bool.false_ne_true]
    simp only [hk, ho, if_neg Bool.false_ne_true]
  unfold finF
  dsimp only
  rw [this]
end
/-! ### calls, their functions left alone -/
section
variable {ρ : Ro} {M M1 M2 M3 : Ms} {x y z : D} {e1 e2 e3 : EM} {f : Fn} {r : Ot D}
theorem call0 (k : f [] M = r) : eCall f aNil ρ M = r := by
  simpa using k
theorem call1 (h1 : e1 ρ M = some (.ok x, M1)) (k : f [x] M1 = r) : eCall f (aCons e1 aNil) ρ M = r := by
  simpa [h1] using k
theorem call2 (h1 : e1 ρ M = some (.ok x, M1)) (h2 : e2 ρ M1 = some (.ok y, M2)) (k : f [x, y] M2 = r) : eCall f (aCons e1 (aCons e2 aNil)) ρ M = r := by
  simpa [h1, h2] using k
theorem call3 (h1 : e1 ρ M = some (.ok x, M1)) (h2 : e2 ρ M1 = some (.ok y, M2)) (h3 : e3 ρ M2 = some (.ok z, M3)) (k : f [x, y, z] M3 = r) : eCall f (aCons e1 (aCons e2 (aCons e3 aNil))) ρ M = r := by
  simpa [h1, h2, h3] using k
theorem bcall1 (h1 : e1 ρ M = some (.ok x, M1)) (k : f [x] M1 = r) : eB f (aCons e1 aNil) ρ M = r := by
  simpa [h1] using k
theorem kcall2 {g : List D → List D → List D} {l : List D} (h1 : e1 ρ M = some (.ok x, M1)) (h2 : e2 ρ M1 = some (.ok y, M2)) (hg : g [] [x, y] = l) (k : f l M2 = r) : kCall f g aNil (aCons e1 (aCons e2 aNil)) ρ M = r := by
  simpa [h1, h2, hg] using k
theorem kcall3 {g : List D → List D → List D} {l : List D} (h1 : e1 ρ M = some (.ok x, M1)) (h2 : e2 ρ M1 = some (.ok y, M2)) (h3 : e3 ρ M2 = some (.ok z, M3)) (hg : g [] [x, y, z] = l) (k : f l M3 = r) : kCall f g aNil (aCons e1 (aCons e2 (aCons e3 aNil))) ρ M = r := by
  simpa [h1, h2, h3, hg] using k
theorem op2 {g : DOp} (h1 : e1 ρ M = some (.ok x, M1)) (h2 : e2 ρ M1 = some (.ok y, M2)) (k : g x y M2 = r) : eOp g e1 e2 ρ M = r := by
  simpa [h1, h2] using k
theorem var_e {i : Nat} (h : ρ[i]? = some (some x)) : eVar i ρ M = some (.ok x, M) := by
  simp [h]
end
theorem callF_eq {np n : Nat} {b : SM} {ds : List D} {M : Ms} (h : ds.length = np) : callF np n b ds M = finF M (b (ds.map some ++ List.replicate n none) M) := by
  unfold callF
  rw [if_pos h]
/-! ### draws as expressions -/
section
variable {ρ : Ro} {M K : Ms} {n i k : Nat} {o od : MO} {e me : EM} {d : D} {im : IM}
theorem setset_app {o1 o2 : MO} (h : n < M.length) : (M.set n o1 ++ K).set n o2 = M.set n o2 ++ K := by
  rw [List.set_append_left _ _ (by simpa using h), List.set_set]
theorem setget_app (h : n < M.length) : (M.set n o ++ K)[n]? = some o := by
  rw [List.getElem?_append_left (by simpa using h), List.getElem?_set_self h]
/-- a roll, things laid behind -/
theorem roll_in {t : Int} (hn : n < M.length) (hi : ρ[i]? = some (some (.loc n))) (hv : e ρ (M.set n od ++ K) = some (.ok (.int t), M.set n od ++ K)) (ho : C.DiceO k od) (hk : k < 2 ^ 62) (t0 : 0 < t) (t1 : t < 1073741824) :
    ∃ r o', eCall C.roll (aCons (eVar i) (aCons e aNil)) ρ (M.set n od ++ K) = some (.ok (.int r), M.set n o' ++ K) ∧ 0 ≤ r ∧ r < t ∧ C.DiceO (k + 1) o' := by
  obtain ⟨r, o', h1, h2, h3, h4⟩ := roll_e (M := M.set n od ++ K) hi hv (setget_app hn) ho hk t0 t1
  rw [setset_app hn] at h1
  exact ⟨r, o', h1, h2, h3, h4⟩
theorem pick_e {l : List D} (hi : ρ[i]? = some (some (.loc n))) (hm : M[n]? = some o) (ho : C.DiceO k o) (hk : k < 2 ^ 62) (hl : me ρ M = some (.ok (.loc M.length), M ++ [.lst l])) (l0 : l ≠ []) (l1 : l.length < 1000) (hf : D.flats l = true) :
    ∃ d o', eTr (eCall C.pick (aCons (eVar i) (aCons me aNil))) ρ M = some (.ok d, M.set n o') ∧ d ∈ l ∧ C.DiceO (k + 1) o' := by
  have hn := (List.getElem?_eq_some_iff.mp hm).1
  obtain ⟨d, o', h1, h2, h3⟩ := C.pick_loc (M := M ++ [.lst l]) (n := n) (m := M.length) (l := l) (by rw [List.getElem?_append_left hn]; exact hm) ho hk seq_last (by omega) l0 (by omega) hf
  rw [set_app hn] at h1
  refine ⟨d, o', tr_set (call2 (var_e hi) hl h1) ?_ h3.cl, h2, h3⟩
  rw [D.flats_all, List.all_eq_true] at hf
  exact hf d h2
theorem lc_draws {c j : Nat} (P : D → Prop) (h0 : im ρ M = some (.ok ⟨rngD 0 c, []⟩, M.set n od)) (hn : n < M.length) (ho : C.DiceO k od) (hc : c ≤ 1000)
    (he : ∀ (z : D) (k' : Nat) (od : MO) (acc : List D), C.DiceO k' od → k' ≤ k + c * j → ∃ v od', e ((wipeR ρ [i]).set i (some z)) (M.set n od ++ [.lst acc]) = some (.ok v, M.set n od' ++ [.lst acc]) ∧ C.DiceO (k' + j) od' ∧ P v) :
    ∃ vs od', eLc [i] im (.one i) tY e ρ M = some (.ok (.loc M.length), M.set n od' ++ [.lst vs]) ∧ C.DiceO (k + c * j) od' ∧ vs.length = c ∧ ∀ v ∈ vs, P v := by
  obtain ⟨vs, od', h1, h2⟩ := draws (ρ := wipeR ρ [i]) P hn ho hc he
  refine ⟨vs, od', ?_, h2⟩
  rw [ev_lc, h0]
  simp only [bnd_ok, List.length_set]
  exact h1
theorem tup_draws {c j : Nat} (P : D → Prop) (hP : ∀ v, P v → v.flat = true) (h0 : im ρ M = some (.ok ⟨rngD 0 c, []⟩, M.set n od)) (hn : n < M.length) (ho : C.DiceO k od) (hc : c ≤ 1000)
    (he : ∀ (z : D) (k' : Nat) (od : MO) (acc : List D), C.DiceO k' od → k' ≤ k + c * j → ∃ v od', e ((wipeR ρ [i]).set i (some z)) (M.set n od ++ [.lst acc]) = some (.ok v, M.set n od' ++ [.lst acc]) ∧ C.DiceO (k' + j) od' ∧ P v) :
    ∃ vs od', eTr (eB fTuple (aCons (eLc [i] im (.one i) tY e) aNil)) ρ M = some (.ok (.tup vs), M.set n od') ∧ C.DiceO (k + c * j) od' ∧ vs.length = c ∧ ∀ v ∈ vs, P v := by
  obtain ⟨vs, od', h1, h2, h3, h4⟩ := lc_draws P h0 hn ho hc he
  refine ⟨vs, od', tr_set (K := [.lst vs]) (bcall1 h1 (tuple_loc ?_)) ?_ h2.cl, h2, h3, h4⟩
  · have := seq_last (M := M.set n od') (l := vs)
    rwa [List.length_set] at this
  · rw [flat_t, D.flats_all, List.all_eq_true]
    exact fun v hv => hP v (h4 v hv)
theorem fin_set (h : d.flat = true) (ho : o.cl M.length = true) : finF M (some (.rt d, ρ, M.set n o ++ K)) = some (.ok d, M.set n o) := by
  unfold finF
  dsimp only
  rw [trim_set h ho]
end
@[simp] theorem ne_bb {a b : Bool} {M : Ms} : dNe (.bl a) (.bl b) M = some (.ok (.bl (!decide (a = b))), M) := by
  rw [ne_ff (by rfl) (by rfl) (by rfl) (by rfl)]
  cases a <;> cases b <;> rfl
@[simp] theorem eq_bb {a b : Bool} {M : Ms} : dEq (.bl a) (.bl b) M = some (.ok (.bl (decide (a = b))), M) := by
  rw [eq_ff (by rfl) (by rfl) (by rfl) (by rfl)]
  cases a <;> cases b <;> rfl
/-- a roll from a store whose dice were set -/
theorem roll_at {ρ : Ro} {M : Ms} {n i k : Nat} {od : MO} {e : EM} {t : Int} (hn : n < M.length) (hi : ρ[i]? = some (some (.loc n))) (hv : e ρ (M.set n od) = some (.ok (.int t), M.set n od)) (ho : C.DiceO k od) (hk : k < 2 ^ 62) (t0 : 0 < t) (t1 : t < 1073741824) :
    ∃ r o', eCall C.roll (aCons (eVar i) (aCons e aNil)) ρ (M.set n od) = some (.ok (.int r), M.set n o') ∧ 0 ≤ r ∧ r < t ∧ C.DiceO (k + 1) o' := by
  obtain ⟨r, o', h1, h2, h3, h4⟩ := roll_e (M := M.set n od) hi hv (set_get hn) ho hk t0 t1
  rw [List.set_set] at h1
  exact ⟨r, o', h1, h2, h3, h4⟩
theorem rn1_of {m : AM} {ρ : Ro} {M M1 : Ms} {c : Nat} {j : Int} (hm : m ρ M = some (.ok [.int j], M1)) (hj : j = (c : Nat)) (h2 : c ≤ 1000000000) : iRn1 m ρ M = some (.ok ⟨rngD 0 c, []⟩, M1) := by
  rw [rn1 hm (by omega) (by omega), hj, Int.toNat_natCast]
theorem arg1 {e : EM} {ρ : Ro} {M M1 : Ms} {x : D} (h : e ρ M = some (.ok x, M1)) : aCons e aNil ρ M = some (.ok [x], M1) := by
  simp [h]
theorem gp_21 {x y : D} : gP 0 2 [1, 0] ([] : List D) [x, y] = [y, x] := rfl
theorem gp_321 {x y z : D} : gP 0 3 [2, 1, 0] ([] : List D) [x, y, z] = [z, y, x] := rfl
theorem gp_312 {x y z : D} : gP 0 3 [2, 0, 1] ([] : List D) [x, y, z] = [z, x, y] := rfl
theorem an_bl {ρ : Ro} {M : Ms} {e1 e2 : EM} {a b : Bool} (h1 : e1 ρ M = some (.ok (.bl a), M)) (h2 : a = true → e2 ρ M = some (.ok (.bl b), M)) : eAn e1 e2 ρ M = some (.ok (.bl (a && b)), M) := by
  rw [ev_an, h1, bnd_ok]
  cases a with
  | true =>
    rw [Bool.true_and]
    exact h2 rfl
  | false => rfl
end G
end
section
set_option linter.all false
set_option maxHeartbeats 4000000
/-! # tools: data compared -/
namespace G
open PySem PySem.Spec PyProof.Rows L2
mutual
/-- blanks, whole numbers, texts, tuples of such -/
def D.nb : D → Bool
  | .non => true
  | .bl _ => false
  | .int _ => true
  | .str s => s.all (· < 0x110000)
  | .nam _ => false
  | .tup l => D.nbs l
  | .loc _ => false
def D.nbs : List D → Bool
  | [] => true
  | x :: l => D.nb x && D.nbs l
end
mutual
theorem D.nb_flat : ∀ d : D, d.nb = true → d.flat = true
  | .non, _ => rfl
  | .bl _, h => by cases h
  | .int _, _ => rfl
  | .str _, _ => rfl
  | .nam _, h => by cases h
  | .tup l, h => by
    rw [D.nb] at h
    exact D.nbs_flat l h
  | .loc _, h => by cases h
theorem D.nbs_flat : ∀ l : List D, D.nbs l = true → D.flats l = true
  | [], _ => rfl
  | x :: l, h => by
    rw [D.nbs, Bool.and_eq_true] at h
    rw [flats_c, D.nb_flat x h.1, D.nbs_flat l h.2]
    rfl
end
mutual
theorem D.nb_lay : ∀ d : D, d.nb = true → PyData.canLay0 d.py = true
  | .non, _ => by simp [D.py, PyData.canLay0]
  | .bl _, h => by cases h
  | .int _, _ => by simp [D.py, PyData.canLay0]
  | .str s, h => by
    rw [D.nb] at h
    rw [D.py, PyData.canLay0, PyData.strOk, ← Array.all_toList]
    exact h
  | .nam _, h => by cases h
  | .tup l, h => by
    rw [D.nb] at h
    rw [D.py, PyData.canLay0]
    exact D.nbs_lay l h
  | .loc _, h => by cases h
theorem D.nbs_lay : ∀ l : List D, D.nbs l = true → PyData.canLayAll0 (D.pys l) = true
  | [], _ => by simp [D.pys, PyData.canLayAll0]
  | x :: l, h => by
    rw [D.nbs, Bool.and_eq_true] at h
    rw [D.pys, PyData.canLayAll0, D.nb_lay x h.1, D.nbs_lay l h.2]
    rfl
end
mutual
theorem eqv_nb : ∀ x y : D, x.nb = true → y.nb = true → PyData.eqv x.py y.py = D.beq x y
  | .non, y, _, hy => by cases y <;> first | rfl | (cases hy; done) | simp [D.py, PyData.eqv, D.beq]
  | .bl _, y, h, _ => by cases h
  | .int a, y, _, hy => by cases y <;> first | rfl | (cases hy; done) | simp [D.py, PyData.eqv, D.beq]
  | .str s, y, _, hy => by
    cases y with
    | str u =>
      rw [D.py, D.py, PyData.eqv, D.beq]
      exact str_beq
    | loc _ => cases hy
    | nam _ => cases hy
    | bl _ => cases hy
    | _ => simp [D.py, PyData.eqv, D.beq]
  | .nam _, y, h, _ => by cases h
  | .tup l, y, h, hy => by
    cases y with
    | nam _ => cases hy
    | tup k =>
      rw [D.nb] at h hy
      rw [D.py, D.py, PyData.eqv, D.beq]
      exact eqv_nbs l k h hy
    | loc _ => cases hy
    | bl _ => cases hy
    | _ => simp [D.py, PyData.eqv, D.beq]
  | .loc _, y, h, _ => by cases h
theorem eqv_nbs : ∀ x y : List D, D.nbs x = true → D.nbs y = true → PyData.eqvAll (D.pys x) (D.pys y) = D.beqs x y
  | [], [], _, _ => by simp [D.pys, PyData.eqvAll, D.beqs]
  | [], y :: k, _, _ => by simp [D.pys, PyData.eqvAll, D.beqs]
  | x :: l, [], _, _ => by simp [D.pys, PyData.eqvAll, D.beqs]
  | x :: l, y :: k, h, hy => by
    rw [D.nbs, Bool.and_eq_true] at h hy
    rw [D.pys, D.pys, PyData.eqvAll, D.beqs, eqv_nb x y h.1 hy.1, eqv_nbs l k h.2 hy.2]
end
def D.dp (d : D) : Nat := PyData.depth d.py
def D.dps (l : List D) : Nat := PyData.depthAll (D.pys l)
/-- can be compared -/
structure Cmp (d : D) : Prop where
  nb : d.nb = true
  dp : d.dp ≤ 64
section
variable {x y : D} {M : Ms} {l : List D}
theorem Cmp.shaped (h : Cmp x) : SeqAt.shaped x.py = true := by
  unfold SeqAt.shaped
  rw [D.nb_lay x h.nb, Bool.true_and, decide_eq_true_eq]
  exact h.dp
theorem beq_dec : D.beq x y = decide (x = y) := by
  by_cases h : x = y
  · rw [decide_eq_true h]
    exact (D.beq_iff x y).mpr h
  · rw [decide_eq_false h]
    cases hb : D.beq x y with
    | false => rfl
    | true => exact absurd ((D.beq_iff x y).mp hb) h
theorem eq_cmp (hx : Cmp x) (hy : Cmp y) : dEq x y M = some (.ok (.bl (decide (x = y))), M) := by
  rw [eq_ff (D.nb_flat x hx.nb) (D.nb_flat y hy.nb) hx.shaped hy.shaped, eqv_nb x y hx.nb hy.nb, beq_dec]
theorem ne_cmp (hx : Cmp x) (hy : Cmp y) : dNe x y M = some (.ok (.bl (!decide (x = y))), M) := by
  rw [ne_ff (D.nb_flat x hx.nb) (D.nb_flat y hy.nb) hx.shaped hy.shaped, eqv_nb x y hx.nb hy.nb, beq_dec]
theorem ne_same (hx : Cmp x) : dNe x x M = some (.ok (.bl false), M) := by
  rw [ne_cmp hx hx, decide_eq_true rfl]
  rfl
theorem eq_same (hx : Cmp x) : dEq x x M = some (.ok (.bl true), M) := by
  rw [eq_cmp hx hx, decide_eq_true rfl]
theorem dp_non : D.non.dp ≤ 1 := by simp [D.dp, D.py, PyData.depth]
theorem dp_int {i : Int} : (D.int i).dp ≤ 1 := by simp [D.dp, D.py, PyData.depth]
theorem dp_str {s : List Nat} : (D.str s).dp ≤ 1 := by simp [D.dp, D.py, PyData.depth]
theorem dps_le {n : Nat} : ∀ {l : List D}, (∀ d ∈ l, d.dp ≤ n) → D.dps l ≤ n
  | [], _ => by simp [D.dps, D.pys, PyData.depthAll]
  | x :: l, h => by
    have h1 := h x List.mem_cons_self
    have h2 := dps_le (l := l) fun d hd => h d (List.mem_cons_of_mem _ hd)
    unfold D.dps at h2 ⊢
    rw [D.pys, PyData.depthAll]
    unfold D.dp at h1
    omega
theorem dp_tup {n : Nat} (h : ∀ d ∈ l, d.dp ≤ n) : (D.tup l).dp ≤ n + 1 := by
  have := dps_le h
  unfold D.dp D.dps at *
  rw [D.py, PyData.depth]
  omega
theorem nbs_all : D.nbs l = l.all D.nb := by
  induction l with
  | nil => simp [D.nbs]
  | cons x l ih => rw [D.nbs, ih, List.all_cons]
theorem nb_tup (h : ∀ d ∈ l, d.nb = true) : (D.tup l).nb = true := by
  rw [D.nb, nbs_all, List.all_eq_true]
  exact h
theorem Cmp.ints {ns : List Int} : Cmp (.tup (ns.map D.int)) := ⟨nb_tup fun d hd => by
  obtain ⟨i, _, rfl⟩ := List.mem_map.mp hd
  rfl, Nat.le_trans (dp_tup (n := 1) fun d hd => by
  obtain ⟨i, _, rfl⟩ := List.mem_map.mp hd
  exact dp_int) (by decide)⟩
theorem Cmp.int {i : Int} : Cmp (.int i) := ⟨rfl, Nat.le_trans dp_int (by decide)⟩
theorem Cmp.non : Cmp .non := ⟨rfl, Nat.le_trans dp_non (by decide)⟩
end
end G
end
section
set_option Elab.async false
set_option linter.all false
set_option maxRecDepth 100000
set_option maxHeartbeats 8000000
/-! # the walk: each def does what its plain reading says (printed by pr.py) -/
namespace K24
open PySem PySem.Spec PyProof.Rows L2 G
abbrev P : Program := PySem.Challenge.pw_crosslaid_k24_whole_streaks_and_rows_tha
def top (i : Nat) : Stmt := P.main.body.getD i (.Pass ⟨0, 0, 0, 0⟩)
abbrev s_demand : Stmt := top 10
abbrev s_is_in : Stmt := top 11
abbrev s_is_tuple : Stmt := top 12
abbrev s_is_signs : Stmt := top 13
abbrev s_is_value : Stmt := top 14
abbrev s_is_name : Stmt := top 15
abbrev s_are_names : Stmt := top 16
abbrev s_is_row : Stmt := top 20
abbrev s_is_table : Stmt := top 21
abbrev s_demand_table : Stmt := top 22
abbrev s_at_name : Stmt := top 23
abbrev s_demand_column : Stmt := top 25
abbrev s_streaks : Stmt := top 26
abbrev s_is_more : Stmt := top 28
abbrev s_rising : Stmt := top 27
abbrev s_is_rising : Stmt := top 29
abbrev s__law_dice : Stmt := top 31
abbrev s__law_roll : Stmt := top 32
abbrev s__law_pick : Stmt := top 33
abbrev s__law_refused : Stmt := top 34
abbrev s__law_value : Stmt := top 35
abbrev s__law_choices : Stmt := top 36
abbrev s__law_rises : Stmt := top 37
abbrev s__law_streaks : Stmt := top 38
abbrev s__law_best : Stmt := top 39
abbrev s_law : Stmt := top 40
/-- addresses -/
structure Ad where
  f_demand : Addr
  d_demand : FuncData
  f_is_in : Addr
  d_is_in : FuncData
  f_is_tuple : Addr
  d_is_tuple : FuncData
  f_is_signs : Addr
  d_is_signs : FuncData
  f_is_value : Addr
  d_is_value : FuncData
  f_is_name : Addr
  d_is_name : FuncData
  f_are_names : Addr
  d_are_names : FuncData
  f_is_row : Addr
  d_is_row : FuncData
  f_is_table : Addr
  d_is_table : FuncData
  f_demand_table : Addr
  d_demand_table : FuncData
  f_at_name : Addr
  d_at_name : FuncData
  f_demand_column : Addr
  d_demand_column : FuncData
  f_streaks : Addr
  d_streaks : FuncData
  f_is_more : Addr
  d_is_more : FuncData
  f_rising : Addr
  d_rising : FuncData
  f_is_rising : Addr
  d_is_rising : FuncData
  f__law_dice : Addr
  d__law_dice : FuncData
  f__law_roll : Addr
  d__law_roll : FuncData
  f__law_pick : Addr
  d__law_pick : FuncData
  f__law_refused : Addr
  d__law_refused : FuncData
  f__law_value : Addr
  d__law_value : FuncData
  f__law_choices : Addr
  d__law_choices : FuncData
  f__law_rises : Addr
  d__law_rises : FuncData
  f__law_streaks : Addr
  d__law_streaks : FuncData
  f__law_best : Addr
  d__law_best : FuncData
  f_law : Addr
  d_law : FuncData
  e_BadArgument : Addr
  i_BadArgument : Addr
  tabs : List (Addr × Str)
def wd (K : PySem.W.Frag) (A : Ad) : Wd := ⟨K, A.tabs, fun _ => 0, fun n => match n with | 0 => A.e_BadArgument | _ => 0⟩
structure Txt (K : PySem.W.Frag) (mg : Str → Option Value) (A : Ad) : Prop where
  n_abs : mg "abs" = none
  n_all : mg "all" = none
  n_bool : mg "bool" = none
  n_enumerate : mg "enumerate" = none
  n_int : mg "int" = none
  n_isinstance : mg "isinstance" = none
  n_len : mg "len" = none
  n_list : mg "list" = none
  n_max : mg "max" = none
  n_min : mg "min" = none
  n_range : mg "range" = none
  n_set : mg "set" = none
  n_str : mg "str" = none
  n_tuple : mg "tuple" = none
  n_zip : mg "zip" = none
  c_LEAST : ∃ t, mg "LEAST" = some (.int (-1000000) t)
  c_LETTERS : ∃ t, mg "LETTERS" = some (.str "abcdefghijklmnopqrstuvwxyz" t)
  c_MOST : ∃ t, mg "MOST" = some (.int 1000000 t)
  c_MOST_COLUMNS : ∃ t, mg "MOST_COLUMNS" = some (.int 8 t)
  c_MOST_NAME : ∃ t, mg "MOST_NAME" = some (.int 10 t)
  c_MOST_ROWS : ∃ t, mg "MOST_ROWS" = some (.int 200 t)
  c_MOST_SIGNS : ∃ t, mg "MOST_SIGNS" = some (.int 12 t)
  c_SIGNS : ∃ t, mg "SIGNS" = some (.str " !\"#$&'()*+,-./0123456789:;<=>?@ABCDEFGHIJKLMNOPQRSTUVWXYZ[\\]^_`abcdefghijklmnopqrstuvwxyz{|}~" t)
  e_BadArgument : SupC P K mg A.e_BadArgument A.i_BadArgument (xf 0) "name"
  m_BadArgument : mg "BadArgument" = some (.ref A.e_BadArgument)
  x_BadArgument : XfC K A.e_BadArgument
  q_BadArgument : PySem.W.exmOne K (.ref A.e_BadArgument) (.ref A.e_BadArgument) = some true
  d_demand : Dn K mg "demand" s_demand ["is_good", "name"] A.f_demand A.d_demand
  d_is_in : Dn K mg "is_in" s_is_in ["value", "low", "high"] A.f_is_in A.d_is_in
  d_is_tuple : Dn K mg "is_tuple" s_is_tuple ["value", "least", "most"] A.f_is_tuple A.d_is_tuple
  d_is_signs : Dn K mg "is_signs" s_is_signs ["value", "least", "most"] A.f_is_signs A.d_is_signs
  d_is_value : Dn K mg "is_value" s_is_value ["value"] A.f_is_value A.d_is_value
  d_is_name : Dn K mg "is_name" s_is_name ["value"] A.f_is_name A.d_is_name
  d_are_names : Dn K mg "are_names" s_are_names ["value", "least", "most"] A.f_are_names A.d_are_names
  d_is_row : Dn K mg "is_row" s_is_row ["value", "many"] A.f_is_row A.d_is_row
  d_is_table : Dn K mg "is_table" s_is_table ["value"] A.f_is_table A.d_is_table
  d_demand_table : Dn K mg "demand_table" s_demand_table ["table"] A.f_demand_table A.d_demand_table
  d_at_name : Dn K mg "at_name" s_at_name ["row", "names", "name"] A.f_at_name A.d_at_name
  d_demand_column : Dn K mg "demand_column" s_demand_column ["table", "name"] A.f_demand_column A.d_demand_column
  d_streaks : Dn K mg "streaks" s_streaks ["table", "name"] A.f_streaks A.d_streaks
  d_is_more : Dn K mg "is_more" s_is_more ["value", "other"] A.f_is_more A.d_is_more
  d_rising : Dn K mg "rising" s_rising ["table", "name"] A.f_rising A.d_rising
  d_is_rising : Dn K mg "is_rising" s_is_rising ["table", "name", "value"] A.f_is_rising A.d_is_rising
  d__law_dice : Dn K mg "_law_dice" s__law_dice ["script", "spot"] A.f__law_dice A.d__law_dice
  d__law_roll : Dn K mg "_law_roll" s__law_roll ["dice", "total"] A.f__law_roll A.d__law_roll
  d__law_pick : Dn K mg "_law_pick" s__law_pick ["dice", "things"] A.f__law_pick A.d__law_pick
  d__law_refused : Dn K mg "_law_refused" s__law_refused ["call"] A.f__law_refused A.d__law_refused
  d__law_value : Dn K mg "_law_value" s__law_value ["dice", "width"] A.f__law_value A.d__law_value
  d__law_choices : Dn K mg "_law_choices" s__law_choices ["many"] A.f__law_choices A.d__law_choices
  d__law_rises : Dn K mg "_law_rises" s__law_rises ["values", "choice"] A.f__law_rises A.d__law_rises
  d__law_streaks : Dn K mg "_law_streaks" s__law_streaks ["values"] A.f__law_streaks A.d__law_streaks
  d__law_best : Dn K mg "_law_best" s__law_best ["values"] A.f__law_best A.d__law_best
  d_law : Dn K mg "law" s_law ["script"] A.f_law A.d_law
section
variable {w : World} {K : PySem.W.Frag} {mg : Str → Option Value} {base : Heap} {A : Ad}
theorem kp_is_rising_value_name_table (T : Txt K mg A) : KPerm K A.d_is_rising ["table", "name", "value"] ["value", "name", "table"] (gP 0 3 [2, 1, 0]) := kperm_of T.d_is_rising.fn (by simp) fun _ _ _ _ _ _ us ws hu hw => match us, ws, hu, hw with | [], [_, _, _], _, _ => rfl
theorem kp_rising_name_table (T : Txt K mg A) : KPerm K A.d_rising ["table", "name"] ["name", "table"] (gP 0 2 [1, 0]) := kperm_of T.d_rising.fn (by simp) fun _ _ _ _ _ _ us ws hu hw => match us, ws, hu, hw with | [], [_, _], _, _ => rfl
theorem kp_streaks_name_table (T : Txt K mg A) : KPerm K A.d_streaks ["table", "name"] ["name", "table"] (gP 0 2 [1, 0]) := kperm_of T.d_streaks.fn (by simp) fun _ _ _ _ _ _ us ws hu hw => match us, ws, hu, hw with | [], [_, _], _, _ => rfl
theorem sc_demand : FnScope ["is_good", "name"] ["is_good", "name"] (defScope s_demand) := ⟨rfl, rfl, rfl, by decide +kernel, rfl, by decide +kernel, by decide +kernel⟩
theorem sc_is_in : FnScope ["value", "low", "high"] ["value", "low", "high"] (defScope s_is_in) := ⟨rfl, rfl, rfl, by decide +kernel, rfl, by decide +kernel, by decide +kernel⟩
theorem sc_is_tuple : FnScope ["value", "least", "most"] ["value", "least", "most"] (defScope s_is_tuple) := ⟨rfl, rfl, rfl, by decide +kernel, rfl, by decide +kernel, by decide +kernel⟩
theorem sc_is_signs : FnScope ["value", "least", "most", "sign"] ["value", "least", "most"] (defScope s_is_signs) := ⟨rfl, rfl, rfl, by decide +kernel, rfl, by decide +kernel, by decide +kernel⟩
theorem sc_is_value : FnScope ["value"] ["value"] (defScope s_is_value) := ⟨rfl, rfl, rfl, by decide +kernel, rfl, by decide +kernel, by decide +kernel⟩
theorem sc_is_name : FnScope ["value", "sign"] ["value"] (defScope s_is_name) := ⟨rfl, rfl, rfl, by decide +kernel, rfl, by decide +kernel, by decide +kernel⟩
theorem sc_are_names : FnScope ["value", "least", "most", "one"] ["value", "least", "most"] (defScope s_are_names) := ⟨rfl, rfl, rfl, by decide +kernel, rfl, by decide +kernel, by decide +kernel⟩
theorem sc_is_row : FnScope ["value", "many", "one"] ["value", "many"] (defScope s_is_row) := ⟨rfl, rfl, rfl, by decide +kernel, rfl, by decide +kernel, by decide +kernel⟩
theorem sc_is_table : FnScope ["value", "row"] ["value"] (defScope s_is_table) := ⟨rfl, rfl, rfl, by decide +kernel, rfl, by decide +kernel, by decide +kernel⟩
theorem sc_demand_table : FnScope ["table"] ["table"] (defScope s_demand_table) := ⟨rfl, rfl, rfl, by decide +kernel, rfl, by decide +kernel, by decide +kernel⟩
theorem sc_at_name : FnScope ["row", "names", "name"] ["row", "names", "name"] (defScope s_at_name) := ⟨rfl, rfl, rfl, by decide +kernel, rfl, by decide +kernel, by decide +kernel⟩
theorem sc_demand_column : FnScope ["table", "name"] ["table", "name"] (defScope s_demand_column) := ⟨rfl, rfl, rfl, by decide +kernel, rfl, by decide +kernel, by decide +kernel⟩
theorem sc_streaks : FnScope ["table", "name", "found", "at", "row", "value"] ["table", "name"] (defScope s_streaks) := ⟨rfl, rfl, rfl, by decide +kernel, rfl, by decide +kernel, by decide +kernel⟩
theorem sc_is_more : FnScope ["value", "other"] ["value", "other"] (defScope s_is_more) := ⟨rfl, rfl, rfl, by decide +kernel, rfl, by decide +kernel, by decide +kernel⟩
theorem sc_rising : FnScope ["table", "name", "values", "row", "best", "at", "longer", "later", "found", "left"] ["table", "name"] (defScope s_rising) := ⟨rfl, rfl, rfl, by decide +kernel, rfl, by decide +kernel, by decide +kernel⟩
theorem sc_is_rising : FnScope ["table", "name", "value", "at", "one", "two", "cells", "cell"] ["table", "name", "value"] (defScope s_is_rising) := ⟨rfl, rfl, rfl, by decide +kernel, rfl, by decide +kernel, by decide +kernel⟩
theorem sc__law_dice : FnScope ["script", "spot", "own", "mixed", "cell"] ["script", "spot"] (defScope s__law_dice) := ⟨rfl, rfl, rfl, by decide +kernel, rfl, by decide +kernel, by decide +kernel⟩
theorem sc__law_roll : FnScope ["dice", "total", "found"] ["dice", "total"] (defScope s__law_roll) := ⟨rfl, rfl, rfl, by decide +kernel, rfl, by decide +kernel, by decide +kernel⟩
theorem sc__law_pick : FnScope ["dice", "things"] ["dice", "things"] (defScope s__law_pick) := ⟨rfl, rfl, rfl, by decide +kernel, rfl, by decide +kernel, by decide +kernel⟩
theorem sc__law_refused : FnScope ["call", "e"] ["call"] (defScope s__law_refused) := ⟨rfl, rfl, rfl, by decide +kernel, rfl, by decide +kernel, by decide +kernel⟩
theorem sc__law_value : FnScope ["dice", "width", "way"] ["dice", "width"] (defScope s__law_value) := ⟨rfl, rfl, rfl, by decide +kernel, rfl, by decide +kernel, by decide +kernel⟩
theorem sc__law_choices : FnScope ["many", "found", "at", "one"] ["many"] (defScope s__law_choices) := ⟨rfl, rfl, rfl, by decide +kernel, rfl, by decide +kernel, by decide +kernel⟩
theorem sc__law_rises : FnScope ["values", "choice", "own", "at", "value", "one", "two"] ["values", "choice"] (defScope s__law_rises) := ⟨rfl, rfl, rfl, by decide +kernel, rfl, by decide +kernel, by decide +kernel⟩
theorem sc__law_streaks : FnScope ["values", "found", "begin", "at"] ["values"] (defScope s__law_streaks) := ⟨rfl, rfl, rfl, by decide +kernel, rfl, by decide +kernel, by decide +kernel⟩
theorem sc__law_best : FnScope ["values", "best", "choice"] ["values"] (defScope s__law_best) := ⟨rfl, rfl, rfl, by decide +kernel, rfl, by decide +kernel, by decide +kernel⟩
theorem sc_law : FnScope ["script", "spot", "dice", "width", "values", "turn", "table", "at", "value", "told", "choice", "wrong", "own"] ["script"] (defScope s_law) := ⟨rfl, rfl, rfl, by decide +kernel, rfl, by decide +kernel, by decide +kernel⟩
theorem lam__law_refused {X : Cx} {w : WX} {c P' : Addr} {k : Nat} {params : Arguments} {body : Expr} {scope : Scope} {p lpos pos : Pos} {m : EM} (T : Txt X.K X.mg A) (TB : LamX.TabB X.base X.mg c P' ∧ (P', X.env.qual ++ "<lambda>") ∈ A.tabs ∧ ∀ q ∈ A.tabs, q.1 = P' → q.2 = X.env.qual ++ "<lambda>") (hcode : X.env.code = .ref c)
    (hr : Room (k + 2) X.A) (L : LamX.LamS X.env.scope scope) (hdef : defaultsOf params X.env = ([], [])) (hbind : ∀ (q : Str) (cl : List (Str × Addr)) (pm cv ctv : Value), bindArgs (PySem.W.kla_fn "<lambda>" q params body scope cl pm cv ctv) ⟨[], []⟩ = pure [])
    (hbody : ∀ (A2 : Around) (outer : List Env) (s : Shared) (H : Hp) (E : XK) (f c' : Addr), Room k (A2.deeper (LamX.lamEnv X scope s.heap.objs.size f c')) → Takes (LamX.lamCx X A2 outer s H E scope f c') (wE E) → EX (LamX.lamCx X A2 outer s H E scope f c') (wd X.K A) (wE E) body m) (hg : Gl X "_law_refused" := by rfl) :
    EX X (wd X.K A) w (.Call (.Name "_law_refused" p) [.Lambda params body scope lpos] [] pos) (lamF 0 (fun _ => some (.str [])) some m) := by
  obtain ⟨oc, od, kV, doc, pm, an, cdv, ct, osl, hfd, lk, hcd⟩ := T.d__law_refused.fn.ex
  have hb := T.d__law_refused.bd
  rw [hfd] at hb lk
  exact x_lam (n := 0) (f := xf 0) (kd_str (z := "")) kd_id rfl hg T.d__law_refused.mgf T.d__law_refused.fn.kp lk hcd hb sc__law_refused (Or.inl rfl) (gives_refused ⟨rfl, rfl, rfl, T.m_BadArgument, rfl, T.x_BadArgument, T.e_BadArgument.noF, T.q_BadArgument⟩) TB.1 hcode TB.2.1 TB.2.2 hr L hdef hbind hbody
/-- demand: 0 is_good, 1 name -/
def b_demand : SM := (sIf (tN (tV (eVar 0))) (sRaise 0 (eVar 1)) sNil)
def f_demand : Fn := callF 2 0 b_demand
theorem ok_demand (T : Txt K mg A) : FnOk P w K mg base (L2.CX P w) 3 A.f_demand A.d_demand ["is_good", "name"] (spF (wd K A) 2 f_demand) := fn_ok T.d_demand.fn sc_demand rfl fun cdv A2 outer s H E hr tk hp => (s_one (s_if (t_not (t_val (x_var 0))) (s_one (s_raise (c := 0) T.e_BadArgument rfl tk (hr.mono (by decide : 2 ≤ 2)) rfl T.m_BadArgument (x_var 1))) s_nil))
/-- is_in: 0 value, 1 low, 2 high -/
def b_is_in : SM := (sRet (eAn (eB (fIs "int") (aCons (eVar 0) aNil)) (eAn (eN (eB (fIs "bool") (aCons (eVar 0) aNil))) (eChain dLe dLe (eVar 1) (eVar 0) (eVar 2)))))
def f_is_in : Fn := callF 3 0 b_is_in
theorem ok_is_in (T : Txt K mg A) : FnOk P w K mg base (L2.CX P w) 2 A.f_is_in A.d_is_in ["value", "low", "high"] (spF (wd K A) 3 f_is_in) := fn_ok T.d_is_in.fn sc_is_in rfl fun cdv A2 outer s H E hr tk hp => (s_one (s_ret (x_and (x_isi (T := "int") b_int rfl T.n_isinstance rfl T.n_int (x_var 0)) (x_and (x_not (x_isi (T := "bool") b_bool rfl T.n_isinstance rfl T.n_bool (x_var 0))) (x_one (x_chain le_r le_r le_d le_d (x_var 1) (x_var 0) (x_var 2)))))))
/-- is_tuple: 0 value, 1 least, 2 most -/
def b_is_tuple : SM := (sRet (eAn (eB (fIs "tuple") (aCons (eVar 0) aNil)) (eChain dLe dLe (eVar 1) (eB fLen (aCons (eVar 0) aNil)) (eVar 2))))
def f_is_tuple : Fn := callF 3 0 b_is_tuple
theorem ok_is_tuple (T : Txt K mg A) : FnOk P w K mg base (L2.CX P w) 2 A.f_is_tuple A.d_is_tuple ["value", "least", "most"] (spF (wd K A) 3 f_is_tuple) := fn_ok T.d_is_tuple.fn sc_is_tuple rfl fun cdv A2 outer s H E hr tk hp => (s_one (s_ret (x_and (x_isi (T := "tuple") b_tuple rfl T.n_isinstance rfl T.n_tuple (x_var 0)) (x_one (x_chain le_r le_r le_d le_d (x_var 1) (x_callB len_r len_d b_len rfl T.n_len (a_cons (x_var 0) a_nil)) (x_var 2))))))
/-- is_signs: 0 value, 1 least, 2 most, 3 sign -/
def b_is_signs : SM := (sRet (eAn (eB (fIs "str") (aCons (eVar 0) aNil)) (eAn (eChain dLe dLe (eVar 1) (eB fLen (aCons (eVar 0) aNil)) (eVar 2)) (eTr (eB fAll (aCons (eLc [3] (iLst (eVar 0)) (.one 3) tY (eOp dInC (eVar 3) (eC (.str [32, 33, 34, 35, 36, 38, 39, 40, 41, 42, 43, 44, 45, 46, 47, 48, 49, 50, 51, 52, 53, 54, 55, 56, 57, 58, 59, 60, 61, 62, 63, 64, 65, 66, 67, 68, 69, 70, 71, 72, 73, 74, 75, 76, 77, 78, 79, 80, 81, 82, 83, 84, 85, 86, 87, 88, 89, 90, 91, 92, 93, 94, 95, 96, 97, 98, 99, 100, 101, 102, 103, 104, 105, 106, 107, 108, 109, 110, 111, 112, 113, 114, 115, 116, 117, 118, 119, 120, 121, 122, 123, 124, 125, 126])))) aNil))))))
def f_is_signs : Fn := callF 3 1 b_is_signs
theorem ok_is_signs (T : Txt K mg A) : FnOk P w K mg base (L2.CX P w) 2 A.f_is_signs A.d_is_signs ["value", "least", "most"] (spF (wd K A) 3 f_is_signs) := fn_ok T.d_is_signs.fn sc_is_signs rfl fun cdv A2 outer s H E hr tk hp => (s_one (s_ret (x_and (x_isi (T := "str") b_str rfl T.n_isinstance rfl T.n_str (x_var 0)) (x_and (x_chain le_r le_r le_d le_d (x_var 1) (x_callB len_r len_d b_len rfl T.n_len (a_cons (x_var 0) a_nil)) (x_var 2)) (x_one (x_tr (x_callB (cr_all rfl) all_d b_all rfl T.n_all (a_cons (x_lc (own := [("sign", 3)]) rfl sc_is_signs.nd (i_seq (x_var 0)) (blkOk_by (by kernel_rfl)) (by decide) (fun _ _ _ _ _ => pg_one sc_is_signs.nd) (fun _ _ _ _ _ => t_yes) (fun _ _ _ _ _ => (x_inC (x_var 3) (x_gstr2 rfl T.c_SIGNS rfl)))) a_nil))))))))
/-- is_value: 0 value -/
def b_is_value : SM := (sRet (eO (eOp dIsN (eVar 0) (eC .non)) (eO (eCall f_is_in (aCons (eVar 0) (aCons (eC (.int (-1000000))) (aCons (eC (.int 1000000)) aNil)))) (eCall f_is_signs (aCons (eVar 0) (aCons (eC (.int 1)) (aCons (eC (.int 12)) aNil)))))))
def f_is_value : Fn := callF 1 0 b_is_value
theorem ok_is_value (T : Txt K mg A) : FnOk P w K mg base (L2.CX P w) 3 A.f_is_value A.d_is_value ["value"] (spF (wd K A) 1 f_is_value) := fn_ok T.d_is_value.fn sc_is_value rfl fun cdv A2 outer s H E hr tk hp => (s_one (s_ret (x_or (x_isN (x_var 0) x_non) (x_or (x_call arity_callF (ok_is_in T) (hr.mono (by decide : 2 ≤ 2)) rfl T.d_is_in.mgf T.d_is_in.fn.kp T.d_is_in.bd tk (a_cons (x_var 0) (a_cons (x_gint rfl T.c_LEAST) (a_cons (x_gint rfl T.c_MOST) a_nil)))) (x_one (x_call arity_callF (ok_is_signs T) (hr.mono (by decide : 2 ≤ 2)) rfl T.d_is_signs.mgf T.d_is_signs.fn.kp T.d_is_signs.bd tk (a_cons (x_var 0) (a_cons x_int (a_cons (x_gint rfl T.c_MOST_SIGNS) a_nil)))))))))
/-- is_name: 0 value, 1 sign -/
def b_is_name : SM := (sRet (eAn (eB (fIs "str") (aCons (eVar 0) aNil)) (eAn (eChain dLe dLe (eC (.int 1)) (eB fLen (aCons (eVar 0) aNil)) (eC (.int 10))) (eTr (eB fAll (aCons (eLc [1] (iLst (eVar 0)) (.one 1) tY (eOp dInC (eVar 1) (eC (.str [97, 98, 99, 100, 101, 102, 103, 104, 105, 106, 107, 108, 109, 110, 111, 112, 113, 114, 115, 116, 117, 118, 119, 120, 121, 122])))) aNil))))))
def f_is_name : Fn := callF 1 1 b_is_name
theorem ok_is_name (T : Txt K mg A) : FnOk P w K mg base (L2.CX P w) 2 A.f_is_name A.d_is_name ["value"] (spF (wd K A) 1 f_is_name) := fn_ok T.d_is_name.fn sc_is_name rfl fun cdv A2 outer s H E hr tk hp => (s_one (s_ret (x_and (x_isi (T := "str") b_str rfl T.n_isinstance rfl T.n_str (x_var 0)) (x_and (x_chain le_r le_r le_d le_d x_int (x_callB len_r len_d b_len rfl T.n_len (a_cons (x_var 0) a_nil)) (x_gint rfl T.c_MOST_NAME)) (x_one (x_tr (x_callB (cr_all rfl) all_d b_all rfl T.n_all (a_cons (x_lc (own := [("sign", 1)]) rfl sc_is_name.nd (i_seq (x_var 0)) (blkOk_by (by kernel_rfl)) (by decide) (fun _ _ _ _ _ => pg_one sc_is_name.nd) (fun _ _ _ _ _ => t_yes) (fun _ _ _ _ _ => (x_inC (x_var 1) (x_gstr2 rfl T.c_LETTERS rfl)))) a_nil))))))))
/-- are_names: 0 value, 1 least, 2 most, 3 one -/
def b_are_names : SM := (sRet (eAn (eCall f_is_tuple (aCons (eVar 0) (aCons (eVar 1) (aCons (eVar 2) aNil)))) (eAn (eTr (eB fAll (aCons (eLc [3] (iLst (eVar 0)) (.one 3) tY (eCall f_is_name (aCons (eVar 3) aNil))) aNil))) (eOp dEq (eLenS (eVar 0)) (eB fLen (aCons (eVar 0) aNil))))))
def f_are_names : Fn := callF 3 1 b_are_names
theorem ok_are_names (T : Txt K mg A) : FnOk P w K mg base (L2.CX P w) 3 A.f_are_names A.d_are_names ["value", "least", "most"] (spF (wd K A) 3 f_are_names) := fn_ok T.d_are_names.fn sc_are_names rfl fun cdv A2 outer s H E hr tk hp => (s_one (s_ret (x_and (x_call arity_callF (ok_is_tuple T) (hr.mono (by decide : 2 ≤ 2)) rfl T.d_is_tuple.mgf T.d_is_tuple.fn.kp T.d_is_tuple.bd tk (a_cons (x_var 0) (a_cons (x_var 1) (a_cons (x_var 2) a_nil)))) (x_and (x_tr (x_callB (cr_all rfl) all_d b_all rfl T.n_all (a_cons (x_lc (own := [("one", 3)]) rfl sc_are_names.nd (i_seq (x_var 0)) (blkOk_by (by kernel_rfl)) (by decide) (fun _ _ _ _ _ => pg_one sc_are_names.nd) (fun _ _ _ _ _ => t_yes) (fun _ _ _ _ _ => (x_call arity_callF (ok_is_name T) (hr.mono (by decide : 2 ≤ 2)) rfl T.d_is_name.mgf T.d_is_name.fn.kp T.d_is_name.bd LamX.takes0 (a_cons (x_var 3) a_nil)))) a_nil))) (x_one (x_eq hr (x_lenS rfl rfl T.n_len rfl T.n_set (x_var 0)) (x_callB len_r len_d b_len rfl T.n_len (a_cons (x_var 0) a_nil))))))))
/-- is_row: 0 value, 1 many, 2 one -/
def b_is_row : SM := (sRet (eAn (eCall f_is_tuple (aCons (eVar 0) (aCons (eVar 1) (aCons (eVar 1) aNil)))) (eTr (eB fAll (aCons (eLc [2] (iLst (eVar 0)) (.one 2) tY (eCall f_is_value (aCons (eVar 2) aNil))) aNil)))))
def f_is_row : Fn := callF 2 1 b_is_row
theorem ok_is_row (T : Txt K mg A) : FnOk P w K mg base (L2.CX P w) 4 A.f_is_row A.d_is_row ["value", "many"] (spF (wd K A) 2 f_is_row) := fn_ok T.d_is_row.fn sc_is_row rfl fun cdv A2 outer s H E hr tk hp => (s_one (s_ret (x_and (x_call arity_callF (ok_is_tuple T) (hr.mono (by decide : 2 ≤ 3)) rfl T.d_is_tuple.mgf T.d_is_tuple.fn.kp T.d_is_tuple.bd tk (a_cons (x_var 0) (a_cons (x_var 1) (a_cons (x_var 1) a_nil)))) (x_one (x_tr (x_callB (cr_all rfl) all_d b_all rfl T.n_all (a_cons (x_lc (own := [("one", 2)]) rfl sc_is_row.nd (i_seq (x_var 0)) (blkOk_by (by kernel_rfl)) (by decide) (fun _ _ _ _ _ => pg_one sc_is_row.nd) (fun _ _ _ _ _ => t_yes) (fun _ _ _ _ _ => (x_call arity_callF (ok_is_value T) (hr.mono (by decide : 3 ≤ 3)) rfl T.d_is_value.mgf T.d_is_value.fn.kp T.d_is_value.bd LamX.takes0 (a_cons (x_var 2) a_nil)))) a_nil)))))))
/-- is_table: 0 value, 1 row -/
def b_is_table : SM := (sSeq (sIf (tO (tN (tV (eCall f_is_tuple (aCons (eVar 0) (aCons (eC (.int 2)) (aCons (eC (.int 2)) aNil)))))) (tO (tN (tV (eCall f_are_names (aCons (eOp dIx (eVar 0) (eC (.int 0))) (aCons (eC (.int 1)) (aCons (eC (.int 8)) aNil)))))) (tN (tV (eCall f_is_tuple (aCons (eOp dIx (eVar 0) (eC (.int 1))) (aCons (eC (.int 0)) (aCons (eC (.int 200)) aNil)))))))) (sRet (eC (.bl false))) sNil) (sRet (eTr (eB fAll (aCons (eLc [1] (iLst (eOp dIx (eVar 0) (eC (.int 1)))) (.one 1) tY (eCall f_is_row (aCons (eVar 1) (aCons (eB fLen (aCons (eOp dIx (eVar 0) (eC (.int 0))) aNil)) aNil)))) aNil)))))
def f_is_table : Fn := callF 1 1 b_is_table
theorem ok_is_table (T : Txt K mg A) : FnOk P w K mg base (L2.CX P w) 5 A.f_is_table A.d_is_table ["value"] (spF (wd K A) 1 f_is_table) := fn_ok T.d_is_table.fn sc_is_table rfl fun cdv A2 outer s H E hr tk hp => (s_seq (s_if (t_bool (b_or (t_not (t_val (x_call arity_callF (ok_is_tuple T) (hr.mono (by decide : 2 ≤ 4)) rfl T.d_is_tuple.mgf T.d_is_tuple.fn.kp T.d_is_tuple.bd tk (a_cons (x_var 0) (a_cons x_int (a_cons x_int a_nil)))))) (b_or (t_not (t_val (x_call arity_callF (ok_are_names T) (hr.mono (by decide : 3 ≤ 4)) rfl T.d_are_names.mgf T.d_are_names.fn.kp T.d_are_names.bd tk (a_cons (x_ix (fun _ _ => rfl) (x_var 0) x_int) (a_cons x_int (a_cons (x_gint rfl T.c_MOST_COLUMNS) a_nil)))))) (b_or1 (t_not (t_val (x_call arity_callF (ok_is_tuple T) (hr.mono (by decide : 2 ≤ 4)) rfl T.d_is_tuple.mgf T.d_is_tuple.fn.kp T.d_is_tuple.bd tk (a_cons (x_ix (fun _ _ => rfl) (x_var 0) x_int) (a_cons x_int (a_cons (x_gint rfl T.c_MOST_ROWS) a_nil)))))))))) (s_one (s_ret x_bl)) s_nil) (s_one (s_ret (x_tr (x_callB (cr_all rfl) all_d b_all rfl T.n_all (a_cons (x_lc (own := [("row", 1)]) rfl sc_is_table.nd (i_seq (x_ix (fun _ _ => rfl) (x_var 0) x_int)) (blkOk_by (by kernel_rfl)) (by decide) (fun _ _ _ _ _ => pg_one sc_is_table.nd) (fun _ _ _ _ _ => t_yes) (fun _ _ _ _ _ => (x_call arity_callF (ok_is_row T) (hr.mono (by decide : 4 ≤ 4)) rfl T.d_is_row.mgf T.d_is_row.fn.kp T.d_is_row.bd LamX.takes0 (a_cons (x_var 1) (a_cons (x_callB len_r len_d b_len rfl T.n_len (a_cons (x_ix (fun _ _ => rfl) (x_var 0) x_int) a_nil)) a_nil))))) a_nil))))))
/-- demand_table: 0 table -/
def b_demand_table : SM := (sEx (eCall f_demand (aCons (eCall f_is_table (aCons (eVar 0) aNil)) (aCons (eC (.str [116, 97, 98, 108, 101])) aNil))))
def f_demand_table : Fn := callF 1 0 b_demand_table
theorem ok_demand_table (T : Txt K mg A) : FnOk P w K mg base (L2.CX P w) 6 A.f_demand_table A.d_demand_table ["table"] (spF (wd K A) 1 f_demand_table) := fn_ok T.d_demand_table.fn sc_demand_table rfl fun cdv A2 outer s H E hr tk hp => (s_one (s_ex (x_call arity_callF (ok_demand T) (hr.mono (by decide : 3 ≤ 5)) rfl T.d_demand.mgf T.d_demand.fn.kp T.d_demand.bd tk (a_cons (x_call arity_callF (ok_is_table T) (hr.mono (by decide : 5 ≤ 5)) rfl T.d_is_table.mgf T.d_is_table.fn.kp T.d_is_table.bd tk (a_cons (x_var 0) a_nil)) (a_cons x_str a_nil)))))
/-- at_name: 0 row, 1 names, 2 name -/
def b_at_name : SM := (sRet (eOp dIx (eVar 0) (eTIx (eVar 1) (eVar 2))))
def f_at_name : Fn := callF 3 0 b_at_name
theorem ok_at_name (T : Txt K mg A) : FnOk P w K mg base (L2.CX P w) 2 A.f_at_name A.d_at_name ["row", "names", "name"] (spF (wd K A) 3 f_at_name) := fn_ok T.d_at_name.fn sc_at_name rfl fun cdv A2 outer s H E hr tk hp => (s_one (s_ret (x_ix (fun _ _ => rfl) (x_var 0) (x_tix (x_var 1) (x_var 2)))))
/-- demand_column: 0 table, 1 name -/
def b_demand_column : SM := (sSeq (sEx (eCall f_demand_table (aCons (eVar 0) aNil))) (sEx (eCall f_demand (aCons (eAn (eB (fIs "str") (aCons (eVar 1) aNil)) (eOp dIn (eVar 1) (eOp dIx (eVar 0) (eC (.int 0))))) (aCons (eC (.str [110, 97, 109, 101])) aNil)))))
def f_demand_column : Fn := callF 2 0 b_demand_column
theorem ok_demand_column (T : Txt K mg A) : FnOk P w K mg base (L2.CX P w) 7 A.f_demand_column A.d_demand_column ["table", "name"] (spF (wd K A) 2 f_demand_column) := fn_ok T.d_demand_column.fn sc_demand_column rfl fun cdv A2 outer s H E hr tk hp => (s_seq (s_ex (x_call arity_callF (ok_demand_table T) (hr.mono (by decide : 6 ≤ 6)) rfl T.d_demand_table.mgf T.d_demand_table.fn.kp T.d_demand_table.bd tk (a_cons (x_var 0) a_nil))) (s_one (s_ex (x_call arity_callF (ok_demand T) (hr.mono (by decide : 3 ≤ 6)) rfl T.d_demand.mgf T.d_demand.fn.kp T.d_demand.bd tk (a_cons (x_and (x_isi (T := "str") b_str rfl T.n_isinstance rfl T.n_str (x_var 1)) (x_one (x_in (x_var 1) (x_ix (fun _ _ => rfl) (x_var 0) x_int)))) (a_cons x_str a_nil))))))
/-- streaks: 0 table, 1 name, 2 found, 3 at, 4 row, 5 value -/
def L1_streaks : SM := (sSeq (sAs (eCall f_at_name (aCons (eVar 4) (aCons (eOp dIx (eVar 0) (eC (.int 0))) (aCons (eVar 1) aNil)))) (gN 5)) (sIf (tAn (tV (eOp dGt (eB fLen (aCons (eVar 2) aNil)) (eC (.int 0)))) (tV (eOp dEq (eOp dIx (eOp dIx (eVar 2) (eU dNeg (eC (.int 1)))) (eC (.int 0))) (eVar 5)))) (sAs (eTup (aCons (eVar 5) (aCons (eOp dIx (eOp dIx (eVar 2) (eU dNeg (eC (.int 1)))) (eC (.int 1))) (aCons (eOp dAdd (eOp dIx (eOp dIx (eVar 2) (eU dNeg (eC (.int 1)))) (eC (.int 2))) (eC (.int 1))) aNil)))) (gIx (eVar 2) (eU dNeg (eC (.int 1))))) (sEx (eM "list" fAppend (eVar 2) (aCons (eTup (aCons (eVar 5) (aCons (eVar 3) (aCons (eC (.int 1)) aNil)))) aNil)))))
def b_streaks : SM := (sSeq (sEx (eCall f_demand_column (aCons (eVar 0) (aCons (eVar 1) aNil)))) (sSeq (sAs (eLst aNil) (gN 2)) (sSeq (sFor (iEn (aCons (eOp dIx (eVar 0) (eC (.int 1))) aNil)) (gT 2 (gCn (gN 3) (gCn (gN 4) gNl))) L1_streaks) (sRet (eB fTuple (aCons (eVar 2) aNil))))))
def f_streaks : Fn := callF 2 4 b_streaks
theorem ok_streaks (T : Txt K mg A) : FnOk P w K mg base (L2.CX P w) 8 A.f_streaks A.d_streaks ["table", "name"] (spF (wd K A) 2 f_streaks) := fn_ok T.d_streaks.fn sc_streaks rfl fun cdv A2 outer s H E hr tk hp => (s_seq (s_ex (x_call arity_callF (ok_demand_column T) (hr.mono (by decide : 7 ≤ 7)) rfl T.d_demand_column.mgf T.d_demand_column.fn.kp T.d_demand_column.bd tk (a_cons (x_var 0) (a_cons (x_var 1) a_nil)))) (s_seq (s_set 2 sc_streaks.nd (x_lst a_nil)) (s_seq (s_for hp rfl (i_enum rfl T.n_enumerate (a_cons (x_ix (fun _ _ => rfl) (x_var 0) x_int) a_nil)) (g_tup rfl (gs_cons (g_name 3 sc_streaks.nd) (gs_cons (g_name 4 sc_streaks.nd) gs_nil))) (s_seq (s_set 5 sc_streaks.nd (x_call arity_callF (ok_at_name T) (hr.mono (by decide : 2 ≤ 7)) rfl T.d_at_name.mgf T.d_at_name.fn.kp T.d_at_name.bd tk (a_cons (x_var 4) (a_cons (x_ix (fun _ _ => rfl) (x_var 0) x_int) (a_cons (x_var 1) a_nil))))) (s_one (s_if (t_bool (b_and (t_gt (x_callB len_r len_d b_len rfl T.n_len (a_cons (x_var 2) a_nil)) x_int) (b_and1 (t_eq hr (x_ix (fun _ _ => rfl) (x_ix (fun _ _ => rfl) (x_var 2) (x_neg x_int)) x_int) (x_var 5))))) (s_one (s_as (x_tup (a_cons (x_var 5) (a_cons (x_ix (fun _ _ => rfl) (x_ix (fun _ _ => rfl) (x_var 2) (x_neg x_int)) x_int) (a_cons (x_add rfl (x_ix (fun _ _ => rfl) (x_ix (fun _ _ => rfl) (x_var 2) (x_neg x_int)) x_int) x_int) a_nil)))) (g_ix hr (x_var 2) (x_neg x_int)))) (s_one (s_ex (x_append (x_var 2) (x_tup (a_cons (x_var 5) (a_cons (x_var 3) (a_cons x_int a_nil))))))))))) (s_one (s_ret (x_callTy call_tuple_of tuple_d b_tuple rfl T.n_tuple (a_cons (x_var 2) a_nil)))))))
/-- is_more: 0 value, 1 other -/
def b_is_more : SM := (sRet (eAn (eB (fIs "int") (aCons (eVar 0) aNil)) (eOp dGt (eVar 0) (eVar 1))))
def f_is_more : Fn := callF 2 0 b_is_more
theorem ok_is_more (T : Txt K mg A) : FnOk P w K mg base (L2.CX P w) 2 A.f_is_more A.d_is_more ["value", "other"] (spF (wd K A) 2 f_is_more) := fn_ok T.d_is_more.fn sc_is_more rfl fun cdv A2 outer s H E hr tk hp => (s_one (s_ret (x_and (x_isi (T := "int") b_int rfl T.n_isinstance rfl T.n_int (x_var 0)) (x_one (x_gt (x_var 0) (x_var 1))))))
/-- rising: 0 table, 1 name, 2 values, 3 row, 4 best, 5 at, 6 longer, 7 later, 8 found, 9 left -/
def L1_rising : SM := (sIf (tV (eB (fIs "int") (aCons (eOp dIx (eVar 2) (eVar 5)) aNil))) (sSeq (sAs (eTr (eLc [7] (iRn2 (aCons (eOp dAdd (eVar 5) (eC (.int 1))) (aCons (eB fLen (aCons (eVar 2) aNil)) aNil))) (.one 7) (tV (eCall f_is_more (aCons (eOp dIx (eVar 2) (eVar 7)) (aCons (eOp dIx (eVar 2) (eVar 5)) aNil)))) (eOp dIx (eVar 4) (eVar 7)))) (gN 6)) (sAs (eOp dAdd (eC (.int 1)) (eTr (eB fMax (aCons (eOp dAdd (eVar 6) (eLst (aCons (eC (.int 0)) aNil))) aNil)))) (gIx (eVar 4) (eVar 5)))) sNil)
def L2_rising : SM := (sIf (tAn (tV (eOp dEq (eOp dIx (eVar 4) (eVar 5)) (eVar 9))) (tAn (tV (eOp dGt (eVar 9) (eC (.int 0)))) (tO (tV (eOp dEq (eB fLen (aCons (eVar 8) aNil)) (eC (.int 0)))) (tV (eCall f_is_more (aCons (eOp dIx (eVar 2) (eVar 5)) (aCons (eOp dIx (eVar 2) (eOp dIx (eVar 8) (eU dNeg (eC (.int 1))))) aNil))))))) (sSeq (sEx (eM "list" fAppend (eVar 8) (aCons (eVar 5) aNil))) (sAs (eOp dSub (eVar 9) (eC (.int 1))) (gN 9))) sNil)
def b_rising : SM := (sSeq (sEx (eCall f_demand_column (aCons (eVar 0) (aCons (eVar 1) aNil)))) (sSeq (sAs (eLc [3] (iLst (eOp dIx (eVar 0) (eC (.int 1)))) (.one 3) tY (eCall f_at_name (aCons (eVar 3) (aCons (eOp dIx (eVar 0) (eC (.int 0))) (aCons (eVar 1) aNil))))) (gN 2)) (sSeq (sAs (eOp dMul (eLst (aCons (eC (.int 0)) aNil)) (eB fLen (aCons (eVar 2) aNil))) (gN 4)) (sSeq (sFor (iRn3 (aCons (eOp dSub (eB fLen (aCons (eVar 2) aNil)) (eC (.int 1))) (aCons (eU dNeg (eC (.int 1))) (aCons (eU dNeg (eC (.int 1))) aNil)))) (gN 5) L1_rising) (sSeq (sAs (eLst aNil) (gN 8)) (sSeq (sAs (eTr (eB fMax (aCons (eOp dAdd (eVar 4) (eLst (aCons (eC (.int 0)) aNil))) aNil))) (gN 9)) (sSeq (sFor (iRn1 (aCons (eB fLen (aCons (eVar 2) aNil)) aNil)) (gN 5) L2_rising) (sRet (eB fTuple (aCons (eVar 8) aNil))))))))))
def f_rising : Fn := callF 2 8 b_rising
theorem ok_rising (T : Txt K mg A) : FnOk P w K mg base (L2.CX P w) 8 A.f_rising A.d_rising ["table", "name"] (spF (wd K A) 2 f_rising) := fn_ok T.d_rising.fn sc_rising rfl fun cdv A2 outer s H E hr tk hp => (s_seq (s_ex (x_call arity_callF (ok_demand_column T) (hr.mono (by decide : 7 ≤ 7)) rfl T.d_demand_column.mgf T.d_demand_column.fn.kp T.d_demand_column.bd tk (a_cons (x_var 0) (a_cons (x_var 1) a_nil)))) (s_seq (s_set 2 sc_rising.nd (x_lc (own := [("row", 3)]) rfl sc_rising.nd (i_seq (x_ix (fun _ _ => rfl) (x_var 0) x_int)) (blkOk_by (by kernel_rfl)) (by decide) (fun _ _ _ _ _ => pg_one sc_rising.nd) (fun _ _ _ _ _ => t_yes) (fun _ _ _ _ _ => (x_call arity_callF (ok_at_name T) (hr.mono (by decide : 2 ≤ 7)) rfl T.d_at_name.mgf T.d_at_name.fn.kp T.d_at_name.bd LamX.takes0 (a_cons (x_var 3) (a_cons (x_ix (fun _ _ => rfl) (x_var 0) x_int) (a_cons (x_var 1) a_nil))))))) (s_seq (s_set 4 sc_rising.nd (x_mul rfl (x_lst (a_cons x_int a_nil)) (x_callB len_r len_d b_len rfl T.n_len (a_cons (x_var 2) a_nil)))) (s_seq (s_for hp rfl (i_rng3 rfl T.n_range (a_cons (x_sub (x_callB len_r len_d b_len rfl T.n_len (a_cons (x_var 2) a_nil)) x_int) (a_cons (x_neg x_int) (a_cons (x_neg x_int) a_nil)))) (g_name 5 sc_rising.nd) (s_one (s_if (t_val (x_isi (T := "int") b_int rfl T.n_isinstance rfl T.n_int (x_ix (fun _ _ => rfl) (x_var 2) (x_var 5)))) (s_seq (s_setLc (own := [("later", 7)]) 6 rfl sc_rising.nd rfl (sw_true rfl rfl rfl rfl) (i_rng2 rfl T.n_range (a_cons (x_add rfl (x_var 5) x_int) (a_cons (x_callB len_r len_d b_len rfl T.n_len (a_cons (x_var 2) a_nil)) a_nil))) (blkOk_by (by kernel_rfl)) (by decide) (fun _ _ _ _ _ => pg_one sc_rising.nd) (fun _ _ _ _ _ => pts_one (t_val (x_call arity_callF (ok_is_more T) (hr.mono (by decide : 2 ≤ 7)) rfl T.d_is_more.mgf T.d_is_more.fn.kp T.d_is_more.bd LamX.takes0 (a_cons (x_ix (fun _ _ => rfl) (x_var 2) (x_var 7)) (a_cons (x_ix (fun _ _ => rfl) (x_var 2) (x_var 5)) a_nil))))) (fun _ _ _ _ _ => (x_ix (fun _ _ => rfl) (x_var 4) (x_var 7)))) (s_one (s_as (x_add rfl x_int (x_tr (x_callB (max_r rfl hr) max_d b_max rfl T.n_max (a_cons (x_add rfl (x_var 6) (x_lst (a_cons x_int a_nil))) a_nil)))) (g_ix hr (x_var 4) (x_var 5))))) s_nil))) (s_seq (s_set 8 sc_rising.nd (x_lst a_nil)) (s_seq (s_set 9 sc_rising.nd (x_tr (x_callB (max_r rfl hr) max_d b_max rfl T.n_max (a_cons (x_add rfl (x_var 4) (x_lst (a_cons x_int a_nil))) a_nil)))) (s_seq (s_for hp rfl (i_rng1 rfl T.n_range (a_cons (x_callB len_r len_d b_len rfl T.n_len (a_cons (x_var 2) a_nil)) a_nil)) (g_name 5 sc_rising.nd) (s_one (s_if (t_bool (b_and (t_eq hr (x_ix (fun _ _ => rfl) (x_var 4) (x_var 5)) (x_var 9)) (b_and (t_gt (x_var 9) x_int) (b_and1 (t_bool (b_or (t_eq hr (x_callB len_r len_d b_len rfl T.n_len (a_cons (x_var 8) a_nil)) x_int) (b_or1 (t_val (x_call arity_callF (ok_is_more T) (hr.mono (by decide : 2 ≤ 7)) rfl T.d_is_more.mgf T.d_is_more.fn.kp T.d_is_more.bd tk (a_cons (x_ix (fun _ _ => rfl) (x_var 2) (x_var 5)) (a_cons (x_ix (fun _ _ => rfl) (x_var 2) (x_ix (fun _ _ => rfl) (x_var 8) (x_neg x_int))) a_nil))))))))))) (s_seq (s_ex (x_append (x_var 8) (x_var 5))) (s_one (s_set 9 sc_rising.nd (x_sub (x_var 9) x_int)))) s_nil))) (s_one (s_ret (x_callTy call_tuple_of tuple_d b_tuple rfl T.n_tuple (a_cons (x_var 8) a_nil)))))))))))
/-- is_rising: 0 table, 1 name, 2 value, 3 at, 4 one, 5 two, 6 cells, 7 cell -/
def b_is_rising : SM := (sSeq (sEx (eCall f_demand_column (aCons (eVar 0) (aCons (eVar 1) aNil)))) (sSeq (sIf (tO (tN (tV (eB (fIs "tuple") (aCons (eVar 2) aNil)))) (tN (tV (eTr (eB fAll (aCons (eLc [3] (iLst (eVar 2)) (.one 3) tY (eCall f_is_in (aCons (eVar 3) (aCons (eC (.int 0)) (aCons (eOp dSub (eB fLen (aCons (eOp dIx (eVar 0) (eC (.int 1))) aNil)) (eC (.int 1))) aNil))))) aNil)))))) (sRet (eC (.bl false))) sNil) (sSeq (sIf (tN (tV (eTr (eB fAll (aCons (eLc [4, 5] (iZp (aCons (eVar 2) (aCons (eSl dSl (eVar 2) (oSo (eC (.int 1))) oNo) aNil))) (.many [4, 5]) tY (eOp dLt (eVar 4) (eVar 5))) aNil))))) (sRet (eC (.bl false))) sNil) (sSeq (sAs (eTr (eLc [3] (iLst (eVar 2)) (.one 3) tY (eCall f_at_name (aCons (eOp dIx (eOp dIx (eVar 0) (eC (.int 1))) (eVar 3)) (aCons (eOp dIx (eVar 0) (eC (.int 0))) (aCons (eVar 1) aNil)))))) (gN 6)) (sSeq (sIf (tN (tV (eTr (eB fAll (aCons (eLc [7] (iLst (eVar 6)) (.one 7) tY (eB (fIs "int") (aCons (eVar 7) aNil))) aNil))))) (sRet (eC (.bl false))) sNil) (sRet (eTr (eB fAll (aCons (eLc [4, 5] (iZp (aCons (eVar 6) (aCons (eSl dSl (eVar 6) (oSo (eC (.int 1))) oNo) aNil))) (.many [4, 5]) tY (eOp dLt (eVar 4) (eVar 5))) aNil)))))))))
def f_is_rising : Fn := callF 3 5 b_is_rising
theorem ok_is_rising (T : Txt K mg A) : FnOk P w K mg base (L2.CX P w) 8 A.f_is_rising A.d_is_rising ["table", "name", "value"] (spF (wd K A) 3 f_is_rising) := fn_ok T.d_is_rising.fn sc_is_rising rfl fun cdv A2 outer s H E hr tk hp => (s_seq (s_ex (x_call arity_callF (ok_demand_column T) (hr.mono (by decide : 7 ≤ 7)) rfl T.d_demand_column.mgf T.d_demand_column.fn.kp T.d_demand_column.bd tk (a_cons (x_var 0) (a_cons (x_var 1) a_nil)))) (s_seq (s_if (t_bool (b_or (t_not (t_val (x_isi (T := "tuple") b_tuple rfl T.n_isinstance rfl T.n_tuple (x_var 2)))) (b_or1 (t_not (t_val (x_tr (x_callB (cr_all rfl) all_d b_all rfl T.n_all (a_cons (x_lc (own := [("at", 3)]) rfl sc_is_rising.nd (i_seq (x_var 2)) (blkOk_by (by kernel_rfl)) (by decide) (fun _ _ _ _ _ => pg_one sc_is_rising.nd) (fun _ _ _ _ _ => t_yes) (fun _ _ _ _ _ => (x_call arity_callF (ok_is_in T) (hr.mono (by decide : 2 ≤ 7)) rfl T.d_is_in.mgf T.d_is_in.fn.kp T.d_is_in.bd LamX.takes0 (a_cons (x_var 3) (a_cons x_int (a_cons (x_sub (x_callB len_r len_d b_len rfl T.n_len (a_cons (x_ix (fun _ _ => rfl) (x_var 0) x_int) a_nil)) x_int) a_nil)))))) a_nil)))))))) (s_one (s_ret x_bl)) s_nil) (s_seq (s_if (t_not (t_val (x_tr (x_callB (cr_all rfl) all_d b_all rfl T.n_all (a_cons (x_lc (own := [("one", 4), ("two", 5)]) rfl sc_is_rising.nd (i_zip rfl T.n_zip (a_cons (x_var 2) (a_cons (x_sl (x_var 2) (o_so x_int) o_no) a_nil))) (blkOk_by (by kernel_rfl)) (by decide) (fun _ _ _ _ _ => pg_many rfl (pgs_cons (pg_name (i := 4) sc_is_rising.nd rfl (Or.inl rfl) (Or.inr rfl)) (pgs_cons (pg_name (i := 5) sc_is_rising.nd rfl (Or.inl rfl) (Or.inr rfl)) pgs_nil))) (fun _ _ _ _ _ => t_yes) (fun _ _ _ _ _ => (x_lt (x_var 4) (x_var 5)))) a_nil))))) (s_one (s_ret x_bl)) s_nil) (s_seq (s_setLc (own := [("at", 3)]) 6 rfl sc_is_rising.nd rfl (sw_true rfl rfl rfl rfl) (i_seq (x_var 2)) (blkOk_by (by kernel_rfl)) (by decide) (fun _ _ _ _ _ => pg_one sc_is_rising.nd) (fun _ _ _ _ _ => t_yes) (fun _ _ _ _ _ => (x_call arity_callF (ok_at_name T) (hr.mono (by decide : 2 ≤ 7)) rfl T.d_at_name.mgf T.d_at_name.fn.kp T.d_at_name.bd LamX.takes0 (a_cons (x_ix (fun _ _ => rfl) (x_ix (fun _ _ => rfl) (x_var 0) x_int) (x_var 3)) (a_cons (x_ix (fun _ _ => rfl) (x_var 0) x_int) (a_cons (x_var 1) a_nil)))))) (s_seq (s_if (t_not (t_val (x_tr (x_callB (cr_all rfl) all_d b_all rfl T.n_all (a_cons (x_lc (own := [("cell", 7)]) rfl sc_is_rising.nd (i_seq (x_var 6)) (blkOk_by (by kernel_rfl)) (by decide) (fun _ _ _ _ _ => pg_one sc_is_rising.nd) (fun _ _ _ _ _ => t_yes) (fun _ _ _ _ _ => (x_isi (T := "int") b_int rfl T.n_isinstance rfl T.n_int (x_var 7)))) a_nil))))) (s_one (s_ret x_bl)) s_nil) (s_one (s_ret (x_tr (x_callB (cr_all rfl) all_d b_all rfl T.n_all (a_cons (x_lc (own := [("one", 4), ("two", 5)]) rfl sc_is_rising.nd (i_zip rfl T.n_zip (a_cons (x_var 6) (a_cons (x_sl (x_var 6) (o_so x_int) o_no) a_nil))) (blkOk_by (by kernel_rfl)) (by decide) (fun _ _ _ _ _ => pg_many rfl (pgs_cons (pg_name (i := 4) sc_is_rising.nd rfl (Or.inl rfl) (Or.inr rfl)) (pgs_cons (pg_name (i := 5) sc_is_rising.nd rfl (Or.inl rfl) (Or.inr rfl)) pgs_nil))) (fun _ _ _ _ _ => t_yes) (fun _ _ _ _ _ => (x_lt (x_var 4) (x_var 5)))) a_nil))))))))))
/-- _law_dice: 0 script, 1 spot, 2 own, 3 mixed, 4 cell -/
def L1__law_dice : SM := (sAs (eOp dMod (eB fInt (aCons (eOp dAdd (eOp dMul (eVar 3) (eC (.int 69621))) (eOp dMod (eB fInt (aCons (eVar 4) aNil)) (eC (.int 2147480009)))) aNil)) (eC (.int 2147480009))) (gN 3))
def b__law_dice : SM := (sSeq (sAs (eIf (tV (eOp dLt (eVar 1) (eB fLen (aCons (eVar 0) aNil)))) (eOp dIx (eVar 0) (eVar 1)) (eOp dAdd (eOp dMul (eC (.int 811)) (eVar 1)) (eC (.int 37)))) (gN 2)) (sSeq (sAs (eOp dAdd (eC (.int 700001)) (eOp dMul (eC (.int 6947)) (eVar 1))) (gN 3)) (sSeq (sFor (iLst (eOp dAdd (eSl dSl (eVar 0) oNo (oSo (eC (.int 6)))) (eLst (aCons (eVar 2) aNil)))) (gN 4) L1__law_dice) (sRet (eLst (aCons (eIf (tO (tV (eOp dLt (eVar 2) (eC (.int 0)))) (tV (eOp dGe (eVar 2) (eOp dPow (eC (.int 10)) (eC (.int 16)))))) (eB fAbs (aCons (eVar 2) aNil)) (eC (.int 0))) (aCons (eVar 3) (aCons (eC (.int 0)) aNil))))))))
def f__law_dice : Fn := callF 2 3 b__law_dice
theorem ok__law_dice (T : Txt K mg A) : FnOk P w K mg base (L2.CX P w) 2 A.f__law_dice A.d__law_dice ["script", "spot"] (spF (wd K A) 2 f__law_dice) := fn_ok T.d__law_dice.fn sc__law_dice rfl fun cdv A2 outer s H E hr tk hp => (s_seq (s_set 2 sc__law_dice.nd (x_if (t_lt (x_var 1) (x_callB len_r len_d b_len rfl T.n_len (a_cons (x_var 0) a_nil))) (x_ix (fun _ _ => rfl) (x_var 0) (x_var 1)) (x_add rfl (x_mul rfl x_int (x_var 1)) x_int))) (s_seq (s_set 3 sc__law_dice.nd (x_add rfl x_int (x_mul rfl x_int (x_var 1)))) (s_seq (s_for hp rfl (i_seq (x_add rfl (x_sl (x_var 0) o_no (o_so x_int)) (x_lst (a_cons (x_var 2) a_nil)))) (g_name 4 sc__law_dice.nd) (s_one (s_set 3 sc__law_dice.nd (x_mod (x_callTy call_int1 int_d b_int rfl T.n_int (a_cons (x_add rfl (x_mul rfl (x_var 3) x_int) (x_mod (x_callTy call_int1 int_d b_int rfl T.n_int (a_cons (x_var 4) a_nil)) x_int)) a_nil)) x_int)))) (s_one (s_ret (x_lst (a_cons (x_if (t_bool (b_or (t_lt (x_var 2) x_int) (b_or1 (t_ge (x_var 2) (x_pow x_int x_int))))) (x_callB call_abs abs_d b_abs rfl T.n_abs (a_cons (x_var 2) a_nil)) x_int) (a_cons (x_var 3) (a_cons x_int a_nil)))))))))
/-- _law_roll: 0 dice, 1 total, 2 found -/
def b__law_roll : SM := (sSeq (sIf (tV (eOp dGt (eOp dIx (eVar 0) (eC (.int 0))) (eC (.int 0)))) (sSeq (sAs (eOp dMod (eB fInt (aCons (eOp dIx (eVar 0) (eC (.int 0))) aNil)) (eVar 1)) (gN 2)) (sSeq (sAs (eOp dDiv (eOp dIx (eVar 0) (eC (.int 0))) (eVar 1)) (gIx (eVar 0) (eC (.int 0)))) (sRet (eVar 2)))) sNil) (sSeq (sAs (eOp dAdd (eOp dIx (eVar 0) (eC (.int 2))) (eC (.int 1))) (gIx (eVar 0) (eC (.int 2)))) (sSeq (sAs (eOp dMod (eB fInt (aCons (eOp dAdd (eOp dAdd (eOp dMul (eOp dIx (eVar 0) (eC (.int 1))) (eC (.int 48271))) (eOp dMul (eOp dMul (eOp dIx (eVar 0) (eC (.int 2))) (eOp dIx (eVar 0) (eC (.int 2)))) (eC (.int 2003)))) (eC (.int 91))) aNil)) (eC (.int 2147480009))) (gIx (eVar 0) (eC (.int 1)))) (sRet (eOp dMod (eB fInt (aCons (eOp dDiv (eOp dIx (eVar 0) (eC (.int 1))) (eC (.int 197))) aNil)) (eVar 1))))))
def f__law_roll : Fn := callF 2 1 b__law_roll
theorem ok__law_roll (T : Txt K mg A) : FnOk P w K mg base (L2.CX P w) 2 A.f__law_roll A.d__law_roll ["dice", "total"] (spF (wd K A) 2 f__law_roll) := fn_ok T.d__law_roll.fn sc__law_roll rfl fun cdv A2 outer s H E hr tk hp => (s_seq (s_if (t_gt (x_ix (fun _ _ => rfl) (x_var 0) x_int) x_int) (s_seq (s_set 2 sc__law_roll.nd (x_mod (x_callTy call_int1 int_d b_int rfl T.n_int (a_cons (x_ix (fun _ _ => rfl) (x_var 0) x_int) a_nil)) (x_var 1))) (s_seq (s_as (x_div (x_ix (fun _ _ => rfl) (x_var 0) x_int) (x_var 1)) (g_ix hr (x_var 0) x_int)) (s_one (s_ret (x_var 2))))) s_nil) (s_seq (s_as (x_add rfl (x_ix (fun _ _ => rfl) (x_var 0) x_int) x_int) (g_ix hr (x_var 0) x_int)) (s_seq (s_as (x_mod (x_callTy call_int1 int_d b_int rfl T.n_int (a_cons (x_add rfl (x_add rfl (x_mul rfl (x_ix (fun _ _ => rfl) (x_var 0) x_int) x_int) (x_mul rfl (x_mul rfl (x_ix (fun _ _ => rfl) (x_var 0) x_int) (x_ix (fun _ _ => rfl) (x_var 0) x_int)) x_int)) x_int) a_nil)) x_int) (g_ix hr (x_var 0) x_int)) (s_one (s_ret (x_mod (x_callTy call_int1 int_d b_int rfl T.n_int (a_cons (x_div (x_ix (fun _ _ => rfl) (x_var 0) x_int) x_int) a_nil)) (x_var 1)))))))
/-- _law_pick: 0 dice, 1 things -/
def b__law_pick : SM := (sRet (eOp dIx (eVar 1) (eCall f__law_roll (aCons (eVar 0) (aCons (eB fLen (aCons (eVar 1) aNil)) aNil)))))
def f__law_pick : Fn := callF 2 0 b__law_pick
theorem ok__law_pick (T : Txt K mg A) : FnOk P w K mg base (L2.CX P w) 3 A.f__law_pick A.d__law_pick ["dice", "things"] (spF (wd K A) 2 f__law_pick) := fn_ok T.d__law_pick.fn sc__law_pick rfl fun cdv A2 outer s H E hr tk hp => (s_one (s_ret (x_ix (fun _ _ => rfl) (x_var 1) (x_call arity_callF (ok__law_roll T) (hr.mono (by decide : 2 ≤ 2)) rfl T.d__law_roll.mgf T.d__law_roll.fn.kp T.d__law_roll.bd tk (a_cons (x_var 0) (a_cons (x_callB len_r len_d b_len rfl T.n_len (a_cons (x_var 1) a_nil)) a_nil))))))
/-- _law_value: 0 dice, 1 width, 2 way -/
def b__law_value : SM := (sSeq (sAs (eCall f__law_roll (aCons (eVar 0) (aCons (eC (.int 10)) aNil))) (gN 2)) (sSeq (sIf (tV (eOp dEq (eVar 2) (eC (.int 0)))) (sRet (eC .non)) sNil) (sRet (eIf (tV (eOp dEq (eVar 2) (eC (.int 1)))) (eTr (eCall f__law_pick (aCons (eVar 0) (aCons (eLst (aCons (eC (.str [97])) (aCons (eC (.str [98])) aNil))) aNil)))) (eCall f__law_roll (aCons (eVar 0) (aCons (eVar 1) aNil)))))))
def f__law_value : Fn := callF 2 1 b__law_value
theorem ok__law_value (T : Txt K mg A) : FnOk P w K mg base (L2.CX P w) 4 A.f__law_value A.d__law_value ["dice", "width"] (spF (wd K A) 2 f__law_value) := fn_ok T.d__law_value.fn sc__law_value rfl fun cdv A2 outer s H E hr tk hp => (s_seq (s_set 2 sc__law_value.nd (x_call arity_callF (ok__law_roll T) (hr.mono (by decide : 2 ≤ 3)) rfl T.d__law_roll.mgf T.d__law_roll.fn.kp T.d__law_roll.bd tk (a_cons (x_var 0) (a_cons x_int a_nil)))) (s_seq (s_if (t_eq hr (x_var 2) x_int) (s_one (s_ret x_non)) s_nil) (s_one (s_ret (x_if (t_eq hr (x_var 2) x_int) (x_tr (x_call arity_callF (ok__law_pick T) (hr.mono (by decide : 3 ≤ 3)) rfl T.d__law_pick.mgf T.d__law_pick.fn.kp T.d__law_pick.bd tk (a_cons (x_var 0) (a_cons (x_lst (a_cons x_str (a_cons x_str a_nil))) a_nil)))) (x_call arity_callF (ok__law_roll T) (hr.mono (by decide : 2 ≤ 3)) rfl T.d__law_roll.mgf T.d__law_roll.fn.kp T.d__law_roll.bd tk (a_cons (x_var 0) (a_cons (x_var 1) a_nil))))))))
/-- _law_choices: 0 many, 1 found, 2 at, 3 one -/
def L1__law_choices : SM := (sAs (eOp dAdd (eVar 1) (eLc [3] (iLst (eVar 1)) (.one 3) tY (eOp dAdd (eVar 3) (eTup (aCons (eVar 2) aNil))))) (gN 1))
def b__law_choices : SM := (sSeq (sAs (eLst (aCons (eTup aNil) aNil)) (gN 1)) (sSeq (sFor (iRn1 (aCons (eVar 0) aNil)) (gN 2) L1__law_choices) (sRet (eVar 1))))
def f__law_choices : Fn := callF 1 3 b__law_choices
theorem ok__law_choices (T : Txt K mg A) : FnOk P w K mg base (L2.CX P w) 2 A.f__law_choices A.d__law_choices ["many"] (spF (wd K A) 1 f__law_choices) := fn_ok T.d__law_choices.fn sc__law_choices rfl fun cdv A2 outer s H E hr tk hp => (s_seq (s_set 1 sc__law_choices.nd (x_lst (a_cons (x_tup a_nil) a_nil))) (s_seq (s_for hp rfl (i_rng1 rfl T.n_range (a_cons (x_var 0) a_nil)) (g_name 2 sc__law_choices.nd) (s_one (s_set 1 sc__law_choices.nd (x_add rfl (x_var 1) (x_lc (own := [("one", 3)]) rfl sc__law_choices.nd (i_seq (x_var 1)) (blkOk_by (by kernel_rfl)) (by decide) (fun _ _ _ _ _ => pg_one sc__law_choices.nd) (fun _ _ _ _ _ => t_yes) (fun _ _ _ _ _ => (x_add rfl (x_var 3) (x_tup (a_cons (x_var 2) a_nil))))))))) (s_one (s_ret (x_var 1)))))
/-- _law_rises: 0 values, 1 choice, 2 own, 3 at, 4 value, 5 one, 6 two -/
def b__law_rises : SM := (sSeq (sAs (eTr (eLc [3] (iLst (eVar 1)) (.one 3) tY (eOp dIx (eVar 0) (eVar 3)))) (gN 2)) (sSeq (sIf (tN (tV (eTr (eB fAll (aCons (eLc [4] (iLst (eVar 2)) (.one 4) tY (eB (fIs "int") (aCons (eVar 4) aNil))) aNil))))) (sRet (eC (.bl false))) sNil) (sRet (eTr (eB fAll (aCons (eLc [5, 6] (iZp (aCons (eVar 2) (aCons (eSl dSl (eVar 2) (oSo (eC (.int 1))) oNo) aNil))) (.many [5, 6]) tY (eOp dLt (eVar 5) (eVar 6))) aNil))))))
def f__law_rises : Fn := callF 2 5 b__law_rises
theorem ok__law_rises (T : Txt K mg A) : FnOk P w K mg base (L2.CX P w) 2 A.f__law_rises A.d__law_rises ["values", "choice"] (spF (wd K A) 2 f__law_rises) := fn_ok T.d__law_rises.fn sc__law_rises rfl fun cdv A2 outer s H E hr tk hp => (s_seq (s_setLc (own := [("at", 3)]) 2 rfl sc__law_rises.nd rfl (sw_true rfl rfl rfl rfl) (i_seq (x_var 1)) (blkOk_by (by kernel_rfl)) (by decide) (fun _ _ _ _ _ => pg_one sc__law_rises.nd) (fun _ _ _ _ _ => t_yes) (fun _ _ _ _ _ => (x_ix (fun _ _ => rfl) (x_var 0) (x_var 3)))) (s_seq (s_if (t_not (t_val (x_tr (x_callB (cr_all rfl) all_d b_all rfl T.n_all (a_cons (x_lc (own := [("value", 4)]) rfl sc__law_rises.nd (i_seq (x_var 2)) (blkOk_by (by kernel_rfl)) (by decide) (fun _ _ _ _ _ => pg_one sc__law_rises.nd) (fun _ _ _ _ _ => t_yes) (fun _ _ _ _ _ => (x_isi (T := "int") b_int rfl T.n_isinstance rfl T.n_int (x_var 4)))) a_nil))))) (s_one (s_ret x_bl)) s_nil) (s_one (s_ret (x_tr (x_callB (cr_all rfl) all_d b_all rfl T.n_all (a_cons (x_lc (own := [("one", 5), ("two", 6)]) rfl sc__law_rises.nd (i_zip rfl T.n_zip (a_cons (x_var 2) (a_cons (x_sl (x_var 2) (o_so x_int) o_no) a_nil))) (blkOk_by (by kernel_rfl)) (by decide) (fun _ _ _ _ _ => pg_many rfl (pgs_cons (pg_name (i := 5) sc__law_rises.nd rfl (Or.inl rfl) (Or.inr rfl)) (pgs_cons (pg_name (i := 6) sc__law_rises.nd rfl (Or.inl rfl) (Or.inr rfl)) pgs_nil))) (fun _ _ _ _ _ => t_yes) (fun _ _ _ _ _ => (x_lt (x_var 5) (x_var 6)))) a_nil)))))))
/-- _law_streaks: 0 values, 1 found, 2 begin, 3 at -/
def L1__law_streaks : SM := (sIf (tO (tV (eOp dEq (eVar 3) (eB fLen (aCons (eVar 0) aNil)))) (tV (eOp dNe (eOp dIx (eVar 0) (eVar 3)) (eOp dIx (eVar 0) (eVar 2))))) (sSeq (sEx (eM "list" fAppend (eVar 1) (aCons (eTup (aCons (eOp dIx (eVar 0) (eVar 2)) (aCons (eVar 2) (aCons (eOp dSub (eVar 3) (eVar 2)) aNil)))) aNil))) (sAs (eVar 3) (gN 2))) sNil)
def b__law_streaks : SM := (sSeq (sAs (eLst aNil) (gN 1)) (sSeq (sAs (eC (.int 0)) (gN 2)) (sSeq (sFor (iRn2 (aCons (eC (.int 1)) (aCons (eOp dAdd (eB fLen (aCons (eVar 0) aNil)) (eC (.int 1))) aNil))) (gN 3) L1__law_streaks) (sRet (eB fTuple (aCons (eVar 1) aNil))))))
def f__law_streaks : Fn := callF 1 3 b__law_streaks
theorem ok__law_streaks (T : Txt K mg A) : FnOk P w K mg base (L2.CX P w) 2 A.f__law_streaks A.d__law_streaks ["values"] (spF (wd K A) 1 f__law_streaks) := fn_ok T.d__law_streaks.fn sc__law_streaks rfl fun cdv A2 outer s H E hr tk hp => (s_seq (s_set 1 sc__law_streaks.nd (x_lst a_nil)) (s_seq (s_set 2 sc__law_streaks.nd x_int) (s_seq (s_for hp rfl (i_rng2 rfl T.n_range (a_cons x_int (a_cons (x_add rfl (x_callB len_r len_d b_len rfl T.n_len (a_cons (x_var 0) a_nil)) x_int) a_nil))) (g_name 3 sc__law_streaks.nd) (s_one (s_if (t_bool (b_or (t_eq hr (x_var 3) (x_callB len_r len_d b_len rfl T.n_len (a_cons (x_var 0) a_nil))) (b_or1 (t_ne hr (x_ix (fun _ _ => rfl) (x_var 0) (x_var 3)) (x_ix (fun _ _ => rfl) (x_var 0) (x_var 2)))))) (s_seq (s_ex (x_append (x_var 1) (x_tup (a_cons (x_ix (fun _ _ => rfl) (x_var 0) (x_var 2)) (a_cons (x_var 2) (a_cons (x_sub (x_var 3) (x_var 2)) a_nil)))))) (s_one (s_set 2 sc__law_streaks.nd (x_var 3)))) s_nil))) (s_one (s_ret (x_callTy call_tuple_of tuple_d b_tuple rfl T.n_tuple (a_cons (x_var 1) a_nil)))))))
/-- _law_best: 0 values, 1 best, 2 choice -/
def L1__law_best : SM := (sIf (tAn (tV (eCall f__law_rises (aCons (eVar 0) (aCons (eVar 2) aNil)))) (tO (tV (eOp dGt (eB fLen (aCons (eVar 2) aNil)) (eB fLen (aCons (eVar 1) aNil)))) (tAn (tV (eOp dEq (eB fLen (aCons (eVar 2) aNil)) (eB fLen (aCons (eVar 1) aNil)))) (tV (eOp dLtD (eVar 2) (eVar 1)))))) (sAs (eVar 2) (gN 1)) sNil)
def b__law_best : SM := (sSeq (sAs (eTup aNil) (gN 1)) (sSeq (sFor (iLst (eCall f__law_choices (aCons (eB fLen (aCons (eVar 0) aNil)) aNil))) (gN 2) L1__law_best) (sRet (eVar 1))))
def f__law_best : Fn := callF 1 2 b__law_best
theorem ok__law_best (T : Txt K mg A) : FnOk P w K mg base (L2.CX P w) 3 A.f__law_best A.d__law_best ["values"] (spF (wd K A) 1 f__law_best) := fn_ok T.d__law_best.fn sc__law_best rfl fun cdv A2 outer s H E hr tk hp => (s_seq (s_set 1 sc__law_best.nd (x_tup a_nil)) (s_seq (s_for hp rfl (i_seq (x_call arity_callF (ok__law_choices T) (hr.mono (by decide : 2 ≤ 2)) rfl T.d__law_choices.mgf T.d__law_choices.fn.kp T.d__law_choices.bd tk (a_cons (x_callB len_r len_d b_len rfl T.n_len (a_cons (x_var 0) a_nil)) a_nil))) (g_name 2 sc__law_best.nd) (s_one (s_if (t_bool (b_and (t_val (x_call arity_callF (ok__law_rises T) (hr.mono (by decide : 2 ≤ 2)) rfl T.d__law_rises.mgf T.d__law_rises.fn.kp T.d__law_rises.bd tk (a_cons (x_var 0) (a_cons (x_var 2) a_nil)))) (b_and1 (t_bool (b_or (t_gt (x_callB len_r len_d b_len rfl T.n_len (a_cons (x_var 2) a_nil)) (x_callB len_r len_d b_len rfl T.n_len (a_cons (x_var 1) a_nil))) (b_or1 (t_bool (b_and (t_eq hr (x_callB len_r len_d b_len rfl T.n_len (a_cons (x_var 2) a_nil)) (x_callB len_r len_d b_len rfl T.n_len (a_cons (x_var 1) a_nil))) (b_and1 (t_ltT hr (x_var 2) (x_var 1))))))))))) (s_one (s_set 1 sc__law_best.nd (x_var 2))) s_nil))) (s_one (s_ret (x_var 1)))))
/-- law: 0 script, 1 spot, 2 dice, 3 width, 4 values, 5 turn, 6 table, 7 at, 8 value, 9 told, 10 choice, 11 wrong, 12 own -/
def L1_law : SM := (sIf (tV (eOp dNe (kCall f_is_rising (gP 0 3 [2, 1, 0]) aNil (aCons (eVar 10) (aCons (eC (.str [113])) (aCons (eVar 6) aNil)))) (eCall f__law_rises (aCons (eVar 4) (aCons (eVar 10) aNil))))) (sRet (eC (.bl false))) sNil)
def L2_law : SM := (sScope L1_law)
def L3_law : SM := (sIf (tV (eOp dNotB (eCall f_is_rising (aCons (eVar 6) (aCons (eC (.str [113])) (aCons (eVar 11) aNil)))) (eC (.bl false)))) (sRet (eC (.bl false))) sNil)
def L4_law : SM := (sSeq (sAs (eCall f__law_dice (aCons (eVar 0) (aCons (eVar 1) aNil))) (gN 2)) (sSeq (sAs (eOp dAdd (eC (.int 1)) (eCall f__law_roll (aCons (eVar 2) (aCons (eC (.int 9)) aNil)))) (gN 3)) (sSeq (sAs (eTr (eLc [5] (iRn1 (aCons (eCall f__law_roll (aCons (eVar 2) (aCons (eC (.int 10)) aNil))) aNil)) (.one 5) tY (eCall f__law_value (aCons (eVar 2) (aCons (eVar 3) aNil))))) (gN 4)) (sSeq (sAs (eTup (aCons (eNam (aCons (eC (.str [113])) (aCons (eC (.str [122])) aNil))) (aCons (eTr (eB fTuple (aCons (eLc [7, 8] (iEn (aCons (eVar 4) aNil)) (.many [7, 8]) tY (eTup (aCons (eVar 8) (aCons (eVar 7) aNil)))) aNil))) aNil))) (gN 6)) (sSeq (sIf (tV (eOp dNe (kCall f_streaks (gP 0 2 [1, 0]) aNil (aCons (eC (.str [113])) (aCons (eVar 6) aNil))) (eIf (tV (eOp dGt (eB fLen (aCons (eVar 4) aNil)) (eC (.int 0)))) (eCall f__law_streaks (aCons (eVar 4) aNil)) (eTup aNil)))) (sRet (eC (.bl false))) sNil) (sSeq (sAs (kCall f_rising (gP 0 2 [1, 0]) aNil (aCons (eC (.str [113])) (aCons (eVar 6) aNil))) (gN 9)) (sSeq (sIf (tO (tV (eOp dNe (eVar 9) (eCall f__law_best (aCons (eVar 4) aNil)))) (tN (tV (eCall f_is_rising (aCons (eVar 6) (aCons (eC (.str [113])) (aCons (eVar 9) aNil))))))) (sRet (eC (.bl false))) sNil) (sSeq (sFor (iLst (eCall f__law_choices (aCons (eB fLen (aCons (eVar 4) aNil)) aNil))) (gN 10) L2_law) (sFor (iLst (eTup (aCons (eC .non) (aCons (eOp dAdd (eB fList (aCons (eVar 9) aNil)) (eLst (aCons (eC (.int 0)) aNil))) (aCons (eTup (aCons (eC (.int 0)) (aCons (eC (.int 0)) aNil))) (aCons (eTup (aCons (eC (.int 1)) (aCons (eC (.int 0)) aNil))) (aCons (eTup (aCons (eB fLen (aCons (eVar 4) aNil)) aNil)) (aCons (eTup (aCons (eU dNeg (eC (.int 1))) aNil)) (aCons (eNam (aCons (eC (.str [113])) aNil)) (aCons (eTup (aCons (eC (.bl true)) aNil)) (aCons (eTup (aCons (eTup aNil) aNil)) aNil))))))))))) (gN 11) L3_law)))))))))
def L5_law : SM := (sScope L4_law)
def L6_law : SM := (sSeq (sAs (eTup (aCons (eNam (aCons (eC (.str [113])) aNil)) (aCons (eTup (aCons (eTup (aCons (eC (.int 1)) aNil)) (aCons (eTup (aCons (eC (.int 5)) aNil)) (aCons (eTup (aCons (eC (.int 2)) aNil)) (aCons (eTup (aCons (eC (.int 3)) aNil)) aNil))))) aNil))) (gN 12)) (sSeq (sAs (eLst (aCons (lamF 0 (fun _ => some (.str [])) some (eCall f_streaks (aCons (eC .non) (aCons (eC (.str [113])) aNil)))) (aCons (lamF 0 (fun _ => some (.str [])) some (eCall f_streaks (aCons (eVar 12) (aCons (eC (.int 5)) aNil)))) (aCons (lamF 0 (fun _ => some (.str [])) some (eCall f_rising (aCons (eVar 12) (aCons (eC (.str [122])) aNil)))) (aCons (lamF 0 (fun _ => some (.str [])) some (eCall f_rising (aCons (eTup (aCons (eNam (aCons (eC (.str [113])) aNil)) aNil)) (aCons (eC (.str [113])) aNil)))) (aCons (lamF 0 (fun _ => some (.str [])) some (eCall f_is_rising (aCons (eVar 12) (aCons (eC (.str [122])) (aCons (eTup aNil) aNil))))) (aCons (lamF 0 (fun _ => some (.str [])) some (eCall f_is_rising (aCons (eC .non) (aCons (eC (.str [122])) (aCons (eTup aNil) aNil))))) aNil))))))) (gN 9)) (sSeq (sIf (tV (eOp dNe (eVar 9) (eLst (aCons (eC (.str [116, 97, 98, 108, 101])) (aCons (eC (.str [110, 97, 109, 101])) (aCons (eC (.str [110, 97, 109, 101])) (aCons (eC (.str [116, 97, 98, 108, 101])) (aCons (eC (.str [110, 97, 109, 101])) (aCons (eC (.str [116, 97, 98, 108, 101])) aNil))))))))) (sRet (eC (.bl false))) sNil) (sRet (eAn (eOp dEq (eCall f_rising (aCons (eVar 12) (aCons (eC (.str [113])) aNil))) (eTup (aCons (eC (.int 0)) (aCons (eC (.int 2)) (aCons (eC (.int 3)) aNil))))) (eAn (eOp dEq (eOp dIx (eCall f_streaks (aCons (eVar 12) (aCons (eC (.str [113])) aNil))) (eC (.int 1))) (eTup (aCons (eC (.int 5)) (aCons (eC (.int 1)) (aCons (eC (.int 1)) aNil))))) (eCall f_is_rising (aCons (eVar 12) (aCons (eC (.str [113])) (aCons (eTup aNil) aNil))))))))))
def b_law : SM := (sSeq (sFor (iRn1 (aCons (eB fMax2 (aCons (eC (.int 1)) (aCons (eB fMin2 (aCons (eC (.int 6)) (aCons (eB fLen (aCons (eVar 0) aNil)) aNil))) aNil))) aNil)) (gN 1) L5_law) (sBlur L6_law))
def f_law : Fn := callF 1 12 b_law
theorem ok_law {c P' : Addr} (T : Txt K mg A) (TB : LamX.TabB base mg c P' ∧ (P', ("law.<locals>.<lambda>" : Str)) ∈ A.tabs ∧ ∀ q ∈ A.tabs, q.1 = P' → q.2 = ("law.<locals>.<lambda>" : Str)) (hc : A.d_law.code = .ref c) : FnOk P w K mg base (L2.CX P w) 12 A.f_law A.d_law ["script"] (spF (wd K A) 1 f_law) := fn_okC T.d_law.fn sc_law rfl fun cdv hcdv A2 outer s H E hr tk hp => by
  have hcode : cdv = .ref c := hcdv.symm.trans hc
  exact (s_seq (s_for hp rfl (i_rng1 rfl T.n_range (a_cons (x_callB (call_max2 rfl) max2_d b_max rfl T.n_max (a_cons x_int (a_cons (x_callB (call_min2 rfl) min2_d b_min rfl T.n_min (a_cons x_int (a_cons (x_callB len_r len_d b_len rfl T.n_len (a_cons (x_var 0) a_nil)) a_nil))) a_nil))) a_nil)) (g_name 1 sc_law.nd) (s_scope (s_seq (s_set 2 sc_law.nd (x_call arity_callF (ok__law_dice T) (hr.mono (by decide : 2 ≤ 11)) rfl T.d__law_dice.mgf T.d__law_dice.fn.kp T.d__law_dice.bd tk (a_cons (x_var 0) (a_cons (x_var 1) a_nil)))) (s_seq (s_set 3 sc_law.nd (x_add rfl x_int (x_call arity_callF (ok__law_roll T) (hr.mono (by decide : 2 ≤ 11)) rfl T.d__law_roll.mgf T.d__law_roll.fn.kp T.d__law_roll.bd tk (a_cons (x_var 2) (a_cons x_int a_nil))))) (s_seq (s_setLc (own := [("turn", 5)]) 4 rfl sc_law.nd rfl (sw_true rfl rfl rfl rfl) (i_rng1 rfl T.n_range (a_cons (x_call arity_callF (ok__law_roll T) (hr.mono (by decide : 2 ≤ 11)) rfl T.d__law_roll.mgf T.d__law_roll.fn.kp T.d__law_roll.bd tk (a_cons (x_var 2) (a_cons x_int a_nil))) a_nil)) (blkOk_by (by kernel_rfl)) (by decide) (fun _ _ _ _ _ => pg_one sc_law.nd) (fun _ _ _ _ _ => t_yes) (fun _ _ _ _ _ => (x_call arity_callF (ok__law_value T) (hr.mono (by decide : 4 ≤ 11)) rfl T.d__law_value.mgf T.d__law_value.fn.kp T.d__law_value.bd LamX.takes0 (a_cons (x_var 2) (a_cons (x_var 3) a_nil))))) (s_seq (s_set 6 sc_law.nd (x_tup (a_cons (x_nam (a_cons x_str (a_cons x_str a_nil))) (a_cons (x_tr (x_callTy call_tuple_of tuple_d b_tuple rfl T.n_tuple (a_cons (x_lc (own := [("at", 7), ("value", 8)]) rfl sc_law.nd (i_enum rfl T.n_enumerate (a_cons (x_var 4) a_nil)) (blkOk_by (by kernel_rfl)) (by decide) (fun _ _ _ _ _ => pg_many rfl (pgs_cons (pg_name (i := 7) sc_law.nd rfl (Or.inl rfl) (Or.inr rfl)) (pgs_cons (pg_name (i := 8) sc_law.nd rfl (Or.inl rfl) (Or.inr rfl)) pgs_nil))) (fun _ _ _ _ _ => t_yes) (fun _ _ _ _ _ => (x_tup (a_cons (x_var 8) (a_cons (x_var 7) a_nil))))) a_nil))) a_nil)))) (s_seq (s_if (t_ne hr (x_callK0 arity_callF (ok_streaks T) (hr.mono (by decide : 8 ≤ 11)) rfl T.d_streaks.mgf T.d_streaks.fn.kp (kp_streaks_name_table T) tk (k_cons x_str (k_cons (x_var 6) k_nil))) (x_if (t_gt (x_callB len_r len_d b_len rfl T.n_len (a_cons (x_var 4) a_nil)) x_int) (x_call arity_callF (ok__law_streaks T) (hr.mono (by decide : 2 ≤ 11)) rfl T.d__law_streaks.mgf T.d__law_streaks.fn.kp T.d__law_streaks.bd tk (a_cons (x_var 4) a_nil)) (x_tup a_nil))) (s_one (s_ret x_bl)) s_nil) (s_seq (s_set 9 sc_law.nd (x_callK0 arity_callF (ok_rising T) (hr.mono (by decide : 8 ≤ 11)) rfl T.d_rising.mgf T.d_rising.fn.kp (kp_rising_name_table T) tk (k_cons x_str (k_cons (x_var 6) k_nil)))) (s_seq (s_if (t_bool (b_or (t_ne hr (x_var 9) (x_call arity_callF (ok__law_best T) (hr.mono (by decide : 3 ≤ 11)) rfl T.d__law_best.mgf T.d__law_best.fn.kp T.d__law_best.bd tk (a_cons (x_var 4) a_nil))) (b_or1 (t_not (t_val (x_call arity_callF (ok_is_rising T) (hr.mono (by decide : 8 ≤ 11)) rfl T.d_is_rising.mgf T.d_is_rising.fn.kp T.d_is_rising.bd tk (a_cons (x_var 6) (a_cons x_str (a_cons (x_var 9) a_nil))))))))) (s_one (s_ret x_bl)) s_nil) (s_seq (s_for hp rfl (i_seq (x_call arity_callF (ok__law_choices T) (hr.mono (by decide : 2 ≤ 11)) rfl T.d__law_choices.mgf T.d__law_choices.fn.kp T.d__law_choices.bd tk (a_cons (x_callB len_r len_d b_len rfl T.n_len (a_cons (x_var 4) a_nil)) a_nil))) (g_name 10 sc_law.nd) (s_scope (s_one (s_if (t_ne hr (x_callK0 arity_callF (ok_is_rising T) (hr.mono (by decide : 8 ≤ 11)) rfl T.d_is_rising.mgf T.d_is_rising.fn.kp (kp_is_rising_value_name_table T) tk (k_cons (x_var 10) (k_cons x_str (k_cons (x_var 6) k_nil)))) (x_call arity_callF (ok__law_rises T) (hr.mono (by decide : 2 ≤ 11)) rfl T.d__law_rises.mgf T.d__law_rises.fn.kp T.d__law_rises.bd tk (a_cons (x_var 4) (a_cons (x_var 10) a_nil)))) (s_one (s_ret x_bl)) s_nil)))) (s_one (s_for hp rfl (i_seq (x_tup (a_cons x_non (a_cons (x_add rfl (x_callTy call_list_of list_d b_list rfl T.n_list (a_cons (x_var 9) a_nil)) (x_lst (a_cons x_int a_nil))) (a_cons (x_tup (a_cons x_int (a_cons x_int a_nil))) (a_cons (x_tup (a_cons x_int (a_cons x_int a_nil))) (a_cons (x_tup (a_cons (x_callB len_r len_d b_len rfl T.n_len (a_cons (x_var 4) a_nil)) a_nil)) (a_cons (x_tup (a_cons (x_neg x_int) a_nil)) (a_cons (x_nam (a_cons x_str a_nil)) (a_cons (x_tup (a_cons x_bl a_nil)) (a_cons (x_tup (a_cons (x_tup a_nil) a_nil)) a_nil))))))))))) (g_name 11 sc_law.nd) (s_one (s_if (t_notB (x_call arity_callF (ok_is_rising T) (hr.mono (by decide : 8 ≤ 11)) rfl T.d_is_rising.mgf T.d_is_rising.fn.kp T.d_is_rising.bd tk (a_cons (x_var 6) (a_cons x_str (a_cons (x_var 11) a_nil)))) x_bl) (s_one (s_ret x_bl)) s_nil)))))))))))))) (s_blur (s_seq (s_set 12 sc_law.nd (x_tup (a_cons (x_nam (a_cons x_str a_nil)) (a_cons (x_tup (a_cons (x_tup (a_cons x_int a_nil)) (a_cons (x_tup (a_cons x_int a_nil)) (a_cons (x_tup (a_cons x_int a_nil)) (a_cons (x_tup (a_cons x_int a_nil)) a_nil))))) a_nil)))) (s_seq (s_set 9 sc_law.nd (x_lst (a_cons (lam__law_refused T TB hcode (hr.mono (by decide : 10 ≤ 11)) (LamX.lamS_by (by kernel_rfl)) rfl (fun _ _ _ _ _ => rfl) fun A2 outer2 s2 H2 E2 fl2 c2 hr2 tk2 => (x_call arity_callF (ok_streaks T) (hr2.mono (by decide : 8 ≤ 8)) rfl T.d_streaks.mgf T.d_streaks.fn.kp T.d_streaks.bd tk2 (a_cons x_non (a_cons x_str a_nil)))) (a_cons (lam__law_refused T TB hcode (hr.mono (by decide : 10 ≤ 11)) (LamX.lamS_by (by kernel_rfl)) rfl (fun _ _ _ _ _ => rfl) fun A2 outer2 s2 H2 E2 fl2 c2 hr2 tk2 => (x_call arity_callF (ok_streaks T) (hr2.mono (by decide : 8 ≤ 8)) rfl T.d_streaks.mgf T.d_streaks.fn.kp T.d_streaks.bd tk2 (a_cons (x_var 12) (a_cons x_int a_nil)))) (a_cons (lam__law_refused T TB hcode (hr.mono (by decide : 10 ≤ 11)) (LamX.lamS_by (by kernel_rfl)) rfl (fun _ _ _ _ _ => rfl) fun A2 outer2 s2 H2 E2 fl2 c2 hr2 tk2 => (x_call arity_callF (ok_rising T) (hr2.mono (by decide : 8 ≤ 8)) rfl T.d_rising.mgf T.d_rising.fn.kp T.d_rising.bd tk2 (a_cons (x_var 12) (a_cons x_str a_nil)))) (a_cons (lam__law_refused T TB hcode (hr.mono (by decide : 10 ≤ 11)) (LamX.lamS_by (by kernel_rfl)) rfl (fun _ _ _ _ _ => rfl) fun A2 outer2 s2 H2 E2 fl2 c2 hr2 tk2 => (x_call arity_callF (ok_rising T) (hr2.mono (by decide : 8 ≤ 8)) rfl T.d_rising.mgf T.d_rising.fn.kp T.d_rising.bd tk2 (a_cons (x_tup (a_cons (x_nam (a_cons x_str a_nil)) a_nil)) (a_cons x_str a_nil)))) (a_cons (lam__law_refused T TB hcode (hr.mono (by decide : 10 ≤ 11)) (LamX.lamS_by (by kernel_rfl)) rfl (fun _ _ _ _ _ => rfl) fun A2 outer2 s2 H2 E2 fl2 c2 hr2 tk2 => (x_call arity_callF (ok_is_rising T) (hr2.mono (by decide : 8 ≤ 8)) rfl T.d_is_rising.mgf T.d_is_rising.fn.kp T.d_is_rising.bd tk2 (a_cons (x_var 12) (a_cons x_str (a_cons (x_tup a_nil) a_nil))))) (a_cons (lam__law_refused T TB hcode (hr.mono (by decide : 10 ≤ 11)) (LamX.lamS_by (by kernel_rfl)) rfl (fun _ _ _ _ _ => rfl) fun A2 outer2 s2 H2 E2 fl2 c2 hr2 tk2 => (x_call arity_callF (ok_is_rising T) (hr2.mono (by decide : 8 ≤ 8)) rfl T.d_is_rising.mgf T.d_is_rising.fn.kp T.d_is_rising.bd tk2 (a_cons x_non (a_cons x_str (a_cons (x_tup a_nil) a_nil))))) a_nil)))))))) (s_seq (s_if (t_ne hr (x_var 9) (x_lst (a_cons x_str (a_cons x_str (a_cons x_str (a_cons x_str (a_cons x_str (a_cons x_str a_nil)))))))) (s_one (s_ret x_bl)) s_nil) (s_one (s_ret (x_and (x_eq hr (x_call arity_callF (ok_rising T) (hr.mono (by decide : 8 ≤ 11)) rfl T.d_rising.mgf T.d_rising.fn.kp T.d_rising.bd tk (a_cons (x_var 12) (a_cons x_str a_nil))) (x_tup (a_cons x_int (a_cons x_int (a_cons x_int a_nil))))) (x_and (x_eq hr (x_ix (fun _ _ => rfl) (x_call arity_callF (ok_streaks T) (hr.mono (by decide : 8 ≤ 11)) rfl T.d_streaks.mgf T.d_streaks.fn.kp T.d_streaks.bd tk (a_cons (x_var 12) (a_cons x_str a_nil))) x_int) (x_tup (a_cons x_int (a_cons x_int (a_cons x_int a_nil))))) (x_one (x_call arity_callF (ok_is_rising T) (hr.mono (by decide : 8 ≤ 11)) rfl T.d_is_rising.mgf T.d_is_rising.fn.kp T.d_is_rising.bd tk (a_cons (x_var 12) (a_cons x_str (a_cons (x_tup a_nil) a_nil))))))))))))))
end
end K24
end
section
set_option linter.all false
set_option maxHeartbeats 4000000
/-! # the defs about tables that several laws reach -/
namespace G.C
open PySem PySem.Spec PyProof.Rows L2 G
abbrev SGN : List Nat := [32, 33, 34, 35, 36, 38, 39, 40, 41, 42, 43, 44, 45, 46, 47, 48, 49, 50, 51, 52, 53, 54, 55, 56, 57, 58, 59, 60, 61, 62, 63, 64, 65, 66, 67, 68, 69, 70, 71, 72, 73, 74, 75, 76, 77, 78, 79, 80, 81, 82, 83, 84, 85, 86, 87, 88, 89, 90, 91, 92, 93, 94, 95, 96, 97, 98, 99, 100, 101, 102, 103, 104, 105, 106, 107, 108, 109, 110, 111, 112, 113, 114, 115, 116, 117, 118, 119, 120, 121, 122, 123, 124, 125, 126]
abbrev LTR : List Nat := [97, 98, 99, 100, 101, 102, 103, 104, 105, 106, 107, 108, 109, 110, 111, 112, 113, 114, 115, 116, 117, 118, 119, 120, 121, 122]
def b_is_signs : SM := (sRet (eAn (eB (fIs "str") (aCons (eVar 0) aNil)) (eAn (eChain dLe dLe (eVar 1) (eB fLen (aCons (eVar 0) aNil)) (eVar 2)) (eTr (eB fAll (aCons (eLc [3] (iLst (eVar 0)) (.one 3) tY (eOp dInC (eVar 3) (eC (.str SGN)))) aNil))))))
def is_signs : Fn := callF 3 1 b_is_signs
def b_is_value : SM := (sRet (eO (eOp dIsN (eVar 0) (eC .non)) (eO (eCall is_in (aCons (eVar 0) (aCons (eC (.int (-1000000))) (aCons (eC (.int 1000000)) aNil)))) (eCall is_signs (aCons (eVar 0) (aCons (eC (.int 1)) (aCons (eC (.int 12)) aNil)))))))
def is_value : Fn := callF 1 0 b_is_value
def b_is_name : SM := (sRet (eAn (eB (fIs "str") (aCons (eVar 0) aNil)) (eAn (eChain dLe dLe (eC (.int 1)) (eB fLen (aCons (eVar 0) aNil)) (eC (.int 10))) (eTr (eB fAll (aCons (eLc [1] (iLst (eVar 0)) (.one 1) tY (eOp dInC (eVar 1) (eC (.str LTR)))) aNil))))))
def is_name : Fn := callF 1 1 b_is_name
def b_are_names : SM := (sRet (eAn (eCall is_tuple (aCons (eVar 0) (aCons (eVar 1) (aCons (eVar 2) aNil)))) (eAn (eTr (eB fAll (aCons (eLc [3] (iLst (eVar 0)) (.one 3) tY (eCall is_name (aCons (eVar 3) aNil))) aNil))) (eOp dEq (eLenS (eVar 0)) (eB fLen (aCons (eVar 0) aNil))))))
def are_names : Fn := callF 3 1 b_are_names
def b_is_row : SM := (sRet (eAn (eCall is_tuple (aCons (eVar 0) (aCons (eVar 1) (aCons (eVar 1) aNil)))) (eTr (eB fAll (aCons (eLc [2] (iLst (eVar 0)) (.one 2) tY (eCall is_value (aCons (eVar 2) aNil))) aNil)))))
def is_row : Fn := callF 2 1 b_is_row
def b_is_table : SM := (sSeq (sIf (tO (tN (tV (eCall is_tuple (aCons (eVar 0) (aCons (eC (.int 2)) (aCons (eC (.int 2)) aNil)))))) (tO (tN (tV (eCall are_names (aCons (eOp dIx (eVar 0) (eC (.int 0))) (aCons (eC (.int 1)) (aCons (eC (.int 8)) aNil)))))) (tN (tV (eCall is_tuple (aCons (eOp dIx (eVar 0) (eC (.int 1))) (aCons (eC (.int 0)) (aCons (eC (.int 200)) aNil)))))))) (sRet (eC (.bl false))) sNil) (sRet (eTr (eB fAll (aCons (eLc [1] (iLst (eOp dIx (eVar 0) (eC (.int 1)))) (.one 1) tY (eCall is_row (aCons (eVar 1) (aCons (eB fLen (aCons (eOp dIx (eVar 0) (eC (.int 0))) aNil)) aNil)))) aNil)))))
def is_table : Fn := callF 1 1 b_is_table
def b_demand_table : SM := (sEx (eCall demand (aCons (eCall is_table (aCons (eVar 0) aNil)) (aCons (eC (.str [116, 97, 98, 108, 101])) aNil))))
def demand_table : Fn := callF 1 0 b_demand_table
def b_at_name : SM := (sRet (eOp dIx (eVar 0) (eTIx (eVar 1) (eVar 2))))
def at_name : Fn := callF 3 0 b_at_name
def b_demand_column : SM := (sSeq (sEx (eCall demand_table (aCons (eVar 0) aNil))) (sEx (eCall demand (aCons (eAn (eB (fIs "str") (aCons (eVar 1) aNil)) (eOp dIn (eVar 1) (eOp dIx (eVar 0) (eC (.int 0))))) (aCons (eC (.str [110, 97, 109, 101])) aNil)))))
def demand_column : Fn := callF 2 0 b_demand_column

/-! ### values, names, rows, tables that are good -/
def GoodS (s : List Nat) : Prop := 1 ≤ s.length ∧ s.length ≤ 12 ∧ ∀ c ∈ s, c ∈ SGN
def GoodN (s : List Nat) : Prop := 1 ≤ s.length ∧ s.length ≤ 10 ∧ ∀ c ∈ s, c ∈ LTR
inductive GoodV : D → Prop
  | non : GoodV .non
  | int {i : Int} : -1000000 ≤ i → i ≤ 1000000 → GoodV (.int i)
  | str {s : List Nat} : GoodS s → GoodV (.str s)
structure GoodT (names : List (List Nat)) (rows : List (List D)) : Prop where
  n1 : 1 ≤ names.length
  n8 : names.length ≤ 8
  nn : ∀ s ∈ names, GoodN s
  nd : names.Nodup
  r2 : rows.length ≤ 200
  rl : ∀ r ∈ rows, r.length = names.length
  rv : ∀ r ∈ rows, ∀ v ∈ r, GoodV v
abbrev tabD (names : List (List Nat)) (rows : List (List D)) : D := .tup [.nam names, .tup (rows.map D.tup)]
section
variable {M : Ms} {v : D} {s : List Nat} {names : List (List Nat)} {rows : List (List D)} {row : List D}
@[simp] theorem is_str_s : fIs "str" [.str s] M = some (.ok (.bl true), M) := rfl
@[simp] theorem is_str_n : fIs "str" [.non] M = some (.ok (.bl false), M) := rfl
@[simp] theorem is_str_i {i : Int} : fIs "str" [.int i] M = some (.ok (.bl false), M) := rfl
@[simp] theorem is_tup_nam : fIs "tuple" [.nam names] M = some (.ok (.bl true), M) := rfl
@[simp] theorem len_nam : fLen [.nam names] M = some (.ok (.int names.length), M) := by
  have h : itemsOf M (.nam names) = some (names.map D.str) := rfl
  unfold fLen
  simp only [h, List.length_map]
theorem len_str (h : s.length ≤ sizeLine) : fLen [.str s] M = some (.ok (.int s.length), M) := by
  unfold fLen
  exact if_pos h
theorem tuple_nam {lo hi : Int} : is_tuple [.nam names, .int lo, .int hi] M = some (.ok (.bl (decide (lo ≤ names.length ∧ (names.length : Int) ≤ hi))), M) := by
  simp only [is_tuple, callF]
  by_cases h : lo ≤ names.length
  · by_cases h2 : (names.length : Int) ≤ hi <;> simp [h, h2]
  · simp [h]
theorem all_in {ρ : Ro} {i j : Nat} {L : List Nat} (hi : ρ[i]? = some (some (.str s))) (hj : j < ρ.length) (hij : i ≠ j) (hl : s.length ≤ 1000) (hs : ∀ c ∈ s, c ∈ L) : (eTr (eB fAll (aCons (eLc [j] (iLst (eVar i)) (.one j) tY (eOp dInC (eVar j) (eC (.str L)))) aNil))) ρ M = some (.ok (.bl true), M) := by
  have h := all_comp (own := [j]) (im := iLst (eVar i)) (tg := .one j) (e := eOp dInC (eVar j) (eC (.str L))) (ρ := ρ) (M := M) (l := s) (f := fun c => D.str [c]) (gd := []) (p := fun _ => true) (by simp [hi]) Src.ix_nil (size_ge (by omega))
    fun c hc => ⟨_, rfl, fun k => by
      have e : ((wipeR ρ [j]).set j (some (.str [c])))[j]? = some (some (.str [c])) := List.getElem?_set_self (by simpa using hj)
      simp only [ev_op, ev_var, e, ev_c, bnd_ok]
      show some (Res.ok (D.bl (decide (c ∈ L))), _) = _
      rw [decide_eq_true (hs c hc)]⟩
  rw [h]
  simp
theorem signs_ok (h : GoodS s) : is_signs [.str s, .int 1, .int 12] M = some (.ok (.bl true), M) := by
  obtain ⟨h1, h2, h3⟩ := h
  have hl := len_str (M := M) (s := s) (size_ge (by omega))
  have h4 := all_in (M := M) (ρ := [some (.str s), some (.int 1), some (.int 12), none]) (i := 0) (j := 3) (L := SGN) rfl (by simp) (by decide) (by omega) h3
  have e1 : (1 : Int) ≤ s.length := by omega
  have e2 : (s.length : Int) ≤ 12 := by omega
  have u : is_signs [.str s, .int 1, .int 12] M = finF M (b_is_signs [some (.str s), some (.int 1), some (.int 12), none] M) := callF_eq rfl
  rw [u, b_is_signs]
  have e : (eAn (eChain dLe dLe (eVar 1) (eB fLen (aCons (eVar 0) aNil)) (eVar 2)) (eTr (eB fAll (aCons (eLc [3] (iLst (eVar 0)) (.one 3) tY (eOp dInC (eVar 3) (eC (.str SGN)))) aNil)))) [some (.str s), some (.int 1), some (.int 12), none] M = some (.ok (.bl true), M) := an_bl (a := true) (b := true) (by simp [hl, e1, e2]) fun _ => h4
  rw [ret_ok (an_bl (a := true) (b := true) (bcall1 (var_e rfl) is_str_s) fun _ => e)]
  exact fin_bl
theorem value_ok (h : GoodV v) : is_value [v] M = some (.ok (.bl true), M) := by
  have u : is_value [v] M = finF M (b_is_value [some v] M) := callF_eq rfl
  rw [u, b_is_value]
  cases h with
  | non =>
    have : (eO (eOp dIsN (eVar 0) (eC .non)) (eO (eCall is_in (aCons (eVar 0) (aCons (eC (.int (-1000000))) (aCons (eC (.int 1000000)) aNil)))) (eCall is_signs (aCons (eVar 0) (aCons (eC (.int 1)) (aCons (eC (.int 12)) aNil)))))) [some .non] M = some (.ok (.bl true), M) := by simp
    rw [ret_ok this]
    exact fin_bl
  | @int i h1 h2 =>
    have : (eO (eOp dIsN (eVar 0) (eC .non)) (eO (eCall is_in (aCons (eVar 0) (aCons (eC (.int (-1000000))) (aCons (eC (.int 1000000)) aNil)))) (eCall is_signs (aCons (eVar 0) (aCons (eC (.int 1)) (aCons (eC (.int 12)) aNil)))))) [some (.int i)] M = some (.ok (.bl true), M) := by simp [h1, h2]
    rw [ret_ok this]
    exact fin_bl
  | @str s h1 =>
    have : (eO (eOp dIsN (eVar 0) (eC .non)) (eO (eCall is_in (aCons (eVar 0) (aCons (eC (.int (-1000000))) (aCons (eC (.int 1000000)) aNil)))) (eCall is_signs (aCons (eVar 0) (aCons (eC (.int 1)) (aCons (eC (.int 12)) aNil)))))) [some (.str s)] M = some (.ok (.bl true), M) := by
      have := signs_ok (M := M) h1
      simp [this]
    rw [ret_ok this]
    exact fin_bl
theorem name_ok (h : GoodN s) : is_name [.str s] M = some (.ok (.bl true), M) := by
  obtain ⟨h1, h2, h3⟩ := h
  have hl := len_str (M := M) (s := s) (size_ge (by omega))
  have h4 := all_in (M := M) (ρ := [some (.str s), none]) (i := 0) (j := 1) (L := LTR) rfl (by simp) (by decide) (by omega) h3
  have e1 : (1 : Int) ≤ s.length := by omega
  have e2 : (s.length : Int) ≤ 10 := by omega
  have u : is_name [.str s] M = finF M (b_is_name [some (.str s), none] M) := callF_eq rfl
  rw [u, b_is_name]
  have e : (eAn (eChain dLe dLe (eC (.int 1)) (eB fLen (aCons (eVar 0) aNil)) (eC (.int 10))) (eTr (eB fAll (aCons (eLc [1] (iLst (eVar 0)) (.one 1) tY (eOp dInC (eVar 1) (eC (.str LTR)))) aNil)))) [some (.str s), none] M = some (.ok (.bl true), M) := an_bl (a := true) (b := true) (by simp [hl, e1, e2]) fun _ => h4
  rw [ret_ok (an_bl (a := true) (b := true) (bcall1 (var_e rfl) is_str_s) fun _ => e)]
  exact fin_bl
theorem names_ok (h1 : 1 ≤ names.length) (h8 : names.length ≤ 8) (hn : ∀ s ∈ names, GoodN s) (nd : names.Nodup) : are_names [.nam names, .int 1, .int 8] M = some (.ok (.bl true), M) := by
  have u : are_names [.nam names, .int 1, .int 8] M = finF M (b_are_names [some (.nam names), some (.int 1), some (.int 8), none] M) := callF_eq rfl
  have e1 : is_tuple [.nam names, .int 1, .int 8] M = some (.ok (.bl true), M) := by
    rw [tuple_nam, decide_eq_true]
    omega
  have e2 := all_comp (own := [3]) (im := iLst (eVar 0)) (tg := .one 3) (e := (eCall is_name (aCons (eVar 3) aNil))) (ρ := [some (.nam names), some (.int 1), some (.int 8), none]) (M := M) (l := names) (f := D.str) (gd := []) (p := fun _ => true) (by simp) Src.ix_nil (size_ge (by omega))
    fun s hs => ⟨_, rfl, fun k => call1 (var_e rfl) (name_ok (hn s hs))⟩
  have e2' : (eTr (eB fAll (aCons (eLc [3] (iLst (eVar 0)) (.one 3) tY (eCall is_name (aCons (eVar 3) aNil))) aNil))) [some (.nam names), some (.int 1), some (.int 8), none] M = some (.ok (.bl true), M) := by
    rw [e2]
    simp
  have e3 : (eLenS (eVar 0)) [some (.nam names), some (.int 1), some (.int 8), none] M = some (.ok (.int names.length), M) := by
    unfold eLenS
    rw [var_e rfl, bnd_ok]
    show (if names.length ≤ 1000 then _ else _) = _
    rw [if_pos (by omega), dcD_nodup nd]
  rw [u, b_are_names, ret_ok (an_bl (a := true) (b := true) (call3 (var_e rfl) (var_e rfl) (var_e rfl) e1) fun _ => an_bl (a := true) (b := true) e2' fun _ => op2 e3 (bcall1 (var_e rfl) len_nam) (by rw [eq_ii, decide_eq_true rfl]))]
  exact fin_bl
theorem row_ok {n : Nat} (hn : n ≤ 8) (h1 : row.length = n) (hv : ∀ v ∈ row, GoodV v) : is_row [.tup row, .int n] M = some (.ok (.bl true), M) := by
  have u : is_row [.tup row, .int n] M = finF M (b_is_row [some (.tup row), some (.int n), none] M) := callF_eq rfl
  have e1 : is_tuple [.tup row, .int n, .int n] M = some (.ok (.bl true), M) := by
    rw [tuple_t, decide_eq_true]
    omega
  have e2 := all_comp (own := [2]) (im := iLst (eVar 0)) (tg := .one 2) (e := (eCall is_value (aCons (eVar 2) aNil))) (ρ := [some (.tup row), some (.int n), none]) (M := M) (l := row) (f := id) (gd := []) (p := fun _ => true) (by simp) Src.ix_nil (size_ge (by omega))
    fun s hs => ⟨_, rfl, fun k => call1 (var_e rfl) (value_ok (hv s hs))⟩
  have e2' : (eTr (eB fAll (aCons (eLc [2] (iLst (eVar 0)) (.one 2) tY (eCall is_value (aCons (eVar 2) aNil))) aNil))) [some (.tup row), some (.int n), none] M = some (.ok (.bl true), M) := by
    rw [e2]
    simp
  rw [u, b_is_row, ret_ok (an_bl (a := true) (b := true) (call3 (var_e rfl) (var_e rfl) (var_e rfl) e1) fun _ => e2')]
  exact fin_bl
theorem ix0 {x y : D} : dIx (.tup [x, y]) (.int 0) M = some (.ok x, M) := C.ix_tup rfl
theorem ix1 {x y : D} : dIx (.tup [x, y]) (.int 1) M = some (.ok y, M) := C.ix_tup rfl
theorem table_ok (g : GoodT names rows) : is_table [tabD names rows] M = some (.ok (.bl true), M) := by
  have u : is_table [tabD names rows] M = finF M (b_is_table [some (tabD names rows), none] M) := callF_eq rfl
  have n1 := g.n1
  have n8 := g.n8
  have r2 := g.r2
  have t1 : is_tuple [tabD names rows, .int 2, .int 2] M = some (.ok (.bl true), M) := by
    rw [tuple_t, decide_eq_true]
    simp
  have t2 : is_tuple [.tup (rows.map D.tup), .int 0, .int 200] M = some (.ok (.bl true), M) := by
    rw [tuple_t, decide_eq_true]
    simp
    omega
  have e1 : (tO (tN (tV (eCall is_tuple (aCons (eVar 0) (aCons (eC (.int 2)) (aCons (eC (.int 2)) aNil)))))) (tO (tN (tV (eCall are_names (aCons (eOp dIx (eVar 0) (eC (.int 0))) (aCons (eC (.int 1)) (aCons (eC (.int 8)) aNil)))))) (tN (tV (eCall is_tuple (aCons (eOp dIx (eVar 0) (eC (.int 1))) (aCons (eC (.int 0)) (aCons (eC (.int 200)) aNil)))))))) [some (tabD names rows), none] M = some (.ok false, M) :=
    o_f (n_ok (tv_ok (call3 (var_e rfl) rfl rfl t1))) (o_f (n_ok (tv_ok (call3 (op2 (var_e rfl) rfl ix0) rfl rfl (names_ok n1 n8 g.nn g.nd)))) (n_ok (tv_ok (call3 (op2 (var_e rfl) rfl ix1) rfl rfl t2))))
  have e2 := all_comp (own := [1]) (im := iLst (eOp dIx (eVar 0) (eC (.int 1)))) (tg := .one 1) (e := (eCall is_row (aCons (eVar 1) (aCons (eB fLen (aCons (eOp dIx (eVar 0) (eC (.int 0))) aNil)) aNil)))) (ρ := [some (tabD names rows), none]) (M := M) (l := rows) (f := D.tup) (gd := []) (p := fun _ => true) (by rw [ev_iLst, op2 (var_e rfl) rfl ix1]; rfl) Src.ix_nil (size_ge (by omega))
    fun r hr => ⟨_, rfl, fun k => call2 (var_e rfl) (bcall1 (op2 (var_e rfl) rfl ix0) len_nam) (row_ok n8 (g.rl r hr) (g.rv r hr))⟩
  have e2' : (eTr (eB fAll (aCons (eLc [1] (iLst (eOp dIx (eVar 0) (eC (.int 1)))) (.one 1) tY (eCall is_row (aCons (eVar 1) (aCons (eB fLen (aCons (eOp dIx (eVar 0) (eC (.int 0))) aNil)) aNil)))) aNil))) [some (tabD names rows), none] M = some (.ok (.bl true), M) := by
    rw [e2]
    simp
  rw [u, b_is_table, seq_if0 e1, ret_ok e2']
  exact fin_bl
theorem demand_table_ok (g : GoodT names rows) : demand_table [tabD names rows] M = some (.ok .non, M) := by
  have u : demand_table [tabD names rows] M = finF M (b_demand_table [some (tabD names rows)] M) := callF_eq rfl
  have e : (sEx (eCall demand (aCons (eCall is_table (aCons (eVar 0) aNil)) (aCons (eC (.str [116, 97, 98, 108, 101])) aNil)))) [some (tabD names rows)] M = some (.nx, [some (tabD names rows)], M) := by
    rw [ev_ex, call2 (call1 (var_e rfl) (table_ok g)) rfl demand_t]
    rfl
  rw [u, b_demand_table, e]
  exact fin_nx0
theorem inD_str {z : List Nat} : ∀ A : List (List Nat), inD (.str z) (A.map D.str) = decide (z ∈ A)
  | [] => rfl
  | a :: A => by
    have ih := inD_str (z := z) A
    have e : inD (.str z) ((a :: A).map D.str) = ((a == z) || inD (.str z) (A.map D.str)) := rfl
    rw [e, ih]
    by_cases h : a = z
    · subst h; simp
    · have h2 : ¬ z = a := fun q => h q.symm
      simp [h, h2]
theorem sc_strs : ∀ A : List (List Nat), (A.map D.str).all D.sc = true
  | [] => rfl
  | a :: A => sc_strs A
theorem in_nam {z : List Nat} : dIn (.str z) (.nam names) M = some (.ok (.bl (decide (z ∈ names))), M) := by
  unfold dIn
  rw [items_nam]
  dsimp only
  rw [sc_strs, inD_str]
  rfl
theorem demand_column_ok (g : GoodT names rows) {nm : List Nat} (h : nm ∈ names) : demand_column [tabD names rows, .str nm] M = some (.ok .non, M) := by
  have u : demand_column [tabD names rows, .str nm] M = finF M (b_demand_column [some (tabD names rows), some (.str nm)] M) := callF_eq rfl
  have e1 : (eCall demand_table (aCons (eVar 0) aNil)) [some (tabD names rows), some (.str nm)] M = some (.ok .non, M) := call1 (var_e rfl) (demand_table_ok g)
  have e2 : (eAn (eB (fIs "str") (aCons (eVar 1) aNil)) (eOp dIn (eVar 1) (eOp dIx (eVar 0) (eC (.int 0))))) [some (tabD names rows), some (.str nm)] M = some (.ok (.bl true), M) := an_bl (a := true) (b := true) (bcall1 (var_e rfl) is_str_s) fun _ => op2 (var_e rfl) (op2 (var_e rfl) rfl ix0) (by rw [in_nam, decide_eq_true h])
  have e3 : (sEx (eCall demand (aCons (eAn (eB (fIs "str") (aCons (eVar 1) aNil)) (eOp dIn (eVar 1) (eOp dIx (eVar 0) (eC (.int 0))))) (aCons (eC (.str [110, 97, 109, 101])) aNil)))) [some (tabD names rows), some (.str nm)] M = some (.nx, [some (tabD names rows), some (.str nm)], M) := by
    rw [ev_ex, call2 e2 rfl demand_t]
    rfl
  rw [u, b_demand_column, seq_do e1, e3]
  exact fin_nx0
theorem ixS_get : ∀ {names : List (List Nat)} {j : Nat} {nm : List Nat}, names.Nodup → names[j]? = some nm → ixS nm names = some j
  | [], j, nm, _, h => by simp at h
  | a :: r, 0, nm, nd, h => by
    have h : a = nm := by simpa using h
    subst h
    unfold ixS
    rw [if_pos rfl]
  | a :: r, j + 1, nm, nd, h => by
    have h : r[j]? = some nm := by simpa using h
    rw [List.nodup_cons] at nd
    unfold ixS
    have hne : ¬ a = nm := fun z => nd.1 (by rw [z]; exact List.mem_of_getElem? h)
    rw [if_neg hne, ixS_get nd.2 h]
    rfl
theorem at_name_ok {j : Nat} {nm : List Nat} (nd : names.Nodup) (hj : names[j]? = some nm) (hv : row[j]? = some v) (hf : v.flat = true) : at_name [.tup row, .nam names, .str nm] M = some (.ok v, M) := by
  have u : at_name [.tup row, .nam names, .str nm] M = finF M (b_at_name [some (.tup row), some (.nam names), some (.str nm)] M) := callF_eq rfl
  have e1 : (eTIx (eVar 1) (eVar 2)) [some (.tup row), some (.nam names), some (.str nm)] M = some (.ok (.int (j : Nat)), M) := by
    unfold eTIx
    rw [var_e rfl, bnd_ok]
    dsimp only
    rw [var_e rfl, bnd_ok]
    dsimp only
    rw [ixS_get nd hj]
  rw [u, b_at_name, ret_ok (op2 (var_e rfl) e1 (C.ix_tup (atI_get hv)))]
  exact fin_fl0 hf
theorem GoodV.flat (h : GoodV v) : v.flat = true := by cases h <;> rfl
theorem sgn_ok : ∀ c ∈ SGN, c < 0x110000 := by decide
theorem GoodV.cmp (h : GoodV v) : Cmp v := by
  cases h with
  | non => exact Cmp.non
  | int => exact Cmp.int
  | @str s h =>
    refine ⟨?_, Nat.le_trans dp_str (by decide)⟩
    rw [D.nb, List.all_eq_true]
    intro c hc
    exact decide_eq_true (sgn_ok c (h.2.2 c hc))
end
end G.C
end
section
set_option linter.all false
set_option maxHeartbeats 4000000
/-! # tools: the order of data, zip of lists, ranges that go down -/
namespace G
open PySem PySem.Spec PyProof.Rows L2
theorem less_irrefl (a : D) : dLess a a = false := PyProof.Rows.lex_irrefl (O := PyProof.Rows.itemOrd) _
theorem less_trans {a b c : D} (h1 : dLess a b = true) (h2 : dLess b c = true) : dLess a c = true := PyProof.Rows.lex_trans (O := PyProof.Rows.itemOrd) _ _ _ h1 h2
theorem less_neg {a b c : D} (h : dLess a c = true) : dLess a b = true ∨ dLess b c = true := PyProof.Rows.lex_negTrans (O := PyProof.Rows.itemOrd) _ _ _ h
theorem less_asym {a b : D} (h : dLess a b = true) : dLess b a = false := by
  cases hb : dLess b a with
  | false => rfl
  | true =>
    have := less_trans h hb
    rw [less_irrefl] at this
    cases this
theorem less_cons (x : D) (l k : List D) : dLess (.tup (x :: l)) (.tup (x :: k)) = dLess (.tup l) (.tup k) := by
  show PyProof.Rows.lexLt PyProof.Rows.itemOrd (.inl 1 :: (PySem.W.keyToks x.py ++ PySem.W.keyToksAll (D.pys l))) (.inl 1 :: (PySem.W.keyToks x.py ++ PySem.W.keyToksAll (D.pys k))) = _
  rw [PyProof.Rows.lex_self (O := PyProof.Rows.itemOrd)]
  exact PySem.W.lex_pre _ _ _
theorem less_int (a b : Int) (l k : List D) (h : a ≠ b) : dLess (.tup (.int a :: l)) (.tup (.int b :: k)) = decide (a < b) := by
  show PyProof.Rows.lexLt PyProof.Rows.itemOrd (.inl 1 :: ([.inl a] ++ PySem.W.keyToksAll (D.pys l))) (.inl 1 :: ([.inl b] ++ PySem.W.keyToksAll (D.pys k))) = _
  rw [PyProof.Rows.lex_self (O := PyProof.Rows.itemOrd)]
  show PyProof.Rows.lexLt PyProof.Rows.itemOrd (.inl a :: PySem.W.keyToksAll (D.pys l)) (.inl b :: PySem.W.keyToksAll (D.pys k)) = _
  rw [PyProof.Rows.lex_diff (O := PyProof.Rows.itemOrd) (fun z => h (Sum.inl.inj z))]
  rfl
theorem less_pre (p : List D) (l k : List D) : dLess (.tup (p ++ l)) (.tup (p ++ k)) = dLess (.tup l) (.tup k) := by
  induction p with
  | nil => rfl
  | cons x p ih => rw [List.cons_append, List.cons_append, less_cons, ih]
theorem like_ints2 : ∀ ns ms : List Int, PySem.W.alikeAll (D.pys (ns.map D.int)) (D.pys (ms.map D.int)) = true
  | [], _ => by simp [D.pys, PySem.W.alikeAll]
  | _ :: _, [] => by simp [D.pys, PySem.W.alikeAll]
  | n :: ns, m :: ms => by
    show PySem.W.alikeAll (.int n :: D.pys (ns.map D.int)) (.int m :: D.pys (ms.map D.int)) = true
    rw [PySem.W.alikeAll, like_ints2 ns ms]
    rfl
theorem lt_its {ns ms : List Int} {M : Ms} : dLtD (.tup (ns.map D.int)) (.tup (ms.map D.int)) M = some (.ok (.bl (dLess (.tup (ns.map D.int)) (.tup (ms.map D.int)))), M) :=
  if_pos ⟨by rw [flat_t]; exact flats_ints ns, by rw [flat_t]; exact flats_ints ms, by
    show PySem.W.alikeAll (D.pys (ns.map D.int)) (D.pys (ms.map D.int)) = true
    exact like_ints2 ns ms, rfl, (Cmp.ints (ns := ns)).dp⟩
/-! ### all([one < two for one, two in zip(v, v[1:])]), v a list -/
theorem riseL_e {ρ : Ro} {M : Ms} {i a b n : Nat} {cs : List Int} (hi : ρ[i]? = some (some (.loc n))) (hq : seqAt M n = some (cs.map D.int)) (ha : a < ρ.length) (hb : b < ρ.length) (hab : a ≠ b) (hl : cs.length ≤ 1000) :
    eTr (eB fAll (aCons (eLc [a, b] (iZp (aCons (eVar i) (aCons (eSl dSl (eVar i) (oSo (eC (.int 1))) oNo) aNil))) (.many [a, b]) tY (eOp dLt (eVar a) (eVar b))) aNil)) ρ M = some (.ok (.bl (risB cs)), M) := by
  have c1 : cutD (cs.map D.int) (some 1) none = cs.tail.map D.int := by
    rw [show (1 : Int) = ((1 : Nat) : Int) from rfl, cut_from, List.drop_one, List.map_tail]
  have hsl : dSl (.loc n) (some 1) none M = some (.ok (.loc M.length), M ++ [.lst (cs.tail.map D.int)]) := by
    unfold dSl
    dsimp only
    rw [hq]
    dsimp only
    rw [c1]
  have hix : Src.ix ⟨(cs.zip cs.tail).map fun p => D.tup [.int p.1, .int p.2], [(n, cs.map D.int), (M.length, cs.tail.map D.int)]⟩ (M ++ [.lst (cs.tail.map D.int)]) := fun p hp => by
    simp only [List.mem_cons, List.not_mem_nil, or_false] at hp
    rcases hp with rfl | rfl
    · exact ⟨by rw [List.length_append]; have := seqAt_lt hq; omega, sq_app hq⟩
    · exact ⟨by simp, seq_last⟩
  have hsz : ∀ K : Ms, seqAt (M ++ K) n = some (cs.map D.int) := fun K => sq_app hq
  have him : iZp (aCons (eVar i) (aCons (eSl dSl (eVar i) (oSo (eC (.int 1))) oNo) aNil)) ρ M = some (.ok ⟨(cs.zip cs.tail).map fun p => D.tup [.int p.1, .int p.2], [(n, cs.map D.int), (M.length, cs.tail.map D.int)]⟩, M ++ [.lst (cs.tail.map D.int)]) := by
    have e1 : (eSl dSl (eVar i) (oSo (eC (.int 1))) oNo) ρ M = some (.ok (.loc M.length), M ++ [.lst (cs.tail.map D.int)]) := by
      rw [ev_sl, var_e hi, bnd_ok]
      exact hsl
    simp only [ev_iZp, ev_cons, ev_nil, var_e hi, bnd_ok, e1, hsz, seq_last, zip_ints]
  have hc := comp_filter2 (own := [a, b]) (tg := .many [a, b]) (t := tY) (e := eOp dLt (eVar a) (eVar b)) (p := fun _ => true) (v := fun p => D.bl (decide (p.1 < p.2))) him hix (size_ge (by rw [List.length_zip]; omega)) (fun p hp => ⟨((wipeR ρ [a, b]).set a (some (.int p.1))).set b (some (.int p.2)), rfl, fun k => ⟨rfl, fun _ => by
    have e1 : (((wipeR ρ [a, b]).set a (some (.int p.1))).set b (some (.int p.2)))[a]? = some (some (.int p.1)) := by
      rw [List.getElem?_set_ne (Ne.symm hab), List.getElem?_set_self (by simp; exact ha)]
    have e2 : (((wipeR ρ [a, b]).set a (some (.int p.1))).set b (some (.int p.2)))[b]? = some (some (.int p.2)) := by
      rw [List.getElem?_set_self (by simp; exact hb)]
    simp only [ev_op, ev_var, e1, e2, bnd_ok, lt_ii]⟩⟩)
  rw [List.filter_eq_self.mpr fun _ _ => rfl] at hc
  refine tr_fl (K := [.lst (cs.tail.map D.int), .lst ((cs.zip cs.tail).map fun p => D.bl (decide (p.1 < p.2)))]) ?_ rfl
  have h3 := all_loc (M := M ++ [.lst (cs.tail.map D.int)] ++ [.lst ((cs.zip cs.tail).map fun p => D.bl (decide (p.1 < p.2)))]) (n := (M ++ [MO.lst (cs.tail.map D.int)]).length) (bs := (cs.zip cs.tail).map fun p => decide (p.1 < p.2)) (by rw [seq_last, List.map_map]; rfl)
  rw [bcall1 hc h3, List.all_map, List.append_assoc]
  rfl
/-! ### ranges that go down -/
theorem rngC_drop' {i c : Int} {n k : Nat} (h : k < n) : (rngC i c n).drop k = .int (i + (k : Nat) * c) :: (rngC i c n).drop (k + 1) := by
  have hl : (rngC i c n).length = n := by simp [rngC]
  rw [List.drop_eq_getElem_cons (by omega)]
  congr 1
  simp [rngC]
theorem rngC_nil' {i c : Int} {n k : Nat} (h : n ≤ k) : (rngC i c n).drop k = [] := List.drop_eq_nil_of_le (by simpa [rngC] using h)
theorem rn3_down' {m : AM} {ρ : Ro} {M M1 : Ms} {i : Int} (hm : m ρ M = some (.ok [.int i, .int (-1), .int (-1)], M1)) (h1 : -1 ≤ i) (h2 : i ≤ 1000000000) : iRn3 m ρ M = some (.ok ⟨rngC i (-1) (i + 1).toNat, []⟩, M1) := by
  have e : Builtin.Range.rangeSize i (-1) (-1) = ((i - (-1)).toNat : Nat) := PySem.W.rangeSize_downNat i (-1)
  have sm : Builtin.Range.small i (-1) (-1) = true := PySem.W.small_down (by omega) (by omega) (by decide) (by decide)
  unfold iRn3
  rw [hm, bnd_ok]
  dsimp only
  rw [if_pos ⟨by decide, by decide, sm, by rw [e]; omega⟩, e, Int.toNat_natCast, show (i - (-1)).toNat = (i + 1).toNat by omega]
/-! ### max(list + [0]) of numbers from 0 on -/
theorem foldl_max_app {ns : List Int} {n : Int} : (ns ++ [n]).foldl max 0 = max (ns.foldl max 0) n := by
  rw [List.foldl_append]
  rfl
def mxz (ns : List Nat) : Nat := ns.foldl max 0
theorem mxz_ge : ∀ (ns : List Nat) (m : Nat), m ≤ ns.foldl max m ∧ ∀ x ∈ ns, x ≤ ns.foldl max m
  | [], m => ⟨Nat.le_refl _, fun x h => by cases h⟩
  | a :: r, m => by
    obtain ⟨h1, h2⟩ := mxz_ge r (max m a)
    rw [List.foldl_cons]
    exact ⟨by omega, fun x hx => (List.mem_cons.mp hx).elim (fun e => by subst e; omega) (h2 x)⟩
theorem mxz_mem : ∀ (ns : List Nat) (m : Nat), ns.foldl max m = m ∨ ns.foldl max m ∈ ns
  | [], m => .inl rfl
  | a :: r, m => by
    rw [List.foldl_cons]
    rcases mxz_mem r (max m a) with h | h
    · rw [h]
      by_cases q : m ≤ a
      · rw [Nat.max_eq_right q]; exact .inr List.mem_cons_self
      · rw [Nat.max_eq_left (by omega)]; exact .inl rfl
    · exact .inr (List.mem_cons_of_mem _ h)
abbrev nts (ns : List Nat) : List D := ns.map fun n => D.int (n : Nat)
theorem nts_ints (ns : List Nat) : nts ns = (ns.map fun n : Nat => (n : Int)).map D.int := by
  rw [List.map_map]
  rfl
theorem max_app {M : Ms} {n : Nat} {ns : List Nat} (h : seqAt M n = some (nts ns ++ [.int 0])) : fMax [.loc n] M = some (.ok (.int (mxz ns : Nat)), M) := by
  have key : ∀ (ns : List Nat) (m : Nat), (ns.map fun n : Nat => (n : Int)).foldl max (m : Int) = ((ns.foldl max m : Nat) : Int) := fun ns => by
    induction ns with
    | nil => intro m; rfl
    | cons a r ih =>
      intro m
      rw [List.map_cons, List.foldl_cons, List.foldl_cons, ← ih]
      congr 1
      omega
  cases ns with
  | nil =>
    have := max_of (M := M) (d := .loc n) (n := 0) (ns := []) h
    exact this
  | cons a r =>
    have e : itemsOf M (.loc n) = some (((a : Int) :: ((r.map fun n : Nat => (n : Int)) ++ [0])).map D.int) := by
      rw [items_loc, h, nts_ints]
      simp
    rw [max_of e, List.foldl_append, key]
    have h0 : mxz (a :: r) = r.foldl max a := by
      unfold mxz
      rw [List.foldl_cons, Nat.zero_max]
    rw [h0]
    simp only [List.foldl_cons, List.foldl_nil]
    rw [show max (((r.foldl max a : Nat)) : Int) 0 = ((r.foldl max a : Nat) : Int) by omega]
end G
end
section
set_option linter.all false
set_option maxHeartbeats 4000000
/-! # tools: the end of a law -/
namespace G
open PySem PySem.Spec PyProof.Rows L2
def isT : Option (Fl × Ro × Ms) → Bool
  | some (.rt (.bl true), _, _) => true
  | _ => false
theorem trim_bl {b : Bool} {M M' : Ms} : (trim M (.bl b) M').1 = .bl b := by
  unfold trim
  dsimp only [D.cl]
  split <;> rfl
theorem isT_fin {r : Option (Fl × Ro × Ms)} {M : Ms} (h : isT r = true) : ∃ M', finF M r = some (.ok (.bl true), M') := by
  match r, h with
  | some (.rt (.bl true), ρ, M1), _ => exact ⟨(trim M (.bl true) M1).2, congrArg (fun x => some (Res.ok x, (trim M (.bl true) M1).2)) trim_bl⟩
theorem map_none {α β : Type} : ∀ (l : List α), (l.map fun _ => (none : Option β)) = List.replicate l.length none
  | [] => rfl
  | _ :: l => by rw [List.map_cons, map_none l]; rfl
theorem scope_nx {L : SM} {ρ ρ' : Ro} {M K : Ms} (h : L ρ M = some (.nx, ρ', M ++ K)) : sScope L ρ M = some (.nx, oldR M.length ρ', M) := by
  unfold sScope
  rw [h]
  unfold scopeF
  dsimp only
  rw [if_pos ⟨okOld_app _ _ _, rfl⟩, List.take_left]
/-- a turn of the law, whatever stands in the other slots -/
def Turn (N : Nat) (c : Int) (B : SM) : Prop := ∀ (o : MO) (ns : List Int) (spot : Int) (ρ : Ro), seqAt [o] 0 = some (ns.map D.int) → ns.length ≤ 63 → 0 ≤ spot → spot ≤ c → ρ.length = N → ρ[0]? = some (some (.loc 0)) → ρ[1]? = some (some (.int spot)) → ∃ ρ', B ρ [o] = some (.nx, ρ', [o]) ∧ ρ'.length = N ∧ ρ'[0]? = some (some (.loc 0))
theorem turn_scope {N : Nat} {c : Int} {B : SM} (h : ∀ (o : MO) (ns : List Int) (spot : Int) (ρ : Ro), seqAt [o] 0 = some (ns.map D.int) → ns.length ≤ 63 → 0 ≤ spot → spot ≤ c → ρ.length = N → ρ[0]? = some (some (.loc 0)) → ρ[1]? = some (some (.int spot)) → ∃ ρ' K, B ρ [o] = some (.nx, ρ', [o] ++ K) ∧ ρ'.length = N ∧ ρ'[0]? = some (some (.loc 0))) : Turn N c (sScope B) := fun o ns spot ρ a1 a2 a3 a4 a5 a6 a7 => by
  obtain ⟨ρ', K, h1, h2, h3⟩ := h o ns spot ρ a1 a2 a3 a4 a5 a6 a7
  refine ⟨oldR 1 ρ', scope_nx h1, by rw [← h2]; simp [oldR], ?_⟩
  unfold oldR
  rw [List.getElem?_map, h3]
  rfl
theorem law_go {N : Nat} {c : Int} {B T : SM} (hB : Turn N c B) (hN : 2 ≤ N) (c0 : 1 ≤ c) (c1 : c ≤ 1000) (hT : isT (T (List.replicate N none) [.opq]) = true) {ns : List Int} (hl : ns.length ≤ 63) {o : MO} (ho : seqAt [o] 0 = some (ns.map D.int)) {f : Fn} {n : Nat}
    (hf : f = callF 1 n ((sSeq (sFor (iRn1 (aCons (eB fMax2 (aCons (eC (.int 1)) (aCons (eB fMin2 (aCons (eC (.int c)) (aCons (eB fLen (aCons (eVar 0) aNil)) aNil))) aNil))) aNil)) (gN 1) B) (sBlur T)))) (hn : n + 1 = N) : ∃ M', f [.loc 0] [o] = some (.ok (.bl true), M') := by
  subst hn
  rw [hf, callF_eq (np := 1) (ds := [D.loc 0]) rfl]
  obtain ⟨k, hk⟩ : ∃ k : Int, (if (if ((ns.map D.int).length : Int) < c then ((ns.map D.int).length : Int) else c) > 1 then (if ((ns.map D.int).length : Int) < c then ((ns.map D.int).length : Int) else c) else 1) = k ∧ k ≤ c ∧ 1 ≤ k := ⟨_, rfl, by split <;> split <;> omega, by split <;> omega⟩
  obtain ⟨hk0, hk1, hk2⟩ := hk
  have hr : iRn1 (aCons (eB fMax2 (aCons (eC (.int 1)) (aCons (eB fMin2 (aCons (eC (.int c)) (aCons (eB fLen (aCons (eVar 0) aNil)) aNil))) aNil))) aNil) (List.map some [D.loc 0] ++ List.replicate n none) [o] = some (.ok ⟨rngD 0 k.toNat, []⟩, [o]) := by
    refine rn1 ?_ (by omega) (by omega)
    rw [← hk0]
    simp only [ev_cons, ev_B, ev_c, ev_var, ev_nil, List.map, List.cons_append, List.getElem?_cons_zero, bnd_ok, len_loc ho, min2_i, max2_i]
  obtain ⟨ρ', M', e, j, hj1, hj2, hj3, hj4⟩ := loop_inv (src := ⟨rngD 0 k.toNat, []⟩) (g := gN 1) (body := B)
    (fun rest ρ M1 => ∃ j : Nat, rest = (rngD 0 k.toNat).drop j ∧ M1 = [o] ∧ ρ.length = n + 1 ∧ ρ[0]? = some (some (.loc 0)))
    (fun d rest ρ M1 ⟨j, h1, h2, h3, h4⟩ => by
      subst h2
      refine ⟨rfl, ?_⟩
      have hlt : j < k.toNat := by
        apply Nat.lt_of_not_le
        intro z
        rw [rngD_nil' z] at h1
        cases h1
      rw [rngD_drop' hlt] at h1
      injection h1 with h1 h1'
      subst h1
      obtain ⟨ρ2, e2, l2, z2⟩ := hB o ns (0 + (j : Int)) (ρ.set 1 (some (.int (0 + (j : Int))))) ho hl (by omega) (by omega) (by simpa using h3) (by rw [List.getElem?_set_ne (by decide)]; exact h4) (List.getElem?_set_self (by omega))
      exact ⟨_, _, ρ2, [o], rfl, e2, j + 1, h1', rfl, l2, z2⟩)
    (fun ρ M1 i => rfl) (items := rngD 0 k.toNat) (ρ := List.map some [D.loc 0] ++ List.replicate n none) (M := [o]) ⟨0, rfl, rfl, by simp, rfl⟩
  rw [seq_loop hr e]
  subst hj2
  unfold sBlur
  rw [map_none, hj3]
  exact isT_fin hT
end G
end
section
set_option linter.all false
set_option maxHeartbeats 4000000
/-! # k24: rows that rise, in plain numbers -/
namespace M24
section
variable {n : Nat} {I : Nat → Bool} {X : Nat → Int} {K : Nat}
/-- a choice that rises -/
def Rs (n : Nat) (I : Nat → Bool) (X : Nat → Int) (c : List Nat) : Prop := (∀ i ∈ c, i < n ∧ I i = true) ∧ c.Pairwise fun i j => i < j ∧ X i < X j
theorem Rs.nil : Rs n I X [] := ⟨(fun i h => by cases h), .nil⟩
theorem Rs.app {c d : List Nat} : Rs n I X (c ++ d) ↔ Rs n I X c ∧ Rs n I X d ∧ ∀ a ∈ c, ∀ b ∈ d, a < b ∧ X a < X b := by
  unfold Rs
  rw [List.pairwise_append]
  constructor
  · rintro ⟨h1, h2, h3, h4⟩
    exact ⟨⟨fun i hi => h1 i (List.mem_append_left _ hi), h2⟩, ⟨fun i hi => h1 i (List.mem_append_right _ hi), h3⟩, h4⟩
  · rintro ⟨⟨h1, h2⟩, ⟨h3, h4⟩, h5⟩
    exact ⟨fun i hi => (List.mem_append.mp hi).elim (h1 i) (h3 i), h2, h4, h5⟩
theorem Rs.cons {i : Nat} {c : List Nat} : Rs n I X (i :: c) ↔ (i < n ∧ I i = true) ∧ Rs n I X c ∧ ∀ b ∈ c, i < b ∧ X i < X b := by
  unfold Rs
  rw [List.pairwise_cons]
  constructor
  · rintro ⟨h1, h2, h3⟩
    exact ⟨h1 i List.mem_cons_self, ⟨fun j hj => h1 j (List.mem_cons_of_mem _ hj), h3⟩, h2⟩
  · rintro ⟨h1, ⟨h2, h3⟩, h4⟩
    exact ⟨fun j hj => (List.mem_cons.mp hj).elim (fun e => by rw [e]; exact h1) (h2 j), h4, h3⟩
/-- as many as rise from there on -/
def BOk (n : Nat) (I : Nat → Bool) (X : Nat → Int) (i k : Nat) : Prop := (I i = false → k = 0) ∧ (I i = true → (∀ r, Rs n I X (i :: r) → r.length + 1 ≤ k) ∧ ∃ r, Rs n I X (i :: r) ∧ r.length + 1 = k)
theorem bok_step {i m : Nat} (hi : i < n) (hI : I i = true) {ks : Nat → Nat} (hk : ∀ j, i < j → j < n → BOk n I X j (ks j)) (h1 : ∀ j, i < j → j < n → I j = true → X i < X j → ks j ≤ m)
    (h2 : m = 0 ∨ ∃ j, i < j ∧ j < n ∧ I j = true ∧ X i < X j ∧ ks j = m) : BOk n I X i (m + 1) := by
  refine ⟨fun z => (by rw [hI] at z; cases z), fun _ => ⟨fun r hr => ?_, ?_⟩⟩
  · cases r with
    | nil => simp
    | cons j r =>
      obtain ⟨_, hr2, hr3⟩ := Rs.cons.mp hr
      obtain ⟨⟨a1, a2⟩, _, _⟩ := Rs.cons.mp hr2
      obtain ⟨a3, a4⟩ := hr3 j List.mem_cons_self
      have := ((hk j a3 a1).2 a2).1 r hr2
      have := h1 j a3 a1 a2 a4
      simp only [List.length_cons]
      omega
  · rcases h2 with rfl | ⟨j, a1, a2, a3, a4, rfl⟩
    · exact ⟨[], Rs.cons.mpr ⟨⟨hi, hI⟩, .nil, (fun b hb => by cases hb)⟩, rfl⟩
    · obtain ⟨r, hr1, hr2⟩ := ((hk j a1 a2).2 a3).2
      refine ⟨j :: r, Rs.cons.mpr ⟨⟨hi, hI⟩, hr1, fun b hb => ?_⟩, by simpa using hr2⟩
      rcases List.mem_cons.mp hb with rfl | hb
      · exact ⟨a1, a4⟩
      · obtain ⟨_, _, h3⟩ := Rs.cons.mp hr1
        have := h3 b hb
        omega
/-- less at the first place where they differ -/
def Lx (c d : List Nat) : Prop := ∃ p a b x y, c = p ++ a :: x ∧ d = p ++ b :: y ∧ a < b
structure Gr (n : Nat) (I : Nat → Bool) (X : Nat → Int) (K i l : Nat) (F : List Nat) : Prop where
  lt : ∀ f ∈ F, f < i
  len : F.length + l = K
  ex : ∃ G, G.length = l ∧ Rs n I X (F ++ G) ∧ ∀ g ∈ G, i ≤ g
  lex : ∀ c, Rs n I X c → c.length = K → Lx F c ∨ ∃ c', c = F ++ c' ∧ ∀ g ∈ c', i ≤ g
theorem Gr.rs {i l : Nat} {F : List Nat} (g : Gr n I X K i l F) : Rs n I X F := by
  obtain ⟨G, _, h, _⟩ := g.ex
  exact (Rs.app.mp h).1
theorem Gr.take {i l : Nat} {F : List Nat} (g : Gr n I X K i l F) {k : Nat} (hi : i < n) (hk : BOk n I X i k) (e : k = l) (h0 : 0 < l) (hc : ∀ f ∈ F, X f < X i) : Gr n I X K (i + 1) (l - 1) (F ++ [i]) := by
  have hI : I i = true := by
    cases h : I i with
    | true => rfl
    | false => have := hk.1 h; omega
  obtain ⟨_, r, hr1, hr2⟩ := hk.2 hI
  obtain ⟨_, hr3, hr4⟩ := Rs.cons.mp hr1
  refine ⟨fun f hf => ?_, by have := g.len; simp; omega, ⟨r, by omega, ?_, fun x hx => by have := hr4 x hx; omega⟩, fun c hc1 hc2 => ?_⟩
  · rcases List.mem_append.mp hf with h | h
    · have := g.lt f h; omega
    · rw [List.mem_singleton] at h; omega
  · rw [List.append_assoc]
    refine Rs.app.mpr ⟨g.rs, hr1, fun a ha b hb => ?_⟩
    have a1 := g.lt a ha
    have a2 := hc a ha
    rcases List.mem_cons.mp hb with rfl | hb
    · exact ⟨a1, a2⟩
    · have := hr4 b hb; omega
  · rcases g.lex c hc1 hc2 with ⟨p, a, b, x, y, e1, e2, h⟩ | ⟨c', e1, h⟩
    · exact .inl ⟨p, a, b, x ++ [i], y, by rw [e1]; simp, e2, h⟩
    · cases c' with
      | nil => rw [e1, List.append_nil] at hc2; have := g.len; omega
      | cons j c' =>
        have hj := h j List.mem_cons_self
        by_cases q : j = i
        · subst q
          refine .inr ⟨c', by rw [e1]; simp, fun x hx => ?_⟩
          rw [e1] at hc1
          have := (Rs.cons.mp (Rs.app.mp hc1).2.1).2.2 x hx
          omega
        · exact .inl ⟨F, i, j, [], c', rfl, e1, by omega⟩
theorem Gr.skip {i l : Nat} {F : List Nat} (g : Gr n I X K i l F) {k : Nat} (hi : i < n) (hk : BOk n I X i k) (top : ∀ c, Rs n I X c → c.length ≤ K) (hno : ¬ (k = l ∧ 0 < l ∧ ∀ f ∈ F, X f < X i)) : Gr n I X K (i + 1) l F := by
  -- nothing that goes on from F begins with i
  have no : ∀ r, Rs n I X (F ++ i :: r) → r.length + 1 = l → False := fun r hr hl => by
    obtain ⟨h1, h2, h3⟩ := Rs.app.mp hr
    obtain ⟨⟨_, hI⟩, _, _⟩ := Rs.cons.mp h2
    obtain ⟨k1, r2, k2, k3⟩ := hk.2 hI
    have hc : ∀ f ∈ F, X f < X i := fun f hf => (h3 f hf i List.mem_cons_self).2
    have h4 := k1 r h2
    by_cases e : k = l
    · exact hno ⟨e, by omega, hc⟩
    · have : Rs n I X (F ++ i :: r2) := Rs.app.mpr ⟨h1, k2, fun a ha b hb => by
        have a1 := g.lt a ha
        have a2 := hc a ha
        rcases List.mem_cons.mp hb with rfl | hb
        · exact ⟨a1, a2⟩
        · have := (Rs.cons.mp k2).2.2 b hb; omega⟩
      have := top _ this
      have := g.len
      simp only [List.length_append, List.length_cons] at *
      omega
  refine ⟨fun f hf => by have := g.lt f hf; omega, g.len, ?_, fun c hc1 hc2 => ?_⟩
  · obtain ⟨G, e1, e2, e3⟩ := g.ex
    refine ⟨G, e1, e2, fun x hx => ?_⟩
    cases G with
    | nil => cases hx
    | cons j G =>
      have hj := e3 j List.mem_cons_self
      by_cases q : j = i
      · subst q
        exact (no G e2 (by simpa using e1)).elim
      · rcases List.mem_cons.mp hx with rfl | hx
        · omega
        · have := (Rs.cons.mp (Rs.app.mp e2).2.1).2.2 x hx
          omega
  · rcases g.lex c hc1 hc2 with h | ⟨c', e1, h⟩
    · exact .inl h
    · refine .inr ⟨c', e1, fun x hx => ?_⟩
      cases c' with
      | nil => cases hx
      | cons j c' =>
        have hj := h j List.mem_cons_self
        by_cases q : j = i
        · subst q
          refine (no c' (by rw [← e1]; exact hc1) ?_).elim
          have := g.len
          rw [e1] at hc2
          simp only [List.length_append, List.length_cons] at hc2
          omega
        · rcases List.mem_cons.mp hx with rfl | hx
          · omega
          · rw [e1] at hc1
            have := (Rs.cons.mp (Rs.app.mp hc1).2.1).2.2 x hx
            omega
/-- the longest and the first -/
structure Best (n : Nat) (I : Nat → Bool) (X : Nat → Int) (F : List Nat) : Prop where
  rs : Rs n I X F
  top : ∀ c, Rs n I X c → c.length ≤ F.length
  lex : ∀ c, Rs n I X c → c.length = F.length → c = F ∨ Lx F c
theorem Gr.fin {l : Nat} {F : List Nat} (g : Gr n I X K n l F) (top : ∀ c, Rs n I X c → c.length ≤ K) : Best n I X F := by
  obtain ⟨G, e1, e2, e3⟩ := g.ex
  have hl : l = 0 := by
    cases G with
    | nil => exact e1.symm
    | cons j G =>
      have h1 := e3 j List.mem_cons_self
      have h2 := ((Rs.app.mp e2).2.1.1 j List.mem_cons_self).1
      omega
  have hK := g.len
  refine ⟨g.rs, fun c hc => by have := top c hc; omega, fun c hc h => ?_⟩
  rcases g.lex c hc (by omega) with h | ⟨c', e, _⟩
  · exact .inr h
  · rw [e, List.length_append] at h
    have : c' = [] := List.length_eq_zero_iff.mp (by omega)
    rw [this, List.append_nil] at e
    exact .inl e
theorem top_of {ks : Nat → Nat} (hk : ∀ i, i < n → BOk n I X i (ks i)) (h1 : ∀ i, i < n → ks i ≤ K) : ∀ c, Rs n I X c → c.length ≤ K := fun c hc => by
  cases c with
  | nil => exact Nat.zero_le _
  | cons i r =>
    obtain ⟨⟨a1, a2⟩, _, _⟩ := Rs.cons.mp hc
    have := ((hk i a1).2 a2).1 r hc
    have := h1 i a1
    simp only [List.length_cons]
    omega
theorem Gr.start {ks : Nat → Nat} (hk : ∀ i, i < n → BOk n I X i (ks i)) (h2 : K = 0 ∨ ∃ i, i < n ∧ ks i = K) : Gr n I X K 0 K [] := by
  refine ⟨(fun f hf => by cases hf), by simp, ?_, fun c hc1 hc2 => .inr ⟨c, rfl, fun g _ => Nat.zero_le _⟩⟩
  rcases h2 with rfl | ⟨i, hi, rfl⟩
  · exact ⟨[], rfl, .nil, fun g _ => Nat.zero_le _⟩
  · cases hI : I i with
    | false => exact ⟨[], ((hk i hi).1 hI).symm, .nil, fun g _ => Nat.zero_le _⟩
    | true =>
      obtain ⟨_, r, h1, h2⟩ := (hk i hi).2 hI
      exact ⟨i :: r, by simpa using h2, h1, fun g _ => Nat.zero_le _⟩
end
end M24
end
section
set_option linter.all false
set_option maxHeartbeats 8000000
/-! # k24: values, streaks, read -/
namespace K24
open PySem PySem.Spec PyProof.Rows L2 G
@[simp] theorem e_demand : f_demand = C.demand := rfl
@[simp] theorem e_in : f_is_in = C.is_in := rfl
@[simp] theorem e_roll : f__law_roll = C.roll := rfl
@[simp] theorem e_pick : f__law_pick = C.pick := rfl
@[simp] theorem e_dice : f__law_dice = C.dice := rfl
theorem e_col : f_demand_column = C.demand_column := rfl
theorem e_atn : f_at_name = C.at_name := rfl
abbrev qz : List (List Nat) := [[113], [122]]
def rowsOf (vs : List D) : List (List D) := vs.zipIdx.map fun p => [p.1, .int (p.2 : Nat)]
abbrev tab (vs : List D) : D := C.tabD qz (rowsOf vs)
/-- a column's values -/
structure Good (vs : List D) : Prop where
  le : vs.length ≤ 9
  gv : ∀ v ∈ vs, C.GoodV v
theorem rows_len (vs : List D) : (rowsOf vs).length = vs.length := by simp [rowsOf]
theorem rows_at {vs : List D} {i : Nat} (h : i < vs.length) : (rowsOf vs)[i]? = some [vs[i], .int (i : Nat)] := by
  unfold rowsOf
  rw [List.getElem?_map, List.getElem?_eq_getElem (by simpa using h)]
  simp
theorem rows_mem {vs : List D} {r : List D} (h : r ∈ rowsOf vs) : ∃ (i : Nat) (hi : i < vs.length), r = [vs[i], .int (i : Nat)] := by
  obtain ⟨i, hi, e⟩ := List.getElem_of_mem h
  rw [rows_len] at hi
  refine ⟨i, hi, ?_⟩
  have := rows_at hi
  rw [List.getElem?_eq_getElem (by rw [rows_len]; exact hi)] at this
  rw [← e]
  exact Option.some.inj this
section
variable {M : Ms} {vs : List D}
theorem Good.tab (g : Good vs) : C.GoodT qz (rowsOf vs) where
  n1 := by decide
  n8 := by decide
  nn := by
    intro s hs
    simp only [List.mem_cons, List.not_mem_nil, or_false] at hs
    rcases hs with rfl | rfl
    · exact ⟨by decide, by decide, by decide⟩
    · exact ⟨by decide, by decide, by decide⟩
  nd := by decide
  r2 := by rw [rows_len]; have := g.le; omega
  rl := fun r hr => by obtain ⟨i, hi, rfl⟩ := rows_mem hr; rfl
  rv := fun r hr v hv => by
    obtain ⟨i, hi, rfl⟩ := rows_mem hr
    have := g.le
    simp only [List.mem_cons, List.not_mem_nil, or_false] at hv
    rcases hv with rfl | rfl
    · exact g.gv _ (List.getElem_mem hi)
    · exact .int (by omega) (by omega)
theorem at_q {v : D} {i : Int} (h : C.GoodV v) : f_at_name [.tup [v, .int i], .nam qz, .str [113]] M = some (.ok v, M) := C.at_name_ok (j := 0) (by decide) rfl rfl h.flat
theorem col_e (g : Good vs) {ρ : Ro} (h0 : ρ[0]? = some (some (tab vs))) (h1 : ρ[1]? = some (some (.str [113]))) : (eCall f_demand_column (aCons (eVar 0) (aCons (eVar 1) aNil))) ρ M = some (.ok .non, M) := call2 (var_e h0) (var_e h1) (C.demand_column_ok g.tab (by decide))
/-! ### streaks -/
def sk (v : D) (b c : Nat) : List D → List (D × Nat × Nat)
  | [] => [(v, b, c)]
  | x :: r => if v = x then sk v b (c + 1) r else (v, b, c) :: sk x (b + c) 1 r
def streaks : List D → List (D × Nat × Nat)
  | [] => []
  | x :: r => sk x 0 1 r
theorem streaks_cons {vs : List D} (h : 0 < vs.length) : streaks vs = sk vs[0] 0 1 (vs.drop (0 + 1)) := by
  cases vs with
  | nil => cases h
  | cons x r => rfl
def stD (t : D × Nat × Nat) : D := .tup [t.1, .int (t.2.1 : Nat), .int (t.2.2 : Nat)]
theorem numD_rows {i : Nat} (h : i < vs.length) : (numD ((rowsOf vs).map D.tup)).drop i = .tup [.int (i : Nat), .tup [vs[i], .int (i : Nat)]] :: (numD ((rowsOf vs).map D.tup)).drop (i + 1) := by
  rw [numD_drop' (by simpa [rows_len] using h)]
  congr 3
  rw [List.getElem_map]
  have := rows_at h
  rw [List.getElem?_eq_getElem (by rw [rows_len]; exact h)] at this
  rw [Option.some.inj this]
theorem streak_turn {i : Nat} {F : List (D × Nat × Nat)} {x : D} {x3 x4 x5 : Option D} (hx : C.GoodV x) (hF : F.length ≤ 100) (hl : ∀ F' v b c, F = F' ++ [(v, b, c)] → C.GoodV v) :
    ∃ x5', L1_streaks [some (tab vs), some (.str [113]), some (.loc M.length), some (.int (i : Nat)), some (.tup [x, .int (i : Nat)]), x5] (M ++ [.lst (F.map stD)]) =
      some (.nx, [some (tab vs), some (.str [113]), some (.loc M.length), some (.int (i : Nat)), some (.tup [x, .int (i : Nat)]), x5'], M ++ [.lst ((match F.getLast? with
        | none => [(x, i, 1)]
        | some (v, b, c) => if v = x then F.dropLast ++ [(x, b, c + 1)] else F ++ [(x, i, 1)]).map stD)]) := by
  have s3 : (3 : Nat) ≤ sizeLine := by decide
  have e1 : (eCall f_at_name (aCons (eVar 4) (aCons (eOp dIx (eVar 0) (eC (.int 0))) (aCons (eVar 1) aNil)))) [some (tab vs), some (.str [113]), some (.loc M.length), some (.int (i : Nat)), some (.tup [x, .int (i : Nat)]), x5] (M ++ [.lst (F.map stD)]) = some (.ok x, M ++ [.lst (F.map stD)]) := call3 (var_e rfl) (op2 (var_e rfl) rfl C.ix0) (var_e rfl) (at_q hx)
  refine ⟨some x, ?_⟩
  rw [L1_streaks, seq_set e1]
  simp only [List.set]
  have hlen : fLen [.loc M.length] (M ++ [.lst (F.map stD)]) = some (.ok (.int (F.length : Nat)), M ++ [.lst (F.map stD)]) := by
    rw [len_loc seq_last, List.length_map]
  have ty := ty_last (M := M) (l := F.map stD)
  have ap := append_last (M := M) (l := F.map stD) (d := stD (x, i, 1)) (size_gt (by rw [List.length_map]; omega))
  rcases List.eq_nil_or_concat F with rfl | ⟨F', ⟨v, b, c⟩, hF'⟩
  · have t0 : (tAn (tV (eOp dGt (eB fLen (aCons (eVar 2) aNil)) (eC (.int 0)))) (tV (eOp dEq (eOp dIx (eOp dIx (eVar 2) (eU dNeg (eC (.int 1)))) (eC (.int 0))) (eVar 5)))) [some (tab vs), some (.str [113]), some (.loc M.length), some (.int (i : Nat)), some (.tup [x, .int (i : Nat)]), some x] (M ++ [.lst (([] : List (D × Nat × Nat)).map stD)]) = some (.ok false, M ++ [.lst (([] : List (D × Nat × Nat)).map stD)]) := an_f (tv_ok (op2 (bcall1 (var_e rfl) hlen) rfl rfl))
    rw [if_f t0, ev_ex, ev_M, var_e rfl, bnd_ok, ty, if_pos rfl]
    simp only [ev_cons, ev_nil, ev_tup, ev_var, ev_c, bnd_ok, List.getElem?_cons_succ, List.getElem?_cons_zero, List.length_cons, List.length_nil, Nat.zero_add]
    rw [if_pos s3]
    simp only [bnd_ok]
    have ap' : fAppend (.loc M.length) [.tup [x, .int (i : Nat), .int 1]] (M ++ [.lst (([] : List (D × Nat × Nat)).map stD)]) = some (.ok .non, M ++ [.lst (([] : List (D × Nat × Nat)).map stD ++ [stD (x, i, 1)])]) := ap
    rw [ap']
    rfl
  · rw [List.concat_eq_append] at hF'
    subst hF'
    have gv := hl F' v b c rfl
    have q0 : dIx (.loc M.length) (.int (-1)) (M ++ [.lst ((F' ++ [(v, b, c)]).map stD)]) = some (.ok (stD (v, b, c)), M ++ [.lst ((F' ++ [(v, b, c)]).map stD)]) := C.ix_loc seq_last (by rw [List.map_append]; exact at_last)
    have q1 : ∀ N : Ms, dIx (stD (v, b, c)) (.int 0) N = some (.ok v, N) := fun N => C.ix_tup rfl
    have q2 : ∀ N : Ms, dIx (stD (v, b, c)) (.int 1) N = some (.ok (.int (b : Nat)), N) := fun N => C.ix_tup rfl
    have q3 : ∀ N : Ms, dIx (stD (v, b, c)) (.int 2) N = some (.ok (.int (c : Nat)), N) := fun N => C.ix_tup rfl
    have t0 : (tAn (tV (eOp dGt (eB fLen (aCons (eVar 2) aNil)) (eC (.int 0)))) (tV (eOp dEq (eOp dIx (eOp dIx (eVar 2) (eU dNeg (eC (.int 1)))) (eC (.int 0))) (eVar 5)))) [some (tab vs), some (.str [113]), some (.loc M.length), some (.int (i : Nat)), some (.tup [x, .int (i : Nat)]), some x] (M ++ [.lst ((F' ++ [(v, b, c)]).map stD)]) = some (.ok (decide (v = x)), M ++ [.lst ((F' ++ [(v, b, c)]).map stD)]) := by
      refine an_t (tv_ok (op2 (bcall1 (var_e rfl) hlen) rfl ?_)) (tv_ok (op2 (op2 (op2 (var_e rfl) rfl q0) rfl (q1 _)) (var_e rfl) (eq_cmp gv.cmp hx.cmp)))
      rw [gt_ii]
      simp
    rw [List.getLast?_concat]
    dsimp only
    by_cases hv : v = x
    · subst hv
      rw [decide_eq_true rfl] at t0
      rw [if_t t0, if_pos rfl, List.dropLast_concat]
      have e5 : (eTup (aCons (eVar 5) (aCons (eOp dIx (eOp dIx (eVar 2) (eU dNeg (eC (.int 1)))) (eC (.int 1))) (aCons (eOp dAdd (eOp dIx (eOp dIx (eVar 2) (eU dNeg (eC (.int 1)))) (eC (.int 2))) (eC (.int 1))) aNil)))) [some (tab vs), some (.str [113]), some (.loc M.length), some (.int (i : Nat)), some (.tup [v, .int (i : Nat)]), some v] (M ++ [.lst ((F' ++ [(v, b, c)]).map stD)]) = some (.ok (stD (v, b, c + 1)), M ++ [.lst ((F' ++ [(v, b, c)]).map stD)]) := by
        simp only [ev_tup, ev_cons, ev_nil, ev_op, ev_u, ev_var, ev_c, bnd_ok, List.getElem?_cons_succ, List.getElem?_cons_zero, neg_i, q0, q2, q3, add_ii, List.length_cons, List.length_nil]
        rw [if_pos s3]
        rfl
      have sf : setF (.loc M.length) (.int (-1)) (stD (v, b, c + 1)) (M ++ [.lst ((F' ++ [(v, b, c)]).map stD)]) = some ((M ++ [MO.lst ((F' ++ [(v, b, c)]).map stD)]).set M.length (MO.lst (((F' ++ [(v, b, c)]).map stD).set F'.length (stD (v, b, c + 1))))) := C.setF_lst (l := (F' ++ [(v, b, c)]).map stD) (k := -1) (by simp) (by
        unfold ixN
        rw [if_neg (by decide), if_pos (by simp; omega)]
        simp
        omega)
      have ss : ((F' ++ [(v, b, c)]).map stD).set F'.length (stD (v, b, c + 1)) = (F' ++ [(v, b, c + 1)]).map stD := by
        rw [List.map_append, List.set_append_right _ _ (by simp)]
        simp
      rw [ss, set_last] at sf
      rw [ev_as, e5, bndS_ok, ev_gIx, var_e rfl]
      simp only [ev_u, ev_c, bnd_ok, neg_i, sf]
      rfl
    · rw [decide_eq_false hv] at t0
      rw [if_f t0, if_neg hv, ev_ex, ev_M, var_e rfl, bnd_ok, ty, if_pos rfl]
      simp only [ev_cons, ev_nil, ev_tup, ev_var, ev_c, bnd_ok, List.getElem?_cons_succ, List.getElem?_cons_zero, List.length_cons, List.length_nil, Nat.zero_add]
      rw [if_pos s3]
      simp only [bnd_ok]
      have ap' : fAppend (.loc M.length) [.tup [x, .int (i : Nat), .int 1]] (M ++ [.lst ((F' ++ [(v, b, c)]).map stD)]) = some (.ok .non, M ++ [.lst ((F' ++ [(v, b, c)]).map stD ++ [stD (x, i, 1)])]) := ap
      rw [ap']
      simp only [bndS_ok]
      rw [List.map_append (l₂ := [(x, i, 1)])]
      rfl
theorem flats_st : ∀ {F : List (D × Nat × Nat)}, (∀ t ∈ F, C.GoodV t.1) → D.flats (F.map stD) = true
  | [], _ => rfl
  | t :: F, h => by
    rw [List.map_cons, flats_c, flats_st fun u hu => h u (List.mem_cons_of_mem _ hu)]
    unfold stD
    rw [flat_t, flats_c, (h t List.mem_cons_self).flat]
    rfl
theorem sk_good : ∀ {r : List D} {v : D} {b c : Nat}, C.GoodV v → (∀ x ∈ r, C.GoodV x) → ∀ t ∈ sk v b c r, C.GoodV t.1
  | [], v, b, c, hv, _, t, ht => by
    rw [sk, List.mem_singleton] at ht
    rw [ht]
    exact hv
  | x :: r, v, b, c, hv, hr, t, ht => by
    unfold sk at ht
    split at ht
    · exact sk_good hv (fun y hy => hr y (List.mem_cons_of_mem _ hy)) t ht
    · rcases List.mem_cons.mp ht with rfl | ht
      · exact hv
      · exact sk_good (hr x List.mem_cons_self) (fun y hy => hr y (List.mem_cons_of_mem _ hy)) t ht
theorem streaks_good (g : Good vs) : ∀ t ∈ streaks vs, C.GoodV t.1 := by
  have h := g.gv
  cases vs with
  | nil => intro t ht; cases ht
  | cons x r => exact sk_good (h x List.mem_cons_self) fun y hy => h y (List.mem_cons_of_mem _ hy)
theorem streaks_ok (g : Good vs) : f_streaks [tab vs, .str [113]] M = some (.ok (.tup ((streaks vs).map stD)), M) := by
  have u : f_streaks [tab vs, .str [113]] M = finF M (b_streaks [some (tab vs), some (.str [113]), none, none, none, none] M) := callF_eq rfl
  have gle := g.le
  obtain ⟨ρ', M', e, i, F, x3, x4, x5, h1, h2, rfl, rfl, h3, h4⟩ := loop_inv (src := ⟨numD ((rowsOf vs).map D.tup), []⟩) (g := gT 2 (gCn (gN 3) (gCn (gN 4) gNl))) (body := L1_streaks)
    (fun rest ρ M1 => ∃ (i : Nat) (F : List (D × Nat × Nat)) (x3 x4 x5 : Option D), rest = (numD ((rowsOf vs).map D.tup)).drop i ∧ i ≤ vs.length ∧ M1 = M ++ [.lst (F.map stD)] ∧ ρ = [some (tab vs), some (.str [113]), some (.loc M.length), x3, x4, x5] ∧ F.length ≤ i ∧
      ((i = 0 ∧ F = []) ∨ ∃ F' v b c, 0 < i ∧ F = F' ++ [(v, b, c)] ∧ C.GoodV v ∧ b + c = i ∧ F' ++ sk v b c (vs.drop i) = streaks vs))
    (fun z rest ρ M1 hI => by
      obtain ⟨i, F, x3, x4, x5, h1, h2, rfl, rfl, h3, h4⟩ := hI
      have hlt : i < vs.length := by
        apply Nat.lt_of_not_le
        intro z
        rw [numD_nil' (by simpa [rows_len] using z)] at h1
        cases h1
      rw [numD_rows hlt] at h1
      cases h1
      have gx := g.gv _ (List.getElem_mem hlt)
      have hd : vs.drop i = vs[i] :: vs.drop (i + 1) := List.drop_eq_getElem_cons hlt
      obtain ⟨x5', e⟩ := streak_turn (M := M) (vs := vs) (i := i) (F := F) (x := vs[i]) (x3 := x3) (x4 := x4) (x5 := x5) gx (by omega) (fun F' v b c hF => by
        rcases h4 with ⟨_, rfl⟩ | ⟨F2, v2, b2, c2, _, rfl, gv, _⟩
        · simp at hF
        · obtain ⟨_, h⟩ := List.append_inj' hF rfl
          cases h
          exact gv)
      refine ⟨rfl, _, _, _, _, rfl, e, i + 1, _, _, _, _, rfl, by omega, rfl, rfl, ?_, ?_⟩
      · rcases h4 with ⟨_, rfl⟩ | ⟨F2, v2, b2, c2, _, rfl, gv, _⟩
        · simp
        · rw [List.getLast?_concat]
          dsimp only
          rw [List.length_append, List.length_singleton] at h3
          split
          · rw [List.dropLast_concat]; simp; omega
          · simp; omega
      · rcases h4 with ⟨rfl, rfl⟩ | ⟨F2, v2, b2, c2, h5, rfl, gv, h6, h7⟩
        · refine .inr ⟨[], vs[0], 0, 1, by omega, rfl, gx, rfl, ?_⟩
          exact (streaks_cons hlt).symm
        · rw [List.getLast?_concat]
          dsimp only
          rw [hd, sk] at h7
          by_cases q : v2 = vs[i]
          · rw [if_pos q] at h7 ⊢
            refine .inr ⟨F2, vs[i], b2, c2 + 1, by omega, by rw [List.dropLast_concat], gx, by omega, by rw [← q]; rw [q] at h7 ⊢; exact h7⟩
          · rw [if_neg q] at h7 ⊢
            refine .inr ⟨F2 ++ [(v2, b2, c2)], vs[i], i, 1, by omega, rfl, gx, rfl, ?_⟩
            rw [h6] at h7
            rw [List.append_assoc]
            exact h7)
    (fun ρ M1 hI => rfl) (items := numD ((rowsOf vs).map D.tup)) (ρ := [some (tab vs), some (.str [113]), some (.loc M.length), none, none, none]) (M := M ++ [.lst []]) ⟨0, [], none, none, none, rfl, Nat.zero_le _, rfl, rfl, Nat.le_refl _, .inl ⟨rfl, rfl⟩⟩
  have hi : vs.length ≤ i := by
    apply Nat.le_of_not_lt
    intro z
    rw [numD_rows z] at h1
    cases h1
  have hF : F = streaks vs := by
    rcases h4 with ⟨rfl, rfl⟩ | ⟨F2, v2, b2, c2, h5, rfl, gv, h6, h7⟩
    · have : vs = [] := List.length_eq_zero_iff.mp (by omega)
      rw [this]
      rfl
    · rw [List.drop_eq_nil_of_le hi] at h7
      exact h7
  subst hF
  have it : iEn (aCons (eOp dIx (eVar 0) (eC (.int 1))) aNil) [some (tab vs), some (.str [113]), some (.loc M.length), none, none, none] (M ++ [.lst []]) = some (.ok ⟨numD ((rowsOf vs).map D.tup), []⟩, M ++ [.lst []]) := by
    rw [ev_iEn, arg1 (op2 (var_e rfl) rfl C.ix1)]
    rfl
  rw [u, b_streaks, seq_do (col_e g rfl rfl), seq_set (by rfl : (eLst aNil) _ M = some (.ok (.loc M.length), M ++ [.lst []]))]
  simp only [List.set]
  rw [seq_loop it e, ret_ok (bcall1 (var_e rfl) (tuple_loc seq_last))]
  exact fin_fl (flats_st (streaks_good g))
end
end K24
end
section
set_option linter.all false
set_option maxHeartbeats 8000000
/-! # k24: the law's streaks, what rises, choices, read -/
namespace K24
open PySem PySem.Spec PyProof.Rows L2 G
section
variable {M : Ms} {vs : List D} {vl : Nat}
theorem ls_turn {b k : Nat} {F : List (D × Nat × Nat)} {x3 : Option D} (g : Good vs) (hq : seqAt M vl = some vs) (hb : b < k) (hk : k ≤ vs.length) (hF : F.length ≤ 100) (hbl : b < vs.length) :
    L1__law_streaks [some (.loc vl), some (.loc M.length), some (.int (b : Nat)), some (.int (k : Nat))] (M ++ [.lst (F.map stD)]) =
      if h : k < vs.length then (if vs[b] = vs[k] then some (.nx, [some (.loc vl), some (.loc M.length), some (.int (b : Nat)), some (.int (k : Nat))], M ++ [.lst (F.map stD)])
        else some (.nx, [some (.loc vl), some (.loc M.length), some (.int (k : Nat)), some (.int (k : Nat))], M ++ [.lst ((F ++ [(vs[b], b, k - b)]).map stD)]))
      else some (.nx, [some (.loc vl), some (.loc M.length), some (.int (k : Nat)), some (.int (k : Nat))], M ++ [.lst ((F ++ [(vs[b], b, k - b)]).map stD)]) := by
  have s3 : (3 : Nat) ≤ sizeLine := by decide
  have hq1 : seqAt (M ++ [.lst (F.map stD)]) vl = some vs := sq_app hq
  have hlen : fLen [.loc vl] (M ++ [.lst (F.map stD)]) = some (.ok (.int (vs.length : Nat)), M ++ [.lst (F.map stD)]) := len_loc hq1
  have ixb : dIx (.loc vl) (.int (b : Nat)) (M ++ [.lst (F.map stD)]) = some (.ok vs[b], M ++ [.lst (F.map stD)]) := C.ix_loc hq1 (atI_get (List.getElem?_eq_getElem hbl))
  have ty := ty_last (M := M) (l := F.map stD)
  have ap := append_last (M := M) (l := F.map stD) (d := stD (vs[b], b, k - b)) (size_gt (by rw [List.length_map]; omega))
  have app : ∀ R : Ro, R = [some (.loc vl), some (.loc M.length), some (.int (b : Nat)), some (.int (k : Nat))] → (sSeq (sEx (eM "list" fAppend (eVar 1) (aCons (eTup (aCons (eOp dIx (eVar 0) (eVar 2)) (aCons (eVar 2) (aCons (eOp dSub (eVar 3) (eVar 2)) aNil)))) aNil))) (sAs (eVar 3) (gN 2))) R (M ++ [.lst (F.map stD)]) =
      some (.nx, [some (.loc vl), some (.loc M.length), some (.int (k : Nat)), some (.int (k : Nat))], M ++ [.lst ((F ++ [(vs[b], b, k - b)]).map stD)]) := fun R hR => by
    subst hR
    have e5 : (eTup (aCons (eOp dIx (eVar 0) (eVar 2)) (aCons (eVar 2) (aCons (eOp dSub (eVar 3) (eVar 2)) aNil)))) [some (.loc vl), some (.loc M.length), some (.int (b : Nat)), some (.int (k : Nat))] (M ++ [.lst (F.map stD)]) = some (.ok (stD (vs[b], b, k - b)), M ++ [.lst (F.map stD)]) := by
      simp only [ev_tup, ev_cons, ev_nil, ev_op, ev_var, bnd_ok, List.getElem?_cons_succ, List.getElem?_cons_zero, ixb, sub_ii, List.length_cons, List.length_nil]
      rw [if_pos s3]
      unfold stD
      rw [show ((k : Int) - (b : Nat)) = ((k - b : Nat) : Int) by omega]
    have e6 : (eM "list" fAppend (eVar 1) (aCons (eTup (aCons (eOp dIx (eVar 0) (eVar 2)) (aCons (eVar 2) (aCons (eOp dSub (eVar 3) (eVar 2)) aNil)))) aNil)) [some (.loc vl), some (.loc M.length), some (.int (b : Nat)), some (.int (k : Nat))] (M ++ [.lst (F.map stD)]) = some (.ok .non, M ++ [.lst ((F ++ [(vs[b], b, k - b)]).map stD)]) := by
      rw [ev_M, var_e rfl, bnd_ok, ty, if_pos rfl, arg1 e5, bnd_ok, ap, List.map_append]
      rfl
    rw [seq_do e6, as_set (var_e rfl)]
    rfl
  unfold L1__law_streaks
  by_cases h : k < vs.length
  · rw [dif_pos h]
    have ixk : dIx (.loc vl) (.int (k : Nat)) (M ++ [.lst (F.map stD)]) = some (.ok vs[k], M ++ [.lst (F.map stD)]) := C.ix_loc hq1 (atI_get (List.getElem?_eq_getElem h))
    have t1 : (tV (eOp dEq (eVar 3) (eB fLen (aCons (eVar 0) aNil)))) [some (.loc vl), some (.loc M.length), some (.int (b : Nat)), some (.int (k : Nat))] (M ++ [.lst (F.map stD)]) = some (.ok false, M ++ [.lst (F.map stD)]) := tv_ok (op2 (var_e rfl) (bcall1 (var_e rfl) hlen) (by rw [eq_ii, decide_eq_false (by omega)]))
    have t2 : (tV (eOp dNe (eOp dIx (eVar 0) (eVar 3)) (eOp dIx (eVar 0) (eVar 2)))) [some (.loc vl), some (.loc M.length), some (.int (b : Nat)), some (.int (k : Nat))] (M ++ [.lst (F.map stD)]) = some (.ok (!decide (vs[k] = vs[b])), M ++ [.lst (F.map stD)]) := tv_ok (op2 (op2 (var_e rfl) (var_e rfl) ixk) (op2 (var_e rfl) (var_e rfl) ixb) (ne_cmp (g.gv _ (List.getElem_mem h)).cmp (g.gv _ (List.getElem_mem hbl)).cmp))
    have t3 := o_f t1 t2
    by_cases q : vs[b] = vs[k]
    · rw [decide_eq_true q.symm] at t3
      rw [if_f t3, if_pos q]
      rfl
    · rw [decide_eq_false (fun z => q z.symm)] at t3
      rw [if_t t3, if_neg q]
      exact app _ rfl
  · rw [dif_neg h]
    have t1 : (tV (eOp dEq (eVar 3) (eB fLen (aCons (eVar 0) aNil)))) [some (.loc vl), some (.loc M.length), some (.int (b : Nat)), some (.int (k : Nat))] (M ++ [.lst (F.map stD)]) = some (.ok true, M ++ [.lst (F.map stD)]) := tv_ok (op2 (var_e rfl) (bcall1 (var_e rfl) hlen) (by rw [eq_ii, decide_eq_true (by omega)]))
    rw [if_t (o_t t1)]
    exact app _ rfl
theorem law_streaks_ok (g : Good vs) (hq : seqAt M vl = some vs) (hpos : 0 < vs.length) : f__law_streaks [.loc vl] M = some (.ok (.tup ((streaks vs).map stD)), M) := by
  have u : f__law_streaks [.loc vl] M = finF M (b__law_streaks [some (.loc vl), none, none, none] M) := callF_eq rfl
  have gle := g.le
  obtain ⟨ρ', M', e, k, F, b, x3, h1, h2, rfl, rfl, h3, h4⟩ := loop_inv (src := ⟨rngD 1 vs.length, []⟩) (g := gN 3) (body := L1__law_streaks)
    (fun rest ρ M1 => ∃ (k : Nat) (F : List (D × Nat × Nat)) (b : Nat) (x3 : Option D), rest = (rngD 1 vs.length).drop k ∧ k ≤ vs.length ∧ M1 = M ++ [.lst (F.map stD)] ∧ ρ = [some (.loc vl), some (.loc M.length), some (.int (b : Nat)), x3] ∧ F.length ≤ k ∧
      ((k = vs.length ∧ F = streaks vs) ∨ ∃ h : b < vs.length, b ≤ k ∧ k < vs.length ∧ F ++ sk vs[b] b (k + 1 - b) (vs.drop (k + 1)) = streaks vs))
    (fun z rest ρ M1 hI => by
      obtain ⟨k, F, b, x3, h1, h2, rfl, rfl, h3, h4⟩ := hI
      have hlt : k < vs.length := by
        apply Nat.lt_of_not_le
        intro z
        rw [rngD_nil' z] at h1
        cases h1
      rw [rngD_drop' hlt] at h1
      cases h1
      rcases h4 with ⟨rfl, _⟩ | ⟨hb, h5, h6, h7⟩
      · omega
      have ez : (1 : Int) + (k : Nat) = ((k + 1 : Nat) : Int) := by omega
      have e := ls_turn (M := M) (F := F) (x3 := x3) g hq (by omega : b < k + 1) (by omega) (by omega) hb
      refine ⟨rfl, [some (.loc vl), some (.loc M.length), some (.int (b : Nat)), some (.int ((k + 1 : Nat) : Int))], M ++ [.lst (F.map stD)], ?_⟩
      by_cases hk : k + 1 < vs.length
      · rw [dif_pos hk] at e
        have hd : vs.drop (k + 1) = vs[k + 1] :: vs.drop (k + 1 + 1) := List.drop_eq_getElem_cons hk
        rw [hd, sk] at h7
        by_cases q : vs[b] = vs[k + 1]
        · rw [if_pos q] at e h7
          refine ⟨_, _, by rw [ez]; rfl, e, k + 1, F, b, _, rfl, by omega, rfl, rfl, by omega, .inr ⟨hb, by omega, hk, ?_⟩⟩
          rw [show k + 1 + 1 - b = k + 1 - b + 1 by omega]
          exact h7
        · rw [if_neg q] at e h7
          refine ⟨_, _, by rw [ez]; rfl, e, k + 1, _, k + 1, _, rfl, by omega, rfl, rfl, by simp; omega, .inr ⟨hk, by omega, hk, ?_⟩⟩
          rw [show b + (k + 1 - b) = k + 1 by omega] at h7
          rw [show k + 1 + 1 - (k + 1) = 1 by omega, List.append_assoc]
          exact h7
      · rw [dif_neg hk] at e
        rw [List.drop_eq_nil_of_le (by omega), sk] at h7
        exact ⟨_, _, by rw [ez]; rfl, e, k + 1, _, k + 1, _, rfl, by omega, rfl, rfl, by simp; omega, .inl ⟨by omega, h7⟩⟩)
    (fun ρ M1 hI => rfl) (items := rngD 1 vs.length) (ρ := [some (.loc vl), some (.loc M.length), some (.int (0 : Nat)), none]) (M := M ++ [.lst []]) ⟨0, [], 0, none, rfl, Nat.zero_le _, rfl, rfl, Nat.le_refl _, .inr ⟨hpos, Nat.le_refl _, hpos, (streaks_cons hpos).symm⟩⟩
  have hF : F = streaks vs := by
    rcases h4 with ⟨_, h⟩ | ⟨_, _, h, _⟩
    · exact h
    · rw [rngD_drop' h] at h1
      cases h1
  subst hF
  have hlen : fLen [.loc vl] (M ++ [.lst []]) = some (.ok (.int (vs.length : Nat)), M ++ [.lst []]) := len_loc (sq_app hq)
  have it : iRn2 (aCons (eC (.int 1)) (aCons (eOp dAdd (eB fLen (aCons (eVar 0) aNil)) (eC (.int 1))) aNil)) [some (.loc vl), some (.loc M.length), some (.int (0 : Nat)), none] (M ++ [.lst []]) = some (.ok ⟨rngD 1 vs.length, []⟩, M ++ [.lst []]) := by
    have q : (aCons (eC (.int 1)) (aCons (eOp dAdd (eB fLen (aCons (eVar 0) aNil)) (eC (.int 1))) aNil)) [some (.loc vl), some (.loc M.length), some (.int (0 : Nat)), none] (M ++ [.lst []]) = some (.ok [.int 1, .int ((vs.length : Int) + 1)], M ++ [.lst []]) := by
      simp only [ev_cons, ev_c, ev_op, ev_B, ev_var, ev_nil, bnd_ok, List.getElem?_cons_zero, hlen, add_ii]
    rw [rn2 q (by omega) (by omega) (by omega) (by omega), show ((vs.length : Int) + 1 - 1).toNat = vs.length by omega]
  rw [u, b__law_streaks, seq_set (by rfl : (eLst aNil) _ M = some (.ok (.loc M.length), M ++ [.lst []]))]
  simp only [List.set]
  rw [seq_set (by rfl : (eC (.int 0)) _ _ = some (.ok (.int (0 : Nat)), M ++ [.lst []]))]
  simp only [List.set]
  rw [seq_loop it e, ret_ok (bcall1 (var_e rfl) (tuple_loc seq_last))]
  exact fin_fl (flats_st (streaks_good g))
/-! ### what rises -/
def intB : D → Bool
  | .int _ => true
  | _ => false
def iv : D → Int
  | .int i => i
  | _ => 0
abbrev val (vs : List D) (i : Nat) : D := vs.getD i .non
abbrev nt (c : List Nat) : D := .tup (nts c)
def rB (vs : List D) (c : List Nat) : Bool := c.all (fun i => intB (val vs i)) && risB (c.map fun i => iv (val vs i))
theorem val_eq {i : Nat} (h : i < vs.length) : val vs i = vs[i] := by
  unfold val
  rw [List.getD_eq_getElem?_getD, List.getElem?_eq_getElem h]
  rfl
theorem Good.val (g : Good vs) (i : Nat) : C.GoodV (val vs i) := by
  rcases Nat.lt_or_ge i vs.length with h | h
  · rw [val_eq h]
    exact g.gv _ (List.getElem_mem h)
  · unfold K24.val
    rw [List.getD_eq_getElem?_getD, List.getElem?_eq_none h]
    exact .non
theorem isint_ok {v : D} (h : C.GoodV v) : fIs "int" [v] M = some (.ok (.bl (intB v)), M) := by
  cases h <;> rfl
theorem flats_good : ∀ {l : List D}, (∀ v ∈ l, C.GoodV v) → D.flats l = true
  | [], _ => rfl
  | v :: l, h => by
    rw [flats_c, (h v List.mem_cons_self).flat, flats_good fun u hu => h u (List.mem_cons_of_mem _ hu)]
    rfl
theorem ints_all {l : List D} (h : l.all intB = true) : l = (l.map iv).map D.int := by
  induction l with
  | nil => rfl
  | cons v l ih =>
    rw [List.all_cons, Bool.and_eq_true] at h
    rw [List.map_cons, List.map_cons, ← ih h.2]
    cases v with
    | int i => rfl
    | _ => cases h.1
theorem nt_it {c : List Nat} {ρ : Ro} {i : Nat} (h : ρ[i]? = some (some (nt c))) : iLst (eVar i) ρ M = some (.ok ⟨c.map fun n : Nat => D.int n, []⟩, M) := by
  rw [ev_iLst, var_e h]
  rfl
/-- the two tests behind a list of chosen values -/
theorem two_tests {ρ : Ro} {o w a b : Nat} {l : List D} (hl : ∀ v ∈ l, C.GoodV v) (hn : l.length ≤ 1000) (ho : ρ[o]? = some (some (.loc M.length))) (hw : w < ρ.length) (ha : a < ρ.length) (hb : b < ρ.length) (hab : a ≠ b) :
    (sSeq (sIf (tN (tV (eTr (eB fAll (aCons (eLc [w] (iLst (eVar o)) (.one w) tY (eB (fIs "int") (aCons (eVar w) aNil))) aNil))))) (sRet (eC (.bl false))) sNil) (sRet (eTr (eB fAll (aCons (eLc [a, b] (iZp (aCons (eVar o) (aCons (eSl dSl (eVar o) (oSo (eC (.int 1))) oNo) aNil))) (.many [a, b]) tY (eOp dLt (eVar a) (eVar b))) aNil))))) ρ (M ++ [.lst l]) =
      some (.rt (.bl (l.all intB && risB (l.map iv))), ρ, M ++ [.lst l]) := by
  have h1 := all_comp (own := [w]) (im := iLst (eVar o)) (tg := .one w) (e := eB (fIs "int") (aCons (eVar w) aNil)) (ρ := ρ) (M := M ++ [.lst l]) (l := l) (f := id) (gd := [(M.length, l)]) (p := intB) (by rw [ev_iLst, var_e ho, bnd_ok]; dsimp only; rw [seq_last, List.map_id]) (by rw [List.map_id]; exact ix_one seq_last) (size_ge (by omega))
    fun v hv => ⟨_, rfl, fun k => bcall1 (var_e (List.getElem?_set_self (by simpa using hw))) (isint_ok (hl v hv))⟩
  cases hB : l.all intB with
  | false =>
    rw [hB] at h1
    rw [seq_rt ((if_t (n_ok (tv_ok h1))).trans (ret_ok rfl)), Bool.false_and]
  | true =>
    rw [hB] at h1
    have hi := ints_all hB
    have h2 := riseL_e (ρ := ρ) (M := M ++ [.lst l]) (i := o) (a := a) (b := b) (n := M.length) (cs := l.map iv) ho (by rw [← hi]; exact seq_last) ha hb hab (by simpa using hn)
    rw [seq_if0 (n_ok (tv_ok h1)), ret_ok h2, Bool.true_and]
theorem law_rises_ok {c : List Nat} (g : Good vs) (hq : seqAt M vl = some vs) (hc : ∀ i ∈ c, i < vs.length) (hn : c.length ≤ 1000) : f__law_rises [.loc vl, nt c] M = some (.ok (.bl (rB vs c)), M) := by
  have u : f__law_rises [.loc vl, nt c] M = finF M (b__law_rises [some (.loc vl), some (nt c), none, none, none, none, none] M) := callF_eq rfl
  have h := comp_map (own := [3]) (im := iLst (eVar 1)) (tg := .one 3) (e := (eOp dIx (eVar 0) (eVar 3))) (ρ := [some (.loc vl), some (nt c), none, none, none, none, none]) (M := M) (l := c) (f := fun n : Nat => D.int n) (gd := []) (v := fun i => val vs i) (nt_it rfl) Src.ix_nil (size_ge (by omega))
    fun i hi => ⟨_, rfl, fun k => op2 (var_e rfl) (var_e rfl) (C.ix_loc (sq_app hq) (by rw [atI_get (List.getElem?_eq_getElem (hc i hi)), val_eq (hc i hi)]))⟩
  have hg : ∀ v ∈ c.map fun i => val vs i, C.GoodV v := fun v hv => by
    obtain ⟨i, _, rfl⟩ := List.mem_map.mp hv
    exact g.val i
  have e1 := tr_loc (K := [MO.lst (c.map fun i => val vs i)]) (o := MO.lst (c.map fun i => val vs i)) h (Nat.le_refl _) (by rw [List.getElem?_append_right (Nat.le_refl _), Nat.sub_self]; rfl) (D.cls_flats _ _ (flats_good hg))
  rw [u, b__law_rises, seq_set e1]
  simp only [List.set]
  rw [two_tests hg (by simpa using hn) rfl (by simp) (by simp) (by simp) (by decide)]
  have e : ((c.map fun i => val vs i).all intB && risB ((c.map fun i => val vs i).map iv)) = rB vs c := by
    unfold rB
    rw [List.all_map, List.map_map]
    rfl
  rw [e]
  exact fin_bl'
/-! ### choices -/
def chA : Nat → List (List Nat)
  | 0 => [[]]
  | k + 1 => chA k ++ (chA k).map fun c => c ++ [k]
theorem chA_mem : ∀ {k : Nat} {c : List Nat}, c ∈ chA k ↔ c.Pairwise (· < ·) ∧ ∀ i ∈ c, i < k
  | 0, c => by
    rw [chA, List.mem_singleton]
    constructor
    · rintro rfl
      exact ⟨.nil, fun i h => by cases h⟩
    · rintro ⟨_, h⟩
      cases c with
      | nil => rfl
      | cons i c => exact absurd (h i List.mem_cons_self) (Nat.not_lt_zero i)
  | k + 1, c => by
    rw [chA, List.mem_append, List.mem_map]
    constructor
    · rintro (h | ⟨d, h, rfl⟩)
      · obtain ⟨h1, h2⟩ := chA_mem.mp h
        exact ⟨h1, fun i hi => by have := h2 i hi; omega⟩
      · obtain ⟨h1, h2⟩ := chA_mem.mp h
        refine ⟨List.pairwise_append.mpr ⟨h1, List.pairwise_singleton _ _, fun a ha b hb => ?_⟩, fun i hi => ?_⟩
        · rw [List.mem_singleton] at hb
          rw [hb]
          exact h2 a ha
        · rcases List.mem_append.mp hi with h | h
          · have := h2 i h; omega
          · rw [List.mem_singleton] at h; omega
    · rintro ⟨h1, h2⟩
      rcases List.eq_nil_or_concat c with rfl | ⟨d, x, rfl⟩
      · exact .inl (chA_mem.mpr ⟨.nil, fun i h => by cases h⟩)
      · rw [List.concat_eq_append] at *
        obtain ⟨p1, _, p3⟩ := List.pairwise_append.mp h1
        have hx := h2 x (by simp)
        by_cases q : x = k
        · subst q
          exact .inr ⟨d, chA_mem.mpr ⟨p1, fun i hi => p3 i hi x (by simp)⟩, rfl⟩
        · refine .inl (chA_mem.mpr ⟨h1, fun i hi => ?_⟩)
          rcases List.mem_append.mp hi with h | h
          · have := p3 i h x (by simp); omega
          · rw [List.mem_singleton] at h; omega
theorem chA_len : ∀ k, (chA k).length = 2 ^ k
  | 0 => rfl
  | k + 1 => by
    rw [chA, List.length_append, List.length_map, chA_len k, Nat.pow_succ]
    omega
theorem chA_short {k : Nat} : ∀ {c : List Nat}, c ∈ chA k → c.length ≤ k := by
  induction k with
  | zero =>
    intro c h
    rw [chA, List.mem_singleton] at h
    rw [h]
    exact Nat.le_refl _
  | succ k ih =>
    intro c h
    rw [chA, List.mem_append, List.mem_map] at h
    rcases h with h | ⟨d, h, rfl⟩
    · have := ih h; omega
    · have := ih h; simp; omega
theorem flats_nt : ∀ F : List (List Nat), D.flats (F.map nt) = true
  | [] => rfl
  | c :: F => by
    rw [List.map_cons, flats_c, flats_nt F, flat_t, nts_ints, flats_ints]
    rfl
theorem choices_ok {n : Nat} (hn : n ≤ 10) : f__law_choices [.int (n : Nat)] M = some (.ok (.loc M.length), M ++ [.lst ((chA n).map nt)]) := by
  have u : f__law_choices [.int (n : Nat)] M = finF M (b__law_choices [some (.int (n : Nat)), none, none, none] M) := callF_eq rfl
  have s0 : (0 : Nat) ≤ sizeLine := by decide
  have s1 : (1 : Nat) ≤ sizeLine := by decide
  obtain ⟨ρ', M', e, k, f, K, x2, x3, h1, h2, rfl, h3, h4, rfl⟩ := loop_inv (src := ⟨rngD 0 n, []⟩) (g := gN 2) (body := L1__law_choices)
    (fun rest ρ M1 => ∃ (k f : Nat) (K : Ms) (x2 x3 : Option D), rest = (rngD 0 n).drop k ∧ k ≤ n ∧ M1 = M ++ K ∧ M.length ≤ f ∧ M1[f]? = some (.lst ((chA k).map nt)) ∧ ρ = [some (.int (n : Nat)), some (.loc f), x2, x3])
    (fun z rest ρ M1 hI => by
      obtain ⟨k, f, K, x2, x3, h1, h2, rfl, h3, h4, rfl⟩ := hI
      have hlt : k < n := by
        apply Nat.lt_of_not_le
        intro z
        rw [rngD_nil' z] at h1
        cases h1
      rw [rngD_drop' hlt] at h1
      cases h1
      have hsq := seqAt_lst h4
      have hfl := (List.getElem?_eq_some_iff.mp h4).1
      have hp : 2 ^ k ≤ 2 ^ 10 := Nat.pow_le_pow_right (by decide) (by omega)
      have hlen := chA_len k
      have ez : (0 : Int) + (k : Nat) = ((k : Nat) : Int) := by omega
      have h := comp_map (own := [3]) (im := iLst (eVar 1)) (tg := .one 3) (e := (eOp dAdd (eVar 3) (eTup (aCons (eVar 2) aNil)))) (ρ := [some (.int (n : Nat)), some (.loc f), some (.int (k : Nat)), x3]) (M := M ++ K) (l := chA k) (f := nt) (gd := [(f, (chA k).map nt)]) (v := fun c => nt (c ++ [k])) (by simp [hsq]) (ix_one hsq) (size_ge (by omega))
        fun c hc => ⟨_, rfl, fun q => by
          have hs := chA_short hc
          have ad := add_tt (M := M ++ K ++ [.lst q]) (l := nts c) (k := [.int (k : Nat)]) (size_ge (by simp; omega))
          have e : nt (c ++ [k]) = .tup (nts c ++ [.int (k : Nat)]) := by simp
          rw [e]
          refine op2 (var_e rfl) (x := nt c) (y := .tup [.int (k : Nat)]) ?_ ad
          simp [s1]⟩
      have e2 : ((chA k).map fun c => nt (c ++ [k])) = (((chA k).map fun c => c ++ [k]).map nt) := by rw [List.map_map]; rfl
      rw [e2] at h
      have l1 : lstAt (M ++ K ++ [.lst (((chA k).map fun c => c ++ [k]).map nt)]) f = some ((chA k).map nt) := lstAt_lst (by rw [List.getElem?_append_left hfl]; exact h4)
      have l2 : lstAt (M ++ K ++ [.lst (((chA k).map fun c => c ++ [k]).map nt)]) (M ++ K).length = some (((chA k).map fun c => c ++ [k]).map nt) := lst_last
      have ad := add_ll l1 l2 (size_ge (by simp only [List.length_map]; omega))
      have e3 : (chA k).map nt ++ ((chA k).map fun c => c ++ [k]).map nt = (chA (k + 1)).map nt := by rw [← List.map_append]; rfl
      rw [e3] at ad
      have eb : L1__law_choices [some (.int (n : Nat)), some (.loc f), some (.int (k : Nat)), x3] (M ++ K) = some (.nx, [some (.int (n : Nat)), some (.loc (M ++ K ++ [MO.lst (((chA k).map fun c => c ++ [k]).map nt)]).length), some (.int (k : Nat)), x3], M ++ K ++ [MO.lst (((chA k).map fun c => c ++ [k]).map nt)] ++ [MO.lst ((chA (k + 1)).map nt)]) := by
        rw [L1__law_choices, as_set (op2 (var_e rfl) h ad)]
        rfl
      refine ⟨rfl, _, _, _, _, (by rw [ez]; rfl), eb, k + 1, _, K ++ [MO.lst (((chA k).map fun c => c ++ [k]).map nt), .lst ((chA (k + 1)).map nt)], _, _, rfl, by omega, by simp, ?_, ?_, rfl⟩
      · simp
      · rw [List.getElem?_append_right (Nat.le_refl _), Nat.sub_self]
        rfl)
    (fun ρ M1 hI => rfl) (items := rngD 0 n) (ρ := [some (.int (n : Nat)), some (.loc M.length), none, none]) (M := M ++ [.lst [.tup []]]) ⟨0, M.length, [.lst [.tup []]], none, none, rfl, Nat.zero_le _, rfl, Nat.le_refl _, by rw [List.getElem?_append_right (Nat.le_refl _), Nat.sub_self]; rfl, rfl⟩
  have hk : k = n := by
    rcases Nat.lt_or_ge k n with z | z
    · rw [rngD_drop' z] at h1; cases h1
    · omega
  subst hk
  have e0 : (eLst (aCons (eTup aNil) aNil)) [some (.int (k : Nat)), none, none, none] M = some (.ok (.loc M.length), M ++ [.lst [.tup []]]) := by
    simp [s1]
  have it : iRn1 (aCons (eVar 0) aNil) [some (.int (k : Nat)), some (.loc M.length), none, none] (M ++ [.lst [.tup []]]) = some (.ok ⟨rngD 0 k, []⟩, M ++ [.lst [.tup []]]) := rn1_of (arg1 (var_e rfl)) rfl (by omega)
  rw [u, b__law_choices, seq_set (i := 1) e0]
  simp only [List.set]
  rw [seq_loop it e, ret_ok (var_e rfl)]
  exact fin_loc h3 h4 (D.cls_flats _ _ (flats_nt _))
end
end K24
end
section
set_option linter.all false
set_option maxHeartbeats 8000000
/-! # k24: is_rising, the law's best, read -/
namespace K24
open PySem PySem.Spec PyProof.Rows L2 G
section
variable {M : Ms} {vs : List D} {vl : Nat}
theorem in_rows (g : Good vs) {ρ : Ro} {i : Nat} (h0 : ρ[0]? = some (some (tab vs))) : (eOp dSub (eB fLen (aCons (eOp dIx (eVar 0) (eC (.int 1))) aNil)) (eC (.int 1))) ρ M = some (.ok (.int ((vs.length : Int) - 1)), M) := by
  refine op2 (bcall1 (op2 (var_e h0) rfl C.ix1) len_tup) rfl ?_
  rw [List.length_map, rows_len]
  rfl
/-- whatever is no tuple of places -/
theorem wrong_e {v : D} (g : Good vs) (hv : fIs "tuple" [v] M = some (.ok (.bl false), M)) : f_is_rising [tab vs, .str [113], v] M = some (.ok (.bl false), M) := by
  have u : f_is_rising [tab vs, .str [113], v] M = finF M (b_is_rising [some (tab vs), some (.str [113]), some v, none, none, none, none, none] M) := callF_eq rfl
  rw [u, b_is_rising, seq_do (col_e g rfl rfl), seq_rt ((if_t (o_t (n_ok (tv_ok (bcall1 (var_e rfl) hv))))).trans (ret_ok rfl))]
  exact fin_bl
theorem wrong_f {v : D} {l : List D} {gd : List (Nat × List D)} {p : D → Bool} (g : Good vs) (hv : fIs "tuple" [v] M = some (.ok (.bl true), M)) (hi : iLst (eVar 2) [some (tab vs), some (.str [113]), some v, none, none, none, none, none] M = some (.ok ⟨l, gd⟩, M)) (hg : Src.ix ⟨l, gd⟩ M) (hl : l.length ≤ 1000)
    (hp : ∀ x ∈ l, ∀ M, C.is_in [x, .int 0, .int ((vs.length : Int) - 1)] M = some (.ok (.bl (p x)), M)) (hf : l.all p = false) : f_is_rising [tab vs, .str [113], v] M = some (.ok (.bl false), M) := by
  have u : f_is_rising [tab vs, .str [113], v] M = finF M (b_is_rising [some (tab vs), some (.str [113]), some v, none, none, none, none, none] M) := callF_eq rfl
  have h := all_comp (own := [3]) (im := iLst (eVar 2)) (tg := .one 3) (e := (eCall f_is_in (aCons (eVar 3) (aCons (eC (.int 0)) (aCons (eOp dSub (eB fLen (aCons (eOp dIx (eVar 0) (eC (.int 1))) aNil)) (eC (.int 1))) aNil))))) (ρ := [some (tab vs), some (.str [113]), some v, none, none, none, none, none]) (M := M) (l := l) (f := id) (gd := gd) (p := p) (by rw [hi, List.map_id]) (by rw [List.map_id]; exact hg) (size_ge (by omega))
    fun x hx => ⟨_, rfl, fun k => call3 (var_e rfl) rfl (in_rows (i := 0) g rfl) (hp x hx _)⟩
  rw [hf] at h
  have e := o_f (n_ok (tv_ok (bcall1 (f := fIs "tuple") (e1 := eVar 2) (var_e rfl) hv))) (n_ok (tv_ok h))
  rw [u, b_is_rising, seq_do (col_e g rfl rfl), seq_rt ((if_t e).trans (ret_ok rfl))]
  exact fin_bl
/-- a tuple of places of rows -/
theorem is_rising_ok {c : List Nat} (g : Good vs) (hc : ∀ i ∈ c, i < vs.length) (hn : c.length ≤ 1000) : f_is_rising [tab vs, .str [113], nt c] M = some (.ok (.bl (risB (c.map fun n : Nat => (n : Int)) && rB vs c)), M) := by
  have u : f_is_rising [tab vs, .str [113], nt c] M = finF M (b_is_rising [some (tab vs), some (.str [113]), some (nt c), none, none, none, none, none] M) := callF_eq rfl
  have h := all_comp (own := [3]) (im := iLst (eVar 2)) (tg := .one 3) (e := (eCall f_is_in (aCons (eVar 3) (aCons (eC (.int 0)) (aCons (eOp dSub (eB fLen (aCons (eOp dIx (eVar 0) (eC (.int 1))) aNil)) (eC (.int 1))) aNil))))) (ρ := [some (tab vs), some (.str [113]), some (nt c), none, none, none, none, none]) (M := M) (l := c) (f := fun n : Nat => D.int n) (gd := []) (p := fun _ => true) (nt_it rfl) Src.ix_nil (size_ge (by omega))
    fun x hx => ⟨_, rfl, fun k => call3 (var_e rfl) rfl (in_rows (i := 0) g rfl) (by rw [e_in, C.in_i, decide_eq_true]; have := hc x hx; omega)⟩
  rw [List.all_eq_true.mpr fun _ _ => rfl] at h
  have e1 := o_f (n_ok (tv_ok (bcall1 (f := fIs "tuple") (e1 := eVar 2) (ρ := [some (tab vs), some (.str [113]), some (nt c), none, none, none, none, none]) (M := M) (var_e rfl) C.is_tup_t))) (n_ok (tv_ok h))
  have e2 := rise_e (ρ := [some (tab vs), some (.str [113]), some (nt c), none, none, none, none, none]) (M := M) (i := 2) (a := 4) (b := 5) (cs := c.map fun n : Nat => (n : Int)) (by rw [← nts_ints]; rfl) (by simp) (by simp) (by decide) (by simpa using hn)
  have hm := comp_map (own := [3]) (im := iLst (eVar 2)) (tg := .one 3) (e := (eCall f_at_name (aCons (eOp dIx (eOp dIx (eVar 0) (eC (.int 1))) (eVar 3)) (aCons (eOp dIx (eVar 0) (eC (.int 0))) (aCons (eVar 1) aNil))))) (ρ := [some (tab vs), some (.str [113]), some (nt c), none, none, none, none, none]) (M := M) (l := c) (f := fun n : Nat => D.int n) (gd := []) (v := fun i => val vs i) (nt_it rfl) Src.ix_nil (size_ge (by omega))
    fun i hi => ⟨_, rfl, fun k => call3 (op2 (op2 (var_e rfl) rfl C.ix1) (var_e rfl) (C.ix_tup (atI_get (by rw [List.getElem?_map, rows_at (hc i hi)]; rfl)))) (op2 (var_e rfl) rfl C.ix0) (var_e rfl) (by rw [at_q (g.gv _ (List.getElem_mem (hc i hi))), val_eq (hc i hi)])⟩
  have hg : ∀ v ∈ c.map fun i => val vs i, C.GoodV v := fun v hv => by
    obtain ⟨i, _, rfl⟩ := List.mem_map.mp hv
    exact g.val i
  have e3 := tr_loc (K := [MO.lst (c.map fun i => val vs i)]) (o := MO.lst (c.map fun i => val vs i)) hm (Nat.le_refl _) (by rw [List.getElem?_append_right (Nat.le_refl _), Nat.sub_self]; rfl) (D.cls_flats _ _ (flats_good hg))
  rw [u, b_is_rising, seq_do (col_e g rfl rfl), seq_if0 e1]
  cases hr : risB (c.map fun n : Nat => (n : Int)) with
  | false =>
    rw [hr] at e2
    rw [seq_rt ((if_t (n_ok (tv_ok e2))).trans (ret_ok rfl)), Bool.false_and]
    exact fin_bl
  | true =>
    rw [hr] at e2
    rw [seq_if0 (n_ok (tv_ok e2)), seq_set (i := 6) e3, Bool.true_and]
    simp only [List.set]
    rw [two_tests hg (by simpa using hn) rfl (by simp) (by simp) (by simp) (by decide)]
    have e : ((c.map fun i => val vs i).all intB && risB ((c.map fun i => val vs i).map iv)) = rB vs c := by
      unfold rB
      rw [List.all_map, List.map_map]
      rfl
    rw [e]
    exact fin_bl'
/-! ### rising choices in plain numbers -/
abbrev Ib (vs : List D) (i : Nat) : Bool := intB (val vs i)
abbrev Xb (vs : List D) (i : Nat) : Int := iv (val vs i)
theorem ris_nat {c : List Nat} : risB (c.map fun n : Nat => (n : Int)) = true ↔ c.Pairwise (· < ·) := by
  rw [risB_iff, List.pairwise_map]
  exact ⟨fun h => h.imp fun a => by omega, fun h => h.imp fun a => by omega⟩
theorem rs_iff {c : List Nat} (h1 : c.Pairwise (· < ·)) (h2 : ∀ i ∈ c, i < vs.length) : rB vs c = true ↔ M24.Rs vs.length (Ib vs) (Xb vs) c := by
  unfold rB M24.Rs
  rw [Bool.and_eq_true, List.all_eq_true, risB_iff, List.pairwise_map]
  constructor
  · rintro ⟨a, b⟩
    exact ⟨fun i hi => ⟨h2 i hi, a i hi⟩, h1.and b⟩
  · rintro ⟨a, b⟩
    exact ⟨fun i hi => (a i hi).2, b.imp fun h => h.2⟩
theorem rs_asc {c : List Nat} (h : M24.Rs vs.length (Ib vs) (Xb vs) c) : c.Pairwise (· < ·) := h.2.imp fun h => h.1
theorem rs_lt {c : List Nat} (h : M24.Rs vs.length (Ib vs) (Xb vs) c) : ∀ i ∈ c, i < vs.length := fun i hi => (h.1 i hi).1
theorem rs_mem {c : List Nat} (h : M24.Rs vs.length (Ib vs) (Xb vs) c) : c ∈ chA vs.length := chA_mem.mpr ⟨rs_asc h, rs_lt h⟩
theorem lx_less {c d : List Nat} (h : M24.Lx c d) : dLess (nt c) (nt d) = true := by
  obtain ⟨p, a, b, x, y, rfl, rfl, hab⟩ := h
  have e1 : nt (p ++ a :: x) = .tup (nts p ++ D.int a :: nts x) := by simp
  have e2 : nt (p ++ b :: y) = .tup (nts p ++ D.int b :: nts y) := by simp
  rw [e1, e2, less_pre, less_int _ _ _ _ (by omega)]
  exact decide_eq_true (by omega)
/-- better: longer, or as long and less -/
def bt (c b : List Nat) : Bool := decide (b.length < c.length) || (decide (c.length = b.length) && dLess (nt c) (nt b))
theorem bt_trans {a b c : List Nat} (h1 : bt a b = true) (h2 : bt b c = true) : bt a c = true := by
  unfold bt at *
  simp only [Bool.or_eq_true, Bool.and_eq_true, decide_eq_true_eq] at *
  rcases h1 with h1 | ⟨h1, h3⟩ <;> rcases h2 with h2 | ⟨h2, h4⟩
  · exact .inl (by omega)
  · exact .inl (by omega)
  · exact .inl (by omega)
  · exact .inr ⟨by omega, less_trans h3 h4⟩
theorem best_turn {b c : List Nat} {x2 : Option D} (g : Good vs) (hq : seqAt M vl = some vs) (hc : c ∈ chA vs.length) : L1__law_best [some (.loc vl), some (nt b), some (nt c)] M = some (.nx, [some (.loc vl), some (nt (if rB vs c && bt c b then c else b)), some (nt c)], M) := by
  have hm := chA_mem.mp hc
  have hs := chA_short hc
  have gle := g.le
  have e1 : (tV (eCall f__law_rises (aCons (eVar 0) (aCons (eVar 2) aNil)))) [some (.loc vl), some (nt b), some (nt c)] M = some (.ok (rB vs c), M) := tv_ok (call2 (var_e rfl) (var_e rfl) (law_rises_ok g hq hm.2 (by omega)))
  have l1 : ∀ c : List Nat, fLen [nt c] M = some (.ok (.int (c.length : Nat)), M) := fun c => by rw [len_tup, List.length_map]
  have e2 : (tO (tV (eOp dGt (eB fLen (aCons (eVar 2) aNil)) (eB fLen (aCons (eVar 1) aNil)))) (tAn (tV (eOp dEq (eB fLen (aCons (eVar 2) aNil)) (eB fLen (aCons (eVar 1) aNil)))) (tV (eOp dLtD (eVar 2) (eVar 1))))) [some (.loc vl), some (nt b), some (nt c)] M = some (.ok (bt c b), M) := by
    have a1 : (tV (eOp dGt (eB fLen (aCons (eVar 2) aNil)) (eB fLen (aCons (eVar 1) aNil)))) [some (.loc vl), some (nt b), some (nt c)] M = some (.ok (decide (b.length < c.length)), M) := tv_ok (op2 (bcall1 (var_e rfl) (l1 c)) (bcall1 (var_e rfl) (l1 b)) (by rw [gt_ii, (decide_eq_decide.mpr (by omega) : decide ((b.length : Int) < (c.length : Nat)) = decide (b.length < c.length))]))
    have a2 : (tV (eOp dEq (eB fLen (aCons (eVar 2) aNil)) (eB fLen (aCons (eVar 1) aNil)))) [some (.loc vl), some (nt b), some (nt c)] M = some (.ok (decide (c.length = b.length)), M) := tv_ok (op2 (bcall1 (var_e rfl) (l1 c)) (bcall1 (var_e rfl) (l1 b)) (by rw [eq_ii, (decide_eq_decide.mpr (by omega) : decide ((c.length : Int) = (b.length : Nat)) = decide (c.length = b.length))]))
    have a3 : (tV (eOp dLtD (eVar 2) (eVar 1))) [some (.loc vl), some (nt b), some (nt c)] M = some (.ok (dLess (nt c) (nt b)), M) := tv_ok (op2 (var_e rfl) (var_e rfl) (by
      have := lt_its (M := M) (ns := c.map fun n : Nat => (n : Int)) (ms := b.map fun n : Nat => (n : Int))
      rw [← nts_ints, ← nts_ints] at this
      exact this))
    unfold bt
    cases h1 : decide (b.length < c.length) with
    | true =>
      rw [h1] at a1
      rw [Bool.true_or]
      exact o_t a1
    | false =>
      rw [h1] at a1
      rw [Bool.false_or]
      cases h2 : decide (c.length = b.length) with
      | true =>
        rw [h2] at a2
        rw [Bool.true_and]
        exact o_f a1 (an_t a2 a3)
      | false =>
        rw [h2] at a2
        rw [Bool.false_and]
        exact o_f a1 (an_f a2)
  unfold L1__law_best
  cases h1 : rB vs c with
  | false =>
    rw [h1] at e1
    rw [if_f (an_f e1), Bool.false_and]
    rfl
  | true =>
    rw [h1] at e1
    rw [Bool.true_and]
    cases h2 : bt c b with
    | false =>
      rw [h2] at e2
      rw [if_f (an_t e1 e2)]
      rfl
    | true =>
      rw [h2] at e2
      rw [if_t (an_t e1 e2), as_set (var_e rfl)]
      rfl
theorem law_best_ok {F : List Nat} (g : Good vs) (hq : seqAt M vl = some vs) (hB : M24.Best vs.length (Ib vs) (Xb vs) F) : f__law_best [.loc vl] M = some (.ok (nt F), M) := by
  have u : f__law_best [.loc vl] M = finF M (b__law_best [some (.loc vl), none, none] M) := callF_eq rfl
  have gle := g.le
  have hch := choices_ok (M := M) (n := vs.length) (by omega)
  have hq1 : seqAt (M ++ [.lst ((chA vs.length).map nt)]) vl = some vs := sq_app hq
  have hsrc : Src.ix ⟨(chA vs.length).map nt, [(M.length, (chA vs.length).map nt)]⟩ (M ++ [.lst ((chA vs.length).map nt)]) := ix_one seq_last
  obtain ⟨ρ', M', e, rfl, A, B, b, x2, h1, h2, rfl, h3, h4⟩ := loop_inv (src := ⟨(chA vs.length).map nt, [(M.length, (chA vs.length).map nt)]⟩) (g := gN 2) (body := L1__law_best)
    (fun rest ρ M1 => M1 = M ++ [.lst ((chA vs.length).map nt)] ∧ ∃ (A B : List (List Nat)) (b : List Nat) (x2 : Option D), chA vs.length = A ++ B ∧ rest = B.map nt ∧ ρ = [some (.loc vl), some (nt b), x2] ∧ M24.Rs vs.length (Ib vs) (Xb vs) b ∧ ∀ c ∈ A, rB vs c = true → bt c b = false)
    (fun z rest ρ M1 hI => by
      obtain ⟨rfl, A, B, b, x2, h1, h2, rfl, h3, h4⟩ := hI
      cases B with
      | nil => cases h2
      | cons c B =>
        cases h2
        have hc : c ∈ chA vs.length := by rw [h1]; simp
        have hm := chA_mem.mp hc
        refine ⟨Src.ok_of hsrc, _, _, _, _, rfl, best_turn (x2 := x2) g hq1 hc, rfl, A ++ [c], B, _, _, by rw [h1]; simp, rfl, rfl, ?_, fun d hd hr => ?_⟩
        · split
          · rename_i h
            rw [Bool.and_eq_true] at h
            exact (rs_iff hm.1 hm.2).mp h.1
          · exact h3
        · rcases List.mem_append.mp hd with hd | hd
          · split
            · rename_i h
              rw [Bool.and_eq_true] at h
              cases hz : bt d c with
              | false => rfl
              | true =>
                have := bt_trans hz h.2
                rw [h4 d hd hr] at this
                cases this
            · exact h4 d hd hr
          · rw [List.mem_singleton] at hd
            subst hd
            rw [hr, Bool.true_and]
            cases hz : bt d b with
            | false => rw [if_neg Bool.false_ne_true]; exact hz
            | true =>
              rw [if_pos rfl]
              unfold bt
              rw [less_irrefl, Bool.and_false, Bool.or_false, decide_eq_false (Nat.lt_irrefl _)])
    (fun ρ M1 hI => by obtain ⟨rfl, _⟩ := hI; exact Src.ok_of hsrc) (items := (chA vs.length).map nt) (ρ := [some (.loc vl), some (nt []), none]) (M := M ++ [.lst ((chA vs.length).map nt)]) ⟨rfl, [], chA vs.length, [], none, rfl, rfl, rfl, .nil, fun c hc => by cases hc⟩
  cases B with
  | cons _ _ => cases h2
  | nil =>
    rw [List.append_nil] at h1
    have hb : b = F := by
      have t1 := hB.top b h3
      have hF := h4 F (by rw [← h1]; exact rs_mem hB.rs) ((rs_iff (rs_asc hB.rs) (rs_lt hB.rs)).mpr hB.rs)
      unfold bt at hF
      rw [Bool.or_eq_false_iff, decide_eq_false_iff_not] at hF
      have hlen : b.length = F.length := by omega
      rcases hB.lex b h3 hlen with h | h
      · exact h
      · have := lx_less h
        rw [this, decide_eq_true hlen.symm] at hF
        cases hF.2
    subst hb
    have e0 : (eTup aNil) [some (.loc vl), none, none] M = some (.ok (nt []), M) := by
      simp
    have hlen : fLen [.loc vl] M = some (.ok (.int (vs.length : Nat)), M) := len_loc hq
    have it : iLst (eCall f__law_choices (aCons (eB fLen (aCons (eVar 0) aNil)) aNil)) [some (.loc vl), some (nt []), none] M = some (.ok ⟨(chA vs.length).map nt, [(M.length, (chA vs.length).map nt)]⟩, M ++ [.lst ((chA vs.length).map nt)]) := by
      rw [ev_iLst, call1 (bcall1 (var_e rfl) hlen) hch]
      simp only [bnd_ok, seq_last]
    rw [u, b__law_best, seq_set (i := 1) e0]
    simp only [List.set]
    rw [seq_loop it e, ret_ok (var_e rfl)]
    exact fin_fl (by rw [flat_t, nts_ints]; exact flats_ints _)
end
end K24
end
section
set_option linter.all false
set_option maxHeartbeats 8000000
/-! # k24: rising, read -/
namespace K24
open PySem PySem.Spec PyProof.Rows L2 G
section
variable {M : Ms} {vs : List D} {vl : Nat}
theorem more_ok {v : D} {b : Int} (h : C.GoodV v) : f_is_more [v, .int b] M = some (.ok (.bl (intB v && decide (b < iv v))), M) := by
  have u : f_is_more [v, .int b] M = finF M (b_is_more [some v, some (.int b)] M) := callF_eq rfl
  rw [u, b_is_more, ret_ok (an_bl (a := intB v) (b := decide (b < iv v)) (bcall1 (var_e rfl) (isint_ok h)) fun hi => by
    cases v with
    | int i => exact op2 (var_e rfl) (var_e rfl) gt_ii
    | _ => cases hi)]
  exact fin_bl
theorem val_int {i : Nat} (h : Ib vs i = true) : val vs i = .int (Xb vs i) := by
  unfold Xb
  unfold Ib at h
  cases hv : val vs i with
  | int z => rfl
  | _ => rw [hv] at h; cases h
/-- the store while the longest are counted -/
abbrev B3 (M : Ms) (vs : List D) (BL : List Nat) : Ms := M ++ [.lst vs, .lst [.int 0], .lst (nts BL)]
theorem b3_vs {BL : List Nat} {K : Ms} : seqAt (B3 M vs BL ++ K) M.length = some vs := by
  unfold seqAt
  rw [List.append_assoc, List.getElem?_append_right (Nat.le_refl _), Nat.sub_self]
  rfl
theorem b3_at {BL : List Nat} {K : Ms} : (B3 M vs BL ++ K)[M.length + 2]? = some (.lst (nts BL)) := by
  rw [List.append_assoc, List.getElem?_append_right (by omega), Nat.add_sub_cancel_left]
  rfl
theorem b3_set {BL BL' : List Nat} {K : Ms} : (B3 M vs BL ++ K).set (M.length + 2) (.lst (nts BL')) = B3 M vs BL' ++ K := by
  rw [List.append_assoc, List.set_append_right _ _ (by omega), Nat.add_sub_cancel_left, List.append_assoc]
  rfl
theorem nts_at {BL : List Nat} {j : Nat} (h : j < BL.length) : (nts BL)[j]? = some (.int (BL.getD j 0 : Nat)) := by
  rw [List.getElem?_map, List.getElem?_eq_getElem h, List.getD_eq_getElem?_getD, List.getElem?_eq_getElem h]
  rfl
theorem ix_vs {N : Ms} {i : Nat} (h : seqAt N vl = some vs) (hi : i < vs.length) : dIx (.loc vl) (.int (i : Nat)) N = some (.ok (val vs i), N) := C.ix_loc h (by rw [G.atI_get (List.getElem?_eq_getElem hi), val_eq hi])
theorem max_e {ρ : Ro} {N : Ms} {i n : Nat} {ns : List Nat} (hi : ρ[i]? = some (some (.loc n))) (hN : N[n]? = some (.lst (nts ns))) (hl : ns.length ≤ 1000) : (eTr (eB fMax (aCons (eOp dAdd (eVar i) (eLst (aCons (eC (.int 0)) aNil))) aNil))) ρ N = some (.ok (.int (mxz ns : Nat)), N) := by
  have s1 : (1 : Nat) ≤ sizeLine := by decide
  have hn := (List.getElem?_eq_some_iff.mp hN).1
  have e1 : (eLst (aCons (eC (.int 0)) aNil)) ρ N = some (.ok (.loc N.length), N ++ [.lst [.int 0]]) := by
    simp [s1]
  have ad := add_ll (M := N ++ [.lst [.int 0]]) (n := n) (k := N.length) (l := nts ns) (l2 := [.int 0]) (lstAt_lst (by rw [List.getElem?_append_left hn]; exact hN)) lst_last (size_ge (by simp; omega))
  refine tr_fl (K := [.lst [.int 0], .lst (nts ns ++ [.int 0])]) ?_ rfl
  have h := max_app (M := N ++ [.lst [.int 0]] ++ [.lst (nts ns ++ [.int 0])]) (n := (N ++ [MO.lst [D.int 0]]).length) (ns := ns) seq_last
  rw [bcall1 (op2 (var_e hi) e1 ad) h]
  simp
theorem rise_turn {i : Nat} {BL : List Nat} {K : Ms} {x3 x6 x7 x8 x9 : Option D} (g : Good vs) (hi : i < vs.length) (hB : BL.length = vs.length) :
    ∃ x6' K', L1_rising [some (tab vs), some (.str [113]), some (.loc M.length), x3, some (.loc (M.length + 2)), some (.int (i : Nat)), x6, x7, x8, x9] (B3 M vs BL ++ K) =
      some (.nx, [some (tab vs), some (.str [113]), some (.loc M.length), x3, some (.loc (M.length + 2)), some (.int (i : Nat)), x6', x7, x8, x9], B3 M vs (if Ib vs i = true then BL.set i (mxz ((((List.range (vs.length - (i + 1))).filter fun k => Ib vs (i + 1 + k) && decide (Xb vs i < Xb vs (i + 1 + k))).map fun k => BL.getD (i + 1 + k) 0)) + 1) else BL) ++ K') := by
  have gle := g.le
  have gv := g.val i
  have ixi : ∀ G : Ms, dIx (.loc M.length) (.int (i : Nat)) (B3 M vs BL ++ K ++ G) = some (.ok (val vs i), B3 M vs BL ++ K ++ G) := fun G => ix_vs (sq_app b3_vs) hi
  have ixi0 : dIx (.loc M.length) (.int (i : Nat)) (B3 M vs BL ++ K) = some (.ok (val vs i), B3 M vs BL ++ K) := ix_vs b3_vs hi
  have t1 : (tV (eB (fIs "int") (aCons (eOp dIx (eVar 2) (eVar 5)) aNil))) [some (tab vs), some (.str [113]), some (.loc M.length), x3, some (.loc (M.length + 2)), some (.int (i : Nat)), x6, x7, x8, x9] (B3 M vs BL ++ K) = some (.ok (Ib vs i), B3 M vs BL ++ K) := tv_ok (bcall1 (op2 (var_e rfl) (var_e rfl) ixi0) (isint_ok gv))
  unfold L1_rising
  cases hI : Ib vs i with
  | false =>
    rw [hI] at t1
    rw [if_f t1, if_neg Bool.false_ne_true]
    exact ⟨x6, K, rfl⟩
  | true =>
    rw [hI] at t1
    rw [if_t t1, if_pos rfl]
    have hvi := val_int hI
    have hlen : fLen [.loc M.length] (B3 M vs BL ++ K) = some (.ok (.int (vs.length : Nat)), B3 M vs BL ++ K) := len_loc b3_vs
    have it : iRn2 (aCons (eOp dAdd (eVar 5) (eC (.int 1))) (aCons (eB fLen (aCons (eVar 2) aNil)) aNil)) [some (tab vs), some (.str [113]), some (.loc M.length), x3, some (.loc (M.length + 2)), some (.int (i : Nat)), x6, x7, x8, x9] (B3 M vs BL ++ K) = some (.ok ⟨(List.range (vs.length - (i + 1))).map fun k : Nat => D.int (((i + 1 : Nat) : Int) + (k : Nat)), []⟩, B3 M vs BL ++ K) := by
      have q : (aCons (eOp dAdd (eVar 5) (eC (.int 1))) (aCons (eB fLen (aCons (eVar 2) aNil)) aNil)) [some (tab vs), some (.str [113]), some (.loc M.length), x3, some (.loc (M.length + 2)), some (.int (i : Nat)), x6, x7, x8, x9] (B3 M vs BL ++ K) = some (.ok [.int ((i + 1 : Nat) : Int), .int (vs.length : Nat)], B3 M vs BL ++ K) := by
        simp only [ev_cons, ev_c, ev_op, ev_B, ev_var, ev_nil, bnd_ok, List.getElem?_cons_succ, List.getElem?_cons_zero, hlen, add_ii]
        rfl
      rw [rn2 q (by omega) (by omega) (by omega) (by omega), show ((vs.length : Int) - ((i + 1 : Nat) : Int)).toNat = vs.length - (i + 1) by omega]
      rfl
    have hc := comp_filter (own := [7]) (tg := .one 7) (t := (tV (eCall f_is_more (aCons (eOp dIx (eVar 2) (eVar 7)) (aCons (eOp dIx (eVar 2) (eVar 5)) aNil))))) (e := (eOp dIx (eVar 4) (eVar 7))) (v := fun k => D.int (BL.getD (i + 1 + k) 0 : Nat)) (p := fun k => Ib vs (i + 1 + k) && decide (Xb vs i < Xb vs (i + 1 + k))) it Src.ix_nil (size_ge (by rw [List.length_range]; omega)) (fun k hk => by
      have hk := List.mem_range.mp hk
      have ez : (((i + 1 : Nat) : Int) + (k : Nat)) = ((i + 1 + k : Nat) : Int) := by omega
      refine ⟨_, rfl, fun q => ⟨tv_ok (call2 (op2 (var_e rfl) (var_e rfl) (by rw [ez]; exact ix_vs (sq_app b3_vs) (by omega))) (op2 (var_e rfl) (var_e rfl) (ixi _)) (by rw [hvi]; exact more_ok (g.val _))), fun _ => op2 (var_e rfl) (var_e rfl) (by rw [ez]; exact C.ix_loc (sq_app (seqAt_lst b3_at)) (by rw [G.atI_get (nts_at (by omega))]))⟩⟩)
    have e2 : (((List.range (vs.length - (i + 1))).filter fun k => Ib vs (i + 1 + k) && decide (Xb vs i < Xb vs (i + 1 + k))).map fun k => D.int (BL.getD (i + 1 + k) 0 : Nat)) = nts (((List.range (vs.length - (i + 1))).filter fun k => Ib vs (i + 1 + k) && decide (Xb vs i < Xb vs (i + 1 + k))).map fun k => BL.getD (i + 1 + k) 0) := by
      unfold nts
      rw [List.map_map]
      rfl
    rw [e2] at hc
    have hlg : (((List.range (vs.length - (i + 1))).filter fun k => Ib vs (i + 1 + k) && decide (Xb vs i < Xb vs (i + 1 + k))).map fun k => BL.getD (i + 1 + k) 0).length ≤ 1000 := by
      rw [List.length_map]
      have := List.length_filter_le (fun k => Ib vs (i + 1 + k) && decide (Xb vs i < Xb vs (i + 1 + k))) (List.range (vs.length - (i + 1)))
      rw [List.length_range] at this
      omega
    generalize (((List.range (vs.length - (i + 1))).filter fun k => Ib vs (i + 1 + k) && decide (Xb vs i < Xb vs (i + 1 + k))).map fun k => BL.getD (i + 1 + k) 0) = lg at *
    have e3 := tr_loc (K := [MO.lst (nts lg)]) (o := MO.lst (nts lg)) hc (Nat.le_refl _) (by rw [List.getElem?_append_right (Nat.le_refl _), Nat.sub_self]; rfl) (D.cls_flats _ _ (by rw [nts_ints]; exact flats_ints _))
    have e4 := max_e (ρ := [some (tab vs), some (.str [113]), some (.loc M.length), x3, some (.loc (M.length + 2)), some (.int (i : Nat)), some (.loc (B3 M vs BL ++ K).length), x7, x8, x9]) (N := B3 M vs BL ++ K ++ [.lst (nts lg)]) (i := 6) (n := (B3 M vs BL ++ K).length) (ns := lg) rfl (by rw [List.getElem?_append_right (Nat.le_refl _), Nat.sub_self]; rfl) hlg
    have sf : setF (.loc (M.length + 2)) (.int (i : Nat)) (.int ((mxz lg + 1 : Nat) : Int)) (B3 M vs BL ++ (K ++ [.lst (nts lg)])) = some (B3 M vs (BL.set i (mxz lg + 1)) ++ (K ++ [.lst (nts lg)])) := by
      rw [C.setF_lst (l := nts BL) (j := i) b3_at (by
        unfold ixN
        rw [if_pos (by omega), if_pos (by simp; omega)]
        simp)]
      have : (nts BL).set i (.int ((mxz lg + 1 : Nat) : Int)) = nts (BL.set i (mxz lg + 1)) := by
        unfold nts
        rw [← List.map_set]
      rw [this, b3_set]
    have sf' : setF (.loc (M.length + 2)) (.int (i : Nat)) (.int ((mxz lg + 1 : Nat) : Int)) (B3 M vs BL ++ K ++ [.lst (nts lg)]) = some (B3 M vs (BL.set i (mxz lg + 1)) ++ (K ++ [.lst (nts lg)])) := by
      rw [List.append_assoc (B3 M vs BL)]
      exact sf
    refine ⟨some (.loc (B3 M vs BL ++ K).length), K ++ [.lst (nts lg)], ?_⟩
    rw [seq_set e3]
    simp only [List.set]
    rw [ev_as, op2 (g := dAdd) (e1 := eC (.int 1)) rfl e4 add_ii, bndS_ok, ev_gIx, var_e rfl]
    dsimp only
    rw [var_e rfl]
    dsimp only
    rw [show (1 : Int) + ((mxz lg : Nat) : Int) = ((mxz lg + 1 : Nat) : Int) by omega, sf']
    rfl
theorem rise_bok {i : Nat} {BL : List Nat} (hi : i < vs.length) (hB : BL.length = vs.length) (hk : ∀ j, i < j → j < vs.length → M24.BOk vs.length (Ib vs) (Xb vs) j (BL.getD j 0)) (h0 : BL.getD i 0 = 0) :
    ∀ j, i ≤ j → j < vs.length → M24.BOk vs.length (Ib vs) (Xb vs) j ((if Ib vs i = true then BL.set i (mxz ((((List.range (vs.length - (i + 1))).filter fun k => Ib vs (i + 1 + k) && decide (Xb vs i < Xb vs (i + 1 + k))).map fun k => BL.getD (i + 1 + k) 0)) + 1) else BL).getD j 0) := by
  intro j h1 h2
  cases hI : Ib vs i with
  | false =>
    rw [if_neg Bool.false_ne_true]
    by_cases q : j = i
    · subst q
      rw [h0]
      exact ⟨fun _ => rfl, fun z => by rw [hI] at z; cases z⟩
    · exact hk j (by omega) h2
  | true =>
    rw [if_pos rfl]
    by_cases q : j = i
    · subst q
      rw [List.getD_eq_getElem?_getD, List.getElem?_set_self (by omega)]
      refine M24.bok_step (ks := fun j => BL.getD j 0) hi hI hk (fun t a1 a2 a3 a4 => ?_) ?_
      · refine (mxz_ge _ 0).2 _ (List.mem_map.mpr ⟨t - (j + 1), List.mem_filter.mpr ⟨List.mem_range.mpr (by omega), ?_⟩, by rw [show j + 1 + (t - (j + 1)) = t by omega]⟩)
        rw [show j + 1 + (t - (j + 1)) = t by omega, a3, decide_eq_true a4]
        rfl
      · rcases mxz_mem ((((List.range (vs.length - (j + 1))).filter fun k => Ib vs (j + 1 + k) && decide (Xb vs j < Xb vs (j + 1 + k))).map fun k => BL.getD (j + 1 + k) 0)) 0 with h | h
        · exact .inl h
        · obtain ⟨k, hk1, hk2⟩ := List.mem_map.mp h
          obtain ⟨hk3, hk4⟩ := List.mem_filter.mp hk1
          have hk3 := List.mem_range.mp hk3
          rw [Bool.and_eq_true, decide_eq_true_eq] at hk4
          exact .inr ⟨j + 1 + k, by omega, by omega, hk4.1, hk4.2, hk2⟩
    · rw [List.getD_eq_getElem?_getD, List.getElem?_set_ne (by omega), ← List.getD_eq_getElem?_getD]
      exact hk j (by omega) h2
theorem set_getD {BL : List Nat} {i j x : Nat} (h : j ≠ i) : (BL.set i x).getD j 0 = BL.getD j 0 := by
  rw [List.getD_eq_getElem?_getD, List.getElem?_set_ne (by omega), ← List.getD_eq_getElem?_getD]
theorem take_turn {N : Ms} {i l k : Nat} {F BL : List Nat} {x3 x6 x7 : Option D} (g : Good vs) (hv : seqAt N M.length = some vs) (hb : seqAt N (M.length + 2) = some (nts BL)) (hi : i < vs.length) (hB : BL.length = vs.length) (hF : M24.Rs vs.length (Ib vs) (Xb vs) F) (hFl : F.length ≤ 100) (hk : k = BL.getD i 0) (hk2 : M24.BOk vs.length (Ib vs) (Xb vs) i k) :
    L2_rising [some (tab vs), some (.str [113]), some (.loc M.length), x3, some (.loc (M.length + 2)), some (.int (i : Nat)), x6, x7, some (.loc N.length), some (.int (l : Nat))] (N ++ [.lst (nts F)]) =
      if k = l ∧ 0 < l ∧ ∀ f ∈ F, Xb vs f < Xb vs i then some (.nx, [some (tab vs), some (.str [113]), some (.loc M.length), x3, some (.loc (M.length + 2)), some (.int (i : Nat)), x6, x7, some (.loc N.length), some (.int ((l - 1 : Nat) : Int))], N ++ [.lst (nts (F ++ [i]))])
      else some (.nx, [some (tab vs), some (.str [113]), some (.loc M.length), x3, some (.loc (M.length + 2)), some (.int (i : Nat)), x6, x7, some (.loc N.length), some (.int (l : Nat))], N ++ [.lst (nts F)]) := by
  have hv1 : seqAt (N ++ [.lst (nts F)]) M.length = some vs := sq_app hv
  have hb1 : seqAt (N ++ [.lst (nts F)]) (M.length + 2) = some (nts BL) := sq_app hb
  have t1 : (tV (eOp dEq (eOp dIx (eVar 4) (eVar 5)) (eVar 9))) [some (tab vs), some (.str [113]), some (.loc M.length), x3, some (.loc (M.length + 2)), some (.int (i : Nat)), x6, x7, some (.loc N.length), some (.int (l : Nat))] (N ++ [.lst (nts F)]) = some (.ok (decide (k = l)), N ++ [.lst (nts F)]) := tv_ok (op2 (op2 (var_e rfl) (var_e rfl) (C.ix_loc hb1 (by rw [G.atI_get (nts_at (by omega)), ← hk]))) (var_e rfl) (by rw [eq_ii, (decide_eq_decide.mpr (by omega) : decide ((k : Int) = (l : Nat)) = decide (k = l))]))
  have t2 : (tV (eOp dGt (eVar 9) (eC (.int 0)))) [some (tab vs), some (.str [113]), some (.loc M.length), x3, some (.loc (M.length + 2)), some (.int (i : Nat)), x6, x7, some (.loc N.length), some (.int (l : Nat))] (N ++ [.lst (nts F)]) = some (.ok (decide (0 < l)), N ++ [.lst (nts F)]) := tv_ok (op2 (var_e rfl) rfl (by rw [gt_ii, (decide_eq_decide.mpr (by omega) : decide ((0 : Int) < (l : Nat)) = decide (0 < l))]))
  have hlen : fLen [.loc N.length] (N ++ [.lst (nts F)]) = some (.ok (.int (F.length : Nat)), N ++ [.lst (nts F)]) := by rw [len_loc seq_last, List.length_map]
  unfold L2_rising
  by_cases h1 : k = l
  · rw [decide_eq_true h1] at t1
    by_cases h2 : 0 < l
    · rw [decide_eq_true h2] at t2
      have hI : Ib vs i = true := by
        cases h : Ib vs i with
        | true => rfl
        | false => have := hk2.1 h; omega
      have t3 : (tO (tV (eOp dEq (eB fLen (aCons (eVar 8) aNil)) (eC (.int 0)))) (tV (eCall f_is_more (aCons (eOp dIx (eVar 2) (eVar 5)) (aCons (eOp dIx (eVar 2) (eOp dIx (eVar 8) (eU dNeg (eC (.int 1))))) aNil))))) [some (tab vs), some (.str [113]), some (.loc M.length), x3, some (.loc (M.length + 2)), some (.int (i : Nat)), x6, x7, some (.loc N.length), some (.int (l : Nat))] (N ++ [.lst (nts F)]) = some (.ok (decide (∀ f ∈ F, Xb vs f < Xb vs i)), N ++ [.lst (nts F)]) := by
        rcases List.eq_nil_or_concat F with hF0 | ⟨F', x, hF0⟩
        · subst hF0
          rw [decide_eq_true (fun f hf => by cases hf)]
          exact o_t (tv_ok (op2 (bcall1 (var_e rfl) hlen) rfl rfl))
        · rw [List.concat_eq_append] at hF0
          subst hF0
          have hx := hF.1 x (by simp)
          have a1 : (tV (eOp dEq (eB fLen (aCons (eVar 8) aNil)) (eC (.int 0)))) [some (tab vs), some (.str [113]), some (.loc M.length), x3, some (.loc (M.length + 2)), some (.int (i : Nat)), x6, x7, some (.loc N.length), some (.int (l : Nat))] (N ++ [.lst (nts (F' ++ [x]))]) = some (.ok false, N ++ [.lst (nts (F' ++ [x]))]) := tv_ok (op2 (bcall1 (var_e rfl) hlen) rfl (by rw [eq_ii, decide_eq_false (by simp; omega)]))
          have q0 : dIx (.loc N.length) (.int (-1)) (N ++ [.lst (nts (F' ++ [x]))]) = some (.ok (.int (x : Nat)), N ++ [.lst (nts (F' ++ [x]))]) := C.ix_loc seq_last (by unfold nts; rw [List.map_append]; exact at_last)
          have a2 : (tV (eCall f_is_more (aCons (eOp dIx (eVar 2) (eVar 5)) (aCons (eOp dIx (eVar 2) (eOp dIx (eVar 8) (eU dNeg (eC (.int 1))))) aNil)))) [some (tab vs), some (.str [113]), some (.loc M.length), x3, some (.loc (M.length + 2)), some (.int (i : Nat)), x6, x7, some (.loc N.length), some (.int (l : Nat))] (N ++ [.lst (nts (F' ++ [x]))]) = some (.ok (Ib vs i && decide (Xb vs x < Xb vs i)), N ++ [.lst (nts (F' ++ [x]))]) :=
            tv_ok (call2 (op2 (var_e rfl) (var_e rfl) (ix_vs hv1 hi)) (op2 (var_e rfl) (op2 (var_e rfl) rfl q0) (ix_vs hv1 hx.1)) (by rw [val_int hx.2]; exact more_ok (g.val i)))
          rw [hI, Bool.true_and] at a2
          have e : decide (Xb vs x < Xb vs i) = decide (∀ f ∈ F' ++ [x], Xb vs f < Xb vs i) := by
            refine decide_eq_decide.mpr ⟨fun h f hf => ?_, fun h => h x (by simp)⟩
            rcases List.mem_append.mp hf with hf | hf
            · have := (List.pairwise_append.mp hF.2).2.2 f hf x (by simp)
              omega
            · rw [List.mem_singleton] at hf
              rw [hf]
              exact h
          rw [← e]
          exact o_f a1 a2
      by_cases h3 : ∀ f ∈ F, Xb vs f < Xb vs i
      · rw [decide_eq_true h3] at t3
        rw [if_t (an_t t1 (an_t t2 t3)), if_pos ⟨h1, h2, h3⟩]
        have ap := append_last (M := N) (l := nts F) (d := .int (i : Nat)) (size_gt (by rw [List.length_map]; omega))
        have e6 : (eM "list" fAppend (eVar 8) (aCons (eVar 5) aNil)) [some (tab vs), some (.str [113]), some (.loc M.length), x3, some (.loc (M.length + 2)), some (.int (i : Nat)), x6, x7, some (.loc N.length), some (.int (l : Nat))] (N ++ [.lst (nts F)]) = some (.ok .non, N ++ [.lst (nts (F ++ [i]))]) := by
          rw [ev_M, var_e rfl, bnd_ok, ty_last, if_pos rfl, arg1 (var_e rfl), bnd_ok, ap]
          unfold nts
          rw [List.map_append]
          rfl
        rw [seq_do e6, as_set (op2 (var_e rfl) rfl rfl), show ((l : Nat) : Int) - 1 = ((l - 1 : Nat) : Int) by omega]
        rfl
      · rw [decide_eq_false h3] at t3
        rw [if_f (an_t t1 (an_t t2 t3)), if_neg (fun z => h3 z.2.2)]
        rfl
    · rw [decide_eq_false h2] at t2
      rw [if_f (an_t t1 (an_f t2)), if_neg (fun z => h2 z.2.1)]
      rfl
  · rw [decide_eq_false h1] at t1
    rw [if_f (an_f t1), if_neg (fun z => h1 z.1)]
    rfl
end
end K24
end
section
set_option linter.all false
set_option maxHeartbeats 8000000
/-! # k24: rising, whole -/
namespace K24
open PySem PySem.Spec PyProof.Rows L2 G
section
variable {M : Ms} {vs : List D} {vl : Nat}
theorem rows_vals (vs : List D) : (rowsOf vs).map (fun r => r.getD 0 .non) = vs := by
  unfold rowsOf
  rw [List.map_map]
  have : ((fun r : List D => r.getD 0 .non) ∘ fun p : D × Nat => [p.1, D.int (p.2 : Nat)]) = fun p => p.1 := rfl
  rw [this, List.zipIdx_map_fst]
theorem column_e (g : Good vs) {x2 x4 x5 x6 x7 x8 x9 : Option D} : (eLc [3] (iLst (eOp dIx (eVar 0) (eC (.int 1)))) (.one 3) tY (eCall f_at_name (aCons (eVar 3) (aCons (eOp dIx (eVar 0) (eC (.int 0))) (aCons (eVar 1) aNil))))) [some (tab vs), some (.str [113]), x2, none, x4, x5, x6, x7, x8, x9] M = some (.ok (.loc M.length), M ++ [.lst vs]) := by
  have h := comp_map (own := [3]) (im := iLst (eOp dIx (eVar 0) (eC (.int 1)))) (tg := .one 3) (e := (eCall f_at_name (aCons (eVar 3) (aCons (eOp dIx (eVar 0) (eC (.int 0))) (aCons (eVar 1) aNil))))) (ρ := [some (tab vs), some (.str [113]), x2, none, x4, x5, x6, x7, x8, x9]) (M := M) (l := rowsOf vs) (f := D.tup) (gd := []) (v := fun r => r.getD 0 .non) (by rw [ev_iLst, op2 (var_e rfl) rfl C.ix1]; rfl) Src.ix_nil (size_ge (by rw [rows_len]; have := g.le; omega))
    fun r hr => by
      obtain ⟨i, hi, rfl⟩ := rows_mem hr
      exact ⟨_, rfl, fun k => call3 (var_e rfl) (op2 (var_e rfl) rfl C.ix0) (var_e rfl) (at_q (g.gv _ (List.getElem_mem hi)))⟩
  rw [rows_vals] at h
  exact h
theorem rising_ok (g : Good vs) : ∃ F, f_rising [tab vs, .str [113]] M = some (.ok (nt F), M) ∧ M24.Best vs.length (Ib vs) (Xb vs) F := by
  have u : f_rising [tab vs, .str [113]] M = finF M (b_rising [some (tab vs), some (.str [113]), none, none, none, none, none, none, none, none] M) := callF_eq rfl
  have gle := g.le
  have s1 : (1 : Nat) ≤ sizeLine := by decide
  -- the counts, from the last row on
  obtain ⟨ρ1, M1, e1, k, BL, K, x5, x6, h1, h2, rfl, rfl, h3, h4, h5⟩ := loop_inv (src := ⟨rngC ((vs.length : Int) - 1) (-1) vs.length, []⟩) (g := gN 5) (body := L1_rising)
    (fun rest ρ M1 => ∃ (k : Nat) (BL : List Nat) (K : Ms) (x5 x6 : Option D), rest = (rngC ((vs.length : Int) - 1) (-1) vs.length).drop k ∧ k ≤ vs.length ∧ M1 = B3 M vs BL ++ K ∧ ρ = [some (tab vs), some (.str [113]), some (.loc M.length), none, some (.loc (M.length + 2)), x5, x6, none, none, none] ∧ BL.length = vs.length ∧
      (∀ j, vs.length - k ≤ j → j < vs.length → M24.BOk vs.length (Ib vs) (Xb vs) j (BL.getD j 0)) ∧ ∀ j, j < vs.length - k → BL.getD j 0 = 0)
    (fun z rest ρ M1 hI => by
      obtain ⟨k, BL, K, x5, x6, h1, h2, rfl, rfl, h3, h4, h5⟩ := hI
      have hlt : k < vs.length := by
        apply Nat.lt_of_not_le
        intro z
        rw [rngC_nil' z] at h1
        cases h1
      rw [rngC_drop' hlt] at h1
      cases h1
      have ez : (vs.length : Int) - 1 + (k : Nat) * (-1) = ((vs.length - 1 - k : Nat) : Int) := by omega
      have hi : vs.length - 1 - k < vs.length := by omega
      obtain ⟨x6', K', e⟩ := rise_turn (M := M) (K := K) (x3 := none) (x6 := x6) (x7 := none) (x8 := none) (x9 := none) g hi h3
      have hb := rise_bok hi h3 (fun j a b => h4 j (by omega) b) (h5 _ (by omega))
      refine ⟨rfl, _, _, _, _, (by rw [ez]; rfl), e, k + 1, _, K', _, _, rfl, by omega, rfl, rfl, ?_, fun j a b => hb j (by omega) b, fun j a => ?_⟩
      · split
        · rw [List.length_set]; exact h3
        · exact h3
      · split
        · rw [set_getD (by omega)]; exact h5 j (by omega)
        · exact h5 j (by omega))
    (fun ρ M1 hI => rfl) (items := rngC ((vs.length : Int) - 1) (-1) vs.length) (ρ := [some (tab vs), some (.str [113]), some (.loc M.length), none, some (.loc (M.length + 2)), none, none, none, none, none]) (M := B3 M vs (List.replicate vs.length 0)) ⟨0, List.replicate vs.length 0, [], none, none, rfl, Nat.zero_le _, by simp, rfl, by simp, fun j a b => by omega, fun j a => by
      rw [List.getD_eq_getElem?_getD]
      simp only [List.getElem?_replicate]
      split <;> rfl⟩
  have hk : k = vs.length := by
    rcases Nat.lt_or_ge k vs.length with z | z
    · rw [rngC_drop' z] at h1; cases h1
    · omega
  subst hk
  have hbok : ∀ j, j < vs.length → M24.BOk vs.length (Ib vs) (Xb vs) j (BL.getD j 0) := fun j hj => h4 j (by omega) hj
  have hK1 : ∀ j, j < vs.length → BL.getD j 0 ≤ mxz BL := fun j hj => (mxz_ge BL 0).2 _ (by
    rw [List.getD_eq_getElem?_getD, List.getElem?_eq_getElem (by omega)]
    exact List.getElem_mem (by omega))
  have hK2 : mxz BL = 0 ∨ ∃ i, i < vs.length ∧ BL.getD i 0 = mxz BL := by
    rcases mxz_mem BL 0 with h | h
    · exact .inl h
    · obtain ⟨i, hi, e⟩ := List.getElem_of_mem h
      refine .inr ⟨i, by omega, ?_⟩
      rw [List.getD_eq_getElem?_getD, List.getElem?_eq_getElem hi]
      exact e
  have top := M24.top_of (I := Ib vs) (X := Xb vs) hbok hK1
  have st0 := M24.Gr.start (I := Ib vs) (X := Xb vs) hbok hK2
  -- the choice
  have hvN : seqAt (B3 M vs BL ++ K) M.length = some vs := b3_vs
  have hbN : seqAt (B3 M vs BL ++ K) (M.length + 2) = some (nts BL) := seqAt_lst b3_at
  have e5 := max_e (ρ := [some (tab vs), some (.str [113]), some (.loc M.length), none, some (.loc (M.length + 2)), x5, x6, none, some (.loc (B3 M vs BL ++ K).length), none]) (N := B3 M vs BL ++ K ++ [.lst []]) (i := 4) (n := M.length + 2) (ns := BL) rfl (by rw [List.append_assoc]; exact b3_at) (by omega)
  have hlN : fLen [.loc M.length] (B3 M vs BL ++ K ++ [.lst []]) = some (.ok (.int (vs.length : Nat)), B3 M vs BL ++ K ++ [.lst []]) := len_loc (sq_app hvN)
  have hlN1 : fLen [.loc M.length] (B3 M vs (List.replicate vs.length 0)) = some (.ok (.int (vs.length : Nat)), B3 M vs (List.replicate vs.length 0)) := len_loc (by have := b3_vs (M := M) (vs := vs) (BL := List.replicate vs.length 0) (K := []); rwa [List.append_nil] at this)
  have hBN : B3 M vs BL ++ K = M ++ ([MO.lst vs, .lst [.int 0], .lst (nts BL)] ++ K) := List.append_assoc _ _ _
  generalize hN : B3 M vs BL ++ K = N at *
  obtain ⟨ρ2, M2, e2, i, l, F, x5b, a1, a2, rfl, rfl, a3⟩ := loop_inv (src := ⟨rngD 0 vs.length, []⟩) (g := gN 5) (body := L2_rising)
    (fun rest ρ M1 => ∃ (i l : Nat) (F : List Nat) (x5 : Option D), rest = (rngD 0 vs.length).drop i ∧ i ≤ vs.length ∧ M1 = N ++ [.lst (nts F)] ∧ ρ = [some (tab vs), some (.str [113]), some (.loc M.length), none, some (.loc (M.length + 2)), x5, x6, none, some (.loc N.length), some (.int (l : Nat))] ∧ M24.Gr vs.length (Ib vs) (Xb vs) (mxz BL) i l F)
    (fun z rest ρ M1 hI => by
      obtain ⟨i, l, F, x5, a1, a2, rfl, rfl, a3⟩ := hI
      have hlt : i < vs.length := by
        apply Nat.lt_of_not_le
        intro z
        rw [rngD_nil' z] at a1
        cases a1
      rw [rngD_drop' hlt] at a1
      cases a1
      have ez : (0 : Int) + (i : Nat) = ((i : Nat) : Int) := by omega
      have hFl : F.length ≤ 100 := by
        have := chA_short (rs_mem a3.rs)
        omega
      have e := take_turn (N := N) (i := i) (l := l) (k := BL.getD i 0) (F := F) (BL := BL) (x3 := none) (x6 := x6) (x7 := none) g hvN hbN hlt h3 a3.rs hFl rfl (hbok i hlt)
      refine ⟨rfl, [some (tab vs), some (.str [113]), some (.loc M.length), none, some (.loc (M.length + 2)), some (.int (i : Nat)), x6, none, some (.loc N.length), some (.int (l : Nat))], N ++ [.lst (nts F)], ?_⟩
      by_cases hc : BL.getD i 0 = l ∧ 0 < l ∧ ∀ f ∈ F, Xb vs f < Xb vs i
      · rw [if_pos hc] at e
        exact ⟨_, _, (by rw [ez]; rfl), e, i + 1, l - 1, F ++ [i], _, rfl, by omega, rfl, rfl, a3.take hlt (hbok i hlt) hc.1 hc.2.1 hc.2.2⟩
      · rw [if_neg hc] at e
        exact ⟨_, _, (by rw [ez]; rfl), e, i + 1, l, F, _, rfl, by omega, rfl, rfl, a3.skip hlt (hbok i hlt) top hc⟩)
    (fun ρ M1 hI => rfl) (items := rngD 0 vs.length) (ρ := [some (tab vs), some (.str [113]), some (.loc M.length), none, some (.loc (M.length + 2)), x5, x6, none, some (.loc N.length), some (.int (mxz BL : Nat))]) (M := N ++ [.lst []]) ⟨0, mxz BL, [], x5, rfl, Nat.zero_le _, rfl, rfl, st0⟩
  have hi : i = vs.length := by
    rcases Nat.lt_or_ge i vs.length with z | z
    · rw [rngD_drop' z] at a1; cases a1
    · omega
  subst hi
  refine ⟨F, ?_, a3.fin top⟩
  have hlen0 : fLen [.loc M.length] (M ++ [.lst vs] ++ [.lst [.int 0]]) = some (.ok (.int (vs.length : Nat)), M ++ [.lst vs] ++ [.lst [.int 0]]) := len_loc (sq_app seq_last)
  have e3 : (eOp dMul (eLst (aCons (eC (.int 0)) aNil)) (eB fLen (aCons (eVar 2) aNil))) [some (tab vs), some (.str [113]), some (.loc M.length), none, none, none, none, none, none, none] (M ++ [.lst vs]) = some (.ok (.loc (M.length + 2)), B3 M vs (List.replicate vs.length 0)) := by
    have q1 : (eLst (aCons (eC (.int 0)) aNil)) [some (tab vs), some (.str [113]), some (.loc M.length), none, none, none, none, none, none, none] (M ++ [.lst vs]) = some (.ok (.loc (M.length + 1)), M ++ [.lst vs] ++ [.lst [.int 0]]) := by
      simp [s1]
    refine op2 q1 (bcall1 (var_e rfl) hlen0) ?_
    have hl : lstAt (M ++ [.lst vs] ++ [.lst [.int 0]]) (M.length + 1) = some [.int 0] := by
      have := lst_last (M := M ++ [.lst vs]) (l := [.int 0])
      rwa [show (M ++ [MO.lst vs]).length = M.length + 1 by simp] at this
    unfold dMul
    dsimp only
    rw [hl]
    dsimp only
    rw [if_pos ⟨by omega, by omega, size_ge (by simp; omega)⟩, Int.toNat_natCast]
    have hr : (List.replicate vs.length [D.int 0]).flatten = nts (List.replicate vs.length 0) := by
      unfold nts
      rw [List.map_replicate]
      generalize vs.length = n
      induction n with
      | zero => rfl
      | succ n ih =>
        rw [List.replicate_succ, List.flatten_cons, ih, List.replicate_succ]
        rfl
    rw [hr]
    simp
  have it1 : iRn3 (aCons (eOp dSub (eB fLen (aCons (eVar 2) aNil)) (eC (.int 1))) (aCons (eU dNeg (eC (.int 1))) (aCons (eU dNeg (eC (.int 1))) aNil))) [some (tab vs), some (.str [113]), some (.loc M.length), none, some (.loc (M.length + 2)), none, none, none, none, none] (B3 M vs (List.replicate vs.length 0)) = some (.ok ⟨rngC ((vs.length : Int) - 1) (-1) vs.length, []⟩, B3 M vs (List.replicate vs.length 0)) := by
    have q : (aCons (eOp dSub (eB fLen (aCons (eVar 2) aNil)) (eC (.int 1))) (aCons (eU dNeg (eC (.int 1))) (aCons (eU dNeg (eC (.int 1))) aNil))) [some (tab vs), some (.str [113]), some (.loc M.length), none, some (.loc (M.length + 2)), none, none, none, none, none] (B3 M vs (List.replicate vs.length 0)) = some (.ok [.int ((vs.length : Int) - 1), .int (-1), .int (-1)], B3 M vs (List.replicate vs.length 0)) := by
      simp only [ev_cons, ev_c, ev_op, ev_u, ev_B, ev_var, ev_nil, bnd_ok, List.getElem?_cons_succ, List.getElem?_cons_zero, hlN1, sub_ii, neg_i]
    rw [rn3_down' q (by omega) (by omega), show ((vs.length : Int) - 1 + 1).toNat = vs.length by omega]
  have it2 : iRn1 (aCons (eB fLen (aCons (eVar 2) aNil)) aNil) [some (tab vs), some (.str [113]), some (.loc M.length), none, some (.loc (M.length + 2)), x5, x6, none, some (.loc N.length), some (.int (mxz BL : Nat))] (N ++ [.lst []]) = some (.ok ⟨rngD 0 vs.length, []⟩, N ++ [.lst []]) := rn1_of (arg1 (bcall1 (var_e rfl) hlN)) rfl (by omega)
  rw [u, b_rising, seq_do (col_e g rfl rfl), seq_set (i := 2) (column_e g)]
  simp only [List.set]
  rw [seq_set (i := 4) e3]
  simp only [List.set]
  rw [seq_loop it1 e1, seq_set (i := 8) (by rfl : (eLst aNil) _ N = some (.ok (.loc N.length), N ++ [.lst []]))]
  simp only [List.set]
  rw [seq_set (i := 9) e5]
  simp only [List.set]
  rw [seq_loop it2 e2, ret_ok (bcall1 (var_e rfl) (tuple_loc seq_last)), hBN, List.append_assoc]
  exact fin_fl (by rw [flat_t, nts_ints]; exact flats_ints _)
end
end K24
end
section
set_option linter.all false
set_option maxHeartbeats 8000000
/-! # k24: a turn of the law -/
namespace K24
open PySem PySem.Spec PyProof.Rows L2 G
section
variable {M : Ms} {vs : List D} {vl : Nat}
theorem tr_set_loc {e : EM} {ρ : Ro} {i : Nat} {o o2 : MO} (h : e ρ M = some (.ok (.loc M.length), M.set i o ++ [o2])) (ho : o.cl M.length = true) (ho2 : o2.cl M.length = true) : eTr e ρ M = some (.ok (.loc M.length), M.set i o ++ [o2]) := by
  unfold eTr
  rw [h]
  dsimp only
  have hl : (M.set i o).length = M.length := List.length_set
  have : trim M (.loc M.length) (M.set i o ++ [o2]) = (.loc M.length, M.set i o ++ [o2]) := by
    unfold trim
    have hc : D.cl M.length (.loc M.length) = false := by
      show decide (M.length < M.length) = false
      rw [decide_eq_false_iff_not]
      omega
    have hk : (M.set i o ++ [o2])[M.length]? = some o2 := by
      rw [List.getElem?_append_right (by omega), hl, Nat.sub_self]
      rfl
    have ht : (M.set i o ++ [o2]).take M.length = M.set i o := by
      rw [← hl, List.take_left]
    rw [okOld_set ho, if_pos rfl, hc, if_neg Bool.false_ne_true]
    simp only [hk, ho2, if_true, ht]
  rw [this]
theorem value_ok {n k : Nat} {od : MO} {w : Int} (hm : M[n]? = some od) (ho : C.DiceO k od) (hk : k ≤ 1000) (w0 : 0 < w) (w1 : w ≤ 1000000) : ∃ v od', f__law_value [.loc n, .int w] M = some (.ok v, M.set n od') ∧ C.DiceO (k + 2) od' ∧ C.GoodV v := by
  have u : f__law_value [.loc n, .int w] M = finF M (b__law_value [some (.loc n), some (.int w), none] M) := callF_eq rfl
  have hn := (List.getElem?_eq_some_iff.mp hm).1
  have s2 : (2 : Nat) ≤ sizeLine := by decide
  obtain ⟨r, od1, a1, a2, a3, a4⟩ := roll_e (i := 0) (ρ := [some (.loc n), some (.int w), none]) (e := eC (.int 10)) (t := 10) rfl rfl hm ho (by omega) (by decide) (by decide)
  have a1' : (eCall f__law_roll (aCons (eVar 0) (aCons (eC (.int 10)) aNil))) [some (.loc n), some (.int w), none] M = some (.ok (.int r), M.set n od1) := a1
  rw [u, b__law_value, seq_set a1']
  simp only [List.set]
  have t1 : (tV (eOp dEq (eVar 2) (eC (.int 0)))) [some (.loc n), some (.int w), some (.int r)] (M.set n od1) = some (.ok (decide (r = 0)), M.set n od1) := tv_ok (op2 (var_e rfl) rfl eq_ii)
  have t2 : (tV (eOp dEq (eVar 2) (eC (.int 1)))) [some (.loc n), some (.int w), some (.int r)] (M.set n od1) = some (.ok (decide (r = 1)), M.set n od1) := tv_ok (op2 (var_e rfl) rfl eq_ii)
  by_cases h0 : r = 0
  · rw [decide_eq_true h0] at t1
    rw [seq_rt ((if_t t1).trans (ret_ok rfl))]
    exact ⟨.non, od1, fin_set0 rfl a4.cl, a4.mono (by omega), .non⟩
  · rw [decide_eq_false h0] at t1
    rw [seq_if0 t1]
    by_cases h1 : r = 1
    · rw [decide_eq_true h1] at t2
      have q : (eLst (aCons (eC (.str [97])) (aCons (eC (.str [98])) aNil))) [some (.loc n), some (.int w), some (.int r)] (M.set n od1) = some (.ok (.loc (M.set n od1).length), M.set n od1 ++ [.lst [.str [97], .str [98]]]) := by
        simp [s2]
      obtain ⟨d, od2, p1, p2, p3⟩ := pick_e (i := 0) (ρ := [some (.loc n), some (.int w), some (.int r)]) (M := M.set n od1) rfl (set_get hn) a4 (by omega) q (by simp) (by simp) (by simp)
      rw [List.set_set] at p1
      have e : (eIf (tV (eOp dEq (eVar 2) (eC (.int 1)))) (eTr (eCall f__law_pick (aCons (eVar 0) (aCons (eLst (aCons (eC (.str [97])) (aCons (eC (.str [98])) aNil))) aNil)))) (eCall f__law_roll (aCons (eVar 0) (aCons (eVar 1) aNil)))) [some (.loc n), some (.int w), some (.int r)] (M.set n od1) = some (.ok d, M.set n od2) := by
        rw [ev_if, t2, bnd_ok, if_pos rfl]
        exact p1
      have gd : C.GoodV d := by
        simp only [List.mem_cons, List.not_mem_nil, or_false] at p2
        rcases p2 with rfl | rfl
        · exact .str ⟨by decide, by decide, by decide⟩
        · exact .str ⟨by decide, by decide, by decide⟩
      rw [ret_ok e]
      exact ⟨d, od2, fin_set0 gd.flat p3.cl, p3, gd⟩
    · rw [decide_eq_false h1] at t2
      obtain ⟨r2, od2, b1, b2, b3, b4⟩ := roll_at (i := 0) (ρ := [some (.loc n), some (.int w), some (.int r)]) (e := eVar 1) (t := w) hn rfl rfl a4 (by omega) w0 (by omega)
      have e : (eIf (tV (eOp dEq (eVar 2) (eC (.int 1)))) (eTr (eCall f__law_pick (aCons (eVar 0) (aCons (eLst (aCons (eC (.str [97])) (aCons (eC (.str [98])) aNil))) aNil)))) (eCall f__law_roll (aCons (eVar 0) (aCons (eVar 1) aNil)))) [some (.loc n), some (.int w), some (.int r)] (M.set n od1) = some (.ok (.int r2), M.set n od2) := by
        rw [ev_if, t2, bnd_ok, if_neg Bool.false_ne_true]
        exact b1
      rw [ret_ok e]
      exact ⟨.int r2, od2, fin_set0 rfl b4.cl, b4, .int (by omega) (by omega)⟩
/-! ### what is no choice -/
theorem wrong_ints {cs : List Int} (g : Good vs) (hn : cs.length ≤ 100) (h : risB cs = false ∨ ∃ c ∈ cs, ¬ (0 ≤ c ∧ c ≤ (vs.length : Int) - 1)) : f_is_rising [tab vs, .str [113], .tup (cs.map D.int)] M = some (.ok (.bl false), M) := by
  by_cases ha : ∀ c ∈ cs, 0 ≤ c ∧ c ≤ (vs.length : Int) - 1
  · have hr : risB cs = false := by
      rcases h with h | ⟨c, h1, h2⟩
      · exact h
      · exact absurd (ha c h1) h2
    have e : cs = (cs.map Int.toNat).map fun n : Nat => (n : Int) := by
      rw [List.map_map]
      have : ∀ l : List Int, (∀ c ∈ l, 0 ≤ c) → l = l.map ((fun n : Nat => (n : Int)) ∘ Int.toNat) := fun l => by
        induction l with
        | nil => intro _; rfl
        | cons a l ih =>
          intro hl
          rw [List.map_cons, ← ih fun c hc => hl c (List.mem_cons_of_mem _ hc)]
          have := hl a List.mem_cons_self
          simp
          omega
      exact this cs fun c hc => (ha c hc).1
    have e2 : D.tup (cs.map D.int) = nt (cs.map Int.toNat) := by
      unfold nt
      rw [nts_ints, ← e]
    have h2 := is_rising_ok (M := M) (c := cs.map Int.toNat) g (fun i hi => by
      obtain ⟨c, hc, rfl⟩ := List.mem_map.mp hi
      have := ha c hc
      omega) (by simpa using (by omega : cs.length ≤ 1000))
    rw [e2, h2, ← e, hr, Bool.false_and]
  · refine wrong_f (l := cs.map D.int) (gd := []) (p := fun d => match d with
      | .int i => decide (0 ≤ i ∧ i ≤ (vs.length : Int) - 1)
      | _ => false) g C.is_tup_t (by rw [ev_iLst, var_e rfl]; rfl) Src.ix_nil (by simpa using (by omega : cs.length ≤ 1000)) (fun x hx N => ?_) ?_
    · obtain ⟨c, _, rfl⟩ := List.mem_map.mp hx
      exact C.in_i
    · rw [List.all_eq_false]
      have : ∃ c ∈ cs, ¬ (0 ≤ c ∧ c ≤ (vs.length : Int) - 1) := by
        apply Classical.byContradiction
        intro z
        exact ha fun c hc => Classical.byContradiction fun q => z ⟨c, hc, q⟩
      obtain ⟨c, h1, h2⟩ := this
      exact ⟨.int c, List.mem_map_of_mem h1, by simpa using h2⟩
theorem wrong_all {j : Nat} {l : List D} (g : Good vs) (hj : M[j]? = some (.lst l)) : ∀ v ∈ [D.non, .loc j, .tup ([0, 0].map D.int), .tup ([1, 0].map D.int), .tup ([(vs.length : Int)].map D.int), .tup ([-1].map D.int), .nam [[113]], .tup [.bl true], .tup [.tup []]], f_is_rising [tab vs, .str [113], v] M = some (.ok (.bl false), M) := by
  intro v hv
  simp only [List.mem_cons, List.not_mem_nil, or_false] at hv
  rcases hv with rfl | rfl | rfl | rfl | rfl | rfl | rfl | rfl | rfl
  · exact wrong_e g C.is_tup_n
  · exact wrong_e g (C.is_tup_l hj)
  · exact wrong_ints g (by decide) (.inl rfl)
  · exact wrong_ints g (by decide) (.inl rfl)
  · exact wrong_ints g (by simp) (.inr ⟨(vs.length : Int), by simp, by omega⟩)
  · exact wrong_ints g (by simp) (.inr ⟨-1, by simp, by omega⟩)
  · exact wrong_f (l := [.str [113]]) (gd := []) (p := fun _ => false) g C.is_tup_nam (by rw [ev_iLst, var_e rfl]; rfl) Src.ix_nil (by simp) (fun x hx N => by rw [List.mem_singleton] at hx; subst hx; exact C.in_s) rfl
  · exact wrong_f (l := [.bl true]) (gd := []) (p := fun _ => false) g C.is_tup_t (by rw [ev_iLst, var_e rfl]; rfl) Src.ix_nil (by simp) (fun x hx N => by rw [List.mem_singleton] at hx; subst hx; exact C.in_b) rfl
  · exact wrong_f (l := [.tup []]) (gd := []) (p := fun _ => false) g C.is_tup_t (by rw [ev_iLst, var_e rfl]; rfl) Src.ix_nil (by simp) (fun x hx N => by rw [List.mem_singleton] at hx; subst hx; exact C.in_t) rfl
theorem wrong_loop {V : List D} {x0 x1 x2 x3 x4 x5 x7 x8 x9 x10 x11 x12 : Option D} (hV : ∀ v ∈ V, f_is_rising [tab vs, .str [113], v] M = some (.ok (.bl false), M)) :
    ∃ x11', loopF ⟨V, []⟩ (gN 11) L3_law V [x0, x1, x2, x3, x4, x5, some (tab vs), x7, x8, x9, x10, x11, x12] M = some (.nx, [x0, x1, x2, x3, x4, x5, some (tab vs), x7, x8, x9, x10, x11', x12], M) := by
  obtain ⟨ρ', M', e, rfl, x11', i1, rfl⟩ := loop_inv (src := ⟨V, []⟩) (g := gN 11) (body := L3_law)
    (fun rest ρ M1 => M1 = M ∧ ∃ (x11 : Option D), (∀ v ∈ rest, v ∈ V) ∧ ρ = [x0, x1, x2, x3, x4, x5, some (tab vs), x7, x8, x9, x10, x11, x12])
    (fun z rest ρ M1 i => by
      obtain ⟨rfl, x11, i1, rfl⟩ := i
      refine ⟨rfl, _, _, [x0, x1, x2, x3, x4, x5, some (tab vs), x7, x8, x9, x10, some z, x12], M1, rfl, ?_, rfl, some z, fun v hv => i1 v (List.mem_cons_of_mem _ hv), rfl⟩
      have e6 := call3 (ρ := [x0, x1, x2, x3, x4, x5, some (tab vs), x7, x8, x9, x10, some z, x12]) (M := M1) (e1 := eVar 6) (e2 := eC (.str [113])) (e3 := eVar 11) (var_e rfl) rfl (var_e rfl) (hV z (i1 z List.mem_cons_self))
      have e7 := tv_ok (op2 (g := dNotB) (e2 := eC (.bl false)) e6 rfl notB_e)
      rw [decide_eq_true rfl] at e7
      exact if_f e7)
    (fun ρ M1 i => by obtain ⟨rfl, _⟩ := i; rfl) (items := V) (ρ := [x0, x1, x2, x3, x4, x5, some (tab vs), x7, x8, x9, x10, x11, x12]) (M := M) ⟨rfl, x11, fun c hc => hc, rfl⟩
  exact ⟨x11', e⟩
theorem rows_flats (g : Good vs) : D.flats ((rowsOf vs).map D.tup) = true := by
  rw [D.flats_all, List.all_eq_true]
  intro d hd
  obtain ⟨r, hr, rfl⟩ := List.mem_map.mp hd
  obtain ⟨i, hi, rfl⟩ := rows_mem hr
  rw [flat_t, flats_c, (g.gv _ (List.getElem_mem hi)).flat]
  rfl
theorem tab_cl {n : Nat} (g : Good vs) : D.cl n (tab vs) = true := by
  show (true && (D.cls n ((rowsOf vs).map D.tup) && true)) = true
  rw [D.cls_flats _ _ (rows_flats g)]
  rfl
theorem old_c {n : Nat} {x : Option D} {ρ : Ro} : ∃ y, oldR n (x :: ρ) = y :: oldR n ρ := ⟨_, rfl⟩
theorem old_k {n : Nat} {d : D} {ρ : Ro} (h : d.cl n = true) : oldR n (some d :: ρ) = some d :: oldR n ρ := by
  show (if d.cl n = true then some d else none) :: oldR n ρ = _
  rw [if_pos h]
/-- each choice is judged as the law does; what stands in the other slots may be lost -/
theorem choice_loop {cl : Nat} {F : List Nat} {x1 x2 x3 x5 x7 x8 x10 x11 x12 : Option D} (g : Good vs) (hv : seqAt M vl = some vs) (hq : seqAt M cl = some ((chA vs.length).map nt)) (h0 : 0 < M.length) (hl : vl < M.length) :
    ∃ x1' x2' x3' x5' x7' x8' x10' x11' x12', loopF ⟨(chA vs.length).map nt, [(cl, (chA vs.length).map nt)]⟩ (gN 10) L2_law ((chA vs.length).map nt) [some (.loc 0), x1, x2, x3, some (.loc vl), x5, some (tab vs), x7, x8, some (nt F), x10, x11, x12] M = some (.nx, [some (.loc 0), x1', x2', x3', some (.loc vl), x5', some (tab vs), x7', x8', some (nt F), x10', x11', x12'], M) := by
  have gle := g.le
  have cnt : ∀ c : List Nat, D.cl M.length (nt c) = true := fun c => D.cl_flat _ _ (by rw [flat_t, nts_ints]; exact flats_ints _)
  obtain ⟨ρ', M', e, rfl, B, x1', x2', x3', x5', x7', x8', x10', x11', x12', i1, i2, rfl⟩ := loop_inv (src := ⟨(chA vs.length).map nt, [(cl, (chA vs.length).map nt)]⟩) (g := gN 10) (body := L2_law)
    (fun rest ρ M1 => M1 = M ∧ ∃ (B : List (List Nat)) (x1 x2 x3 x5 x7 x8 x10 x11 x12 : Option D), rest = B.map nt ∧ (∀ c ∈ B, c ∈ chA vs.length) ∧ ρ = [some (.loc 0), x1, x2, x3, some (.loc vl), x5, some (tab vs), x7, x8, some (nt F), x10, x11, x12])
    (fun z rest ρ M1 i => by
      obtain ⟨rfl, B, x1, x2, x3, x5, x7, x8, x10, x11, x12, i1, i2, rfl⟩ := i
      cases B with
      | nil => cases i1
      | cons c B =>
        cases i1
        have hc := i2 c List.mem_cons_self
        obtain ⟨m1, m2⟩ := chA_mem.mp hc
        have hs := chA_short hc
        have e1 := is_rising_ok (M := M1) (c := c) g m2 (by omega)
        rw [ris_nat.mpr m1, Bool.true_and] at e1
        have e2 := law_rises_ok (M := M1) (c := c) g hv m2 (by omega)
        have e3 := tv_ok (op2 (g := dNe) (ρ := [some (.loc 0), x1, x2, x3, some (.loc vl), x5, some (tab vs), x7, x8, some (nt F), some (nt c), x11, x12]) (kcall3 (g := gP 0 3 [2, 1, 0]) (e1 := eVar 10) (e2 := eC (.str [113])) (e3 := eVar 6) (var_e rfl) rfl (var_e rfl) gp_321 e1) (call2 (e1 := eVar 4) (e2 := eVar 10) (var_e rfl) (var_e rfl) e2) ne_bb)
        rw [decide_eq_true rfl] at e3
        have e4 : L1_law [some (.loc 0), x1, x2, x3, some (.loc vl), x5, some (tab vs), x7, x8, some (nt F), some (nt c), x11, x12] M1 = some (.nx, [some (.loc 0), x1, x2, x3, some (.loc vl), x5, some (tab vs), x7, x8, some (nt F), some (nt c), x11, x12], M1 ++ []) := by
          rw [List.append_nil]
          exact if_f e3
        have e5 : L2_law [some (.loc 0), x1, x2, x3, some (.loc vl), x5, some (tab vs), x7, x8, some (nt F), some (nt c), x11, x12] M1 = _ := scope_nx e4
        have k0 : D.cl M1.length (.loc 0) = true := decide_eq_true h0
        have k4 : D.cl M1.length (.loc vl) = true := decide_eq_true hl
        have k6 : D.cl M1.length (tab vs) = true := tab_cl g
        obtain ⟨y1, f1⟩ := old_c (n := M1.length) (x := x1) (ρ := [x2, x3, some (.loc vl), x5, some (tab vs), x7, x8, some (nt F), some (nt c), x11, x12])
        obtain ⟨y2, f2⟩ := old_c (n := M1.length) (x := x2) (ρ := [x3, some (.loc vl), x5, some (tab vs), x7, x8, some (nt F), some (nt c), x11, x12])
        obtain ⟨y3, f3⟩ := old_c (n := M1.length) (x := x3) (ρ := [some (.loc vl), x5, some (tab vs), x7, x8, some (nt F), some (nt c), x11, x12])
        obtain ⟨y5, f5⟩ := old_c (n := M1.length) (x := x5) (ρ := [some (tab vs), x7, x8, some (nt F), some (nt c), x11, x12])
        obtain ⟨y7, f7⟩ := old_c (n := M1.length) (x := x7) (ρ := [x8, some (nt F), some (nt c), x11, x12])
        obtain ⟨y8, f8⟩ := old_c (n := M1.length) (x := x8) (ρ := [some (nt F), some (nt c), x11, x12])
        obtain ⟨ya, fa⟩ := old_c (n := M1.length) (x := some (nt c)) (ρ := [x11, x12])
        obtain ⟨yb, fb⟩ := old_c (n := M1.length) (x := x11) (ρ := [x12])
        obtain ⟨yc, fc⟩ := old_c (n := M1.length) (x := x12) (ρ := [])
        rw [old_k k0, f1, f2, f3, old_k k4, f5, old_k k6, f7, f8, old_k (cnt F), fa, fb, fc] at e5
        exact ⟨Src.ok_of (ix_one hq), _, _, _, _, rfl, e5, rfl, B, y1, y2, y3, y5, y7, y8, ya, yb, yc, rfl, fun d hd => i2 d (List.mem_cons_of_mem _ hd), rfl⟩)
    (fun ρ M1 i => by obtain ⟨rfl, _⟩ := i; exact Src.ok_of (ix_one hq)) (items := (chA vs.length).map nt) (ρ := [some (.loc 0), x1, x2, x3, some (.loc vl), x5, some (tab vs), x7, x8, some (nt F), x10, x11, x12]) (M := M) ⟨rfl, chA vs.length, x1, x2, x3, x5, x7, x8, x10, x11, x12, rfl, fun c hc => hc, rfl⟩
  exact ⟨x1', x2', x3', x5', x7', x8', x10', x11', x12', e⟩
theorem good_dp {v : D} (h : C.GoodV v) : v.dp ≤ 1 := by
  cases h with
  | non => exact dp_non
  | int => exact dp_int
  | str => exact dp_str
theorem st_cmp {F : List (D × Nat × Nat)} (h : ∀ t ∈ F, C.GoodV t.1) : Cmp (.tup (F.map stD)) := by
  have key : ∀ d ∈ F.map stD, d.nb = true ∧ d.dp ≤ 2 + 1 := fun d hd => by
    obtain ⟨t, ht, rfl⟩ := List.mem_map.mp hd
    have gt := (h t ht)
    refine ⟨nb_tup fun x hx => ?_, dp_tup fun x hx => ?_⟩
    · simp only [List.mem_cons, List.not_mem_nil, or_false] at hx
      rcases hx with rfl | rfl | rfl
      · exact gt.cmp.nb
      · rfl
      · rfl
    · simp only [List.mem_cons, List.not_mem_nil, or_false] at hx
      rcases hx with rfl | rfl | rfl
      · exact Nat.le_trans (good_dp gt) (by decide)
      · exact Nat.le_trans dp_int (by decide)
      · exact Nat.le_trans dp_int (by decide)
  exact ⟨nb_tup fun d hd => (key d hd).1, Nat.le_trans (dp_tup fun d hd => (key d hd).2) (by decide)⟩
end
end K24
end
section
set_option Elab.async false
set_option linter.all false
set_option maxRecDepth 100000
set_option maxHeartbeats 4000000
/-! # the end: what the top has written, the law's promise at the script -/
namespace G
open PySem PySem.Spec PyProof.Rows L2
/-- an own error of the class at C is what «except» at C names -/
theorem exm_own {K : PySem.W.Frag} {C : Addr} (b : PySem.W.subIn K (.ref C) (.type "BaseException") = some true) (i : PySem.W.isClsIn K C = true) (t : PySem.W.typeIn K (.ref C) = some (.type "type")) (s : PySem.W.subIn K (.ref C) (.ref C) = some true) : PySem.W.exmOne K (.ref C) (.ref C) = some true := by
  unfold PySem.W.isClsIn at i
  unfold PySem.W.exmOne PySem.W.kitCls
  rw [b]
  simp [i, t, s]
theorem sup_mk {prog : Program} {K : PySem.W.Frag} {h : Heap} {mg : Str → Option Value} (KX : K.In h) (Gn : h.Ns mainGlobals mg) {C fI : Addr} {f a : Str}
    {nm q : Str} {N : Addr} {bs bm : List Value} {sn : List Str} {sub : List Value} {ab : Bool} {col : Option Bool} {dd : Option Addr} {m0 m1 m2 m3 m5 : Option Value}
    (xL : K.lookup C = some (excClassObj nm q C N bs bm true sn sub ab col dd m0 m1 m2 m3 m5 "ValueError.__new__")) (hbm : PySem.HandSPX.refsVE bm = true)
    (sa : PySem.W.findIn K (.ref C) "__setattr__" = some (some (.builtin "object.__setattr__"))) (exC : PySem.W.subIn K (.ref C) (.type "BaseException") = some true) (tyC : PySem.W.typeIn K (.ref C) = some (.type "type")) (kC : PySem.W.keepIn K (.ref C) = true)
    (noF : PySem.W.findIn K (.ref C) f = some none) (ini : PySem.W.findIn K (.ref C) "__init__" = some (some (.ref fI))) (fty : PySem.W.typeIn K (.ref fI) = some (.type "function")) (along : PySem.W.ks_superIn K C C "__init__" = some (some (.builtin "ValueError.__init__")))
    (zs : PySem.W.nsIn K mainGlobals "super" = some none) (opq : PySem.W.nsIn K cStatics "thirdparty.any" = some none) (isB : PySem.W.subIn K (.ref C) (.type "ValueError") = some true) (mroC : PySem.W.mroIn K C (.ref C) = some true)
    {qual : Str} {params : Arguments} {scope : Scope} {dV kV doc pm ct oc ccl cl : Value} {an od cdd cld : Option Addr} {osl ccs csl : Array (Option Value)} {cc cda : Addr} {vs : Array Value} {file : Str} {tf : Tok} {p0 p1 p2 p3 p4 p5 p6 p7 p8 p9 : Pos} {ar : Arg}
    (lk : K.lookup fI = some ⟨oc, od, .func (PySem.W.ksFn "__init__" qual params (supBody "self" a f p0 p1 p2 p3 p4 p5 p6 p7 p8 p9) scope dV kV doc pm an (.ref cda) ct cc), osl⟩) (hcd : PySem.W.codeIn K (.ref cda) qual = true)
    (lkc : K.lookup cda = some ⟨ccl, cdd, .fields vs, ccs⟩) (hvs : vs[2]? = some (.str file tf)) (hfile : ((prog.main.file : Str) == file) = true) (lcc : K.lookup cc = some ⟨cl, cld, .cell (some (.ref C)), csl⟩)
    (htop : (prog.main.scope.names.lookup ("super" : Str)).isSome = false) (hhd : (params.posonlyargs ++ params.args).head? = some ar) (har : ar.arg = "self")
    (hbind : ∀ us : List Value, us.length = 2 → bindArgs (PySem.W.ksFn "__init__" qual params (supBody "self" a f p0 p1 p2 p3 p4 p5 p6 p7 p8 p9) scope dV kV doc pm an (.ref cda) ct cc) ⟨us, []⟩ = pure ((["self", a] : List Str).zip us))
    (hk : scope.kind = .function) (hco : scope.isCoroutine = false) (hgen : scope.isGenerator = false) (hns : scope.names = ([("self", .local), (a, .local), ("__class__", .free), ("super", .globalImplicit)] : List (Str × NameKind)))
    (ha : (("self" : Str) ≠ a ∧ (a == ("__debug__" : Str)) = false ∧ a ≠ "__class__" ∧ a ≠ "super")) (mf : MethF a p0 p1 p2 p3 p4) : SupC prog K mg C fI f a :=
  ⟨⟨⟨nm, q, N, bs, bm, sn, sub, ab, col, dd, m0, m1, m2, m3, m5, xL, hbm⟩, sa, exC, tyC, kC⟩, noF, ini, fty, along, PySem.W.mg_none_of KX Gn zs, opq, isB, mroC,
    "self", qual, params, scope, dV, kV, doc, pm, ct, oc, ccl, cl, an, od, cdd, cld, osl, ccs, csl, cc, cda, vs, file, tf, p0, p1, p2, p3, p4, p5, p6, p7, p8, p9, ar, lk, hcd, lkc, hvs, hfile, lcc, htop, hhd, har, hbind, hk, hco, hgen, hns, ha.1, by decide, ha.2.1, by decide, ha.2.2.1, by decide, ha.2.2.2, mf⟩
/-- the law's promise, asked of its plain reading -/
theorem spec_go {W : Wd} {f : Fn} {H : Hp} {a : Addr} {ns : List Int} (ht : LamX.Tabs W.T H) (hs : SqL W.K H a (ns.map V.int)) (hf : ∀ o : MO, (o = .lst (ns.map D.int) ∨ o = .frz (ns.map D.int)) → ∃ M', f [.loc 0] [o] = some (.ok (.bl true), M')) :
    spF W 1 f [.ref a] H (fun v _ => v = .bl true) fun _ _ _ => False := by
  have key : ∀ o : MO, (o = .lst (ns.map D.int) ∨ o = .frz (ns.map D.int)) → RepA W [a] H a o → spF W 1 f [.ref a] H (fun v _ => v = .bl true) fun _ _ _ => False := fun o ho ra => by
    obtain ⟨M', e⟩ := hf o ho
    have hh : HS W [a] [o] H := ⟨rfl, fun n u hu => by
        cases n with
        | zero => cases hu; exact ⟨a, rfl, ra⟩
        | succ n => simp at hu, fun n m b u v e1 e2 e3 e4 _ _ => by
        cases n <;> cases m <;> simp at e1 e2 ⊢, ht⟩
    exact ⟨[a], [o], [.loc 0], hh, ⟨_, _, rfl, ⟨a, rfl, rfl⟩, rfl⟩, rfl, .ok (.bl true), M', e, fun φ' H' _ _ v rv => rv⟩
  rcases hs with (hs | ⟨o, hs⟩) | hs
  · exact key (.lst (ns.map D.int)) (.inl rfl) ⟨_, hs, ints_reps ns⟩
  · exact key (.frz (ns.map D.int)) (.inr rfl) ⟨_, .inl ⟨o, hs⟩, ints_reps ns⟩
  · exact key (.frz (ns.map D.int)) (.inr rfl) ⟨_, .inr (.inr hs), ints_reps ns⟩
/-- the end, with all tables of code that the head tells -/
theorem walk_all {l : PySem.W.OpenLaw} {n k : Nat} {q : Program} {loose : List Str} {XP : (Str → Option Value) → Heap → Prop} {YP : World → Heap → Prop} {d : DefRec} {K : Params → PySem.W.Frag} {x : Str}
    (hn : l.most = some n) (hn2 : n ≤ sizeLine) (hdf : d.params.defaults = []) (hr : Room k callerA) (hY : ∀ (w : World) (h : Heap), YP w h → (K w.params).In h)
    (F : ∀ (w : World) (mg : Str → Option Value) (fa : Addr) (h : Heap), (K w.params).In h → h.Ns mainGlobals mg → mg d.name = some (.ref fa) →
      (∀ (y : Str) (c P : Addr) (e : DefRec), (recsOf q).find? (fun e => e.name == y) = some e → PySem.W.tabIn (K w.params) y = some (c, P) → PySem.W.CodeHd h c P ∧ h.get? P = some { cls := .none, data := .fields #[] }) → LamX.LawAtS l w (K w.params) (L2.CX l.prog w) k n x mg fa h) :
    PySem.W.WalkO q loose XP YP l.row.toRowW d [] (fun f vs => PySem.call f vs) := by
  refine Att.attach_callB hn hdf fun w s₀ s₁ mg mb fa o pm cd doc a vs ns G Y ho hd hcd hmg hobj hints hlen hbits hg => ?_
  have KX := hY w _ Y
  obtain ⟨fd, cs, sp, hT, nT, C, hb, hsp, hF⟩ := F w mg fa _ KX G.T.g hmg fun y c P e h1 h2 => PySem.W.tab_of G.T KX h1 h2
  refine LamX.law_callTs KX G.T.g G.T.b G.T.builtins G.T.nolimit hg hT nT C G.T.bmain hobj hints (Nat.le_trans hlen hn2) hr hF hb (fun H hH hS => hsp H a ns hlen hbits hH hS) fun H e s' z => ?_
  obtain ⟨_, _, _, _, _, _, _, _, _, _, _, _, z⟩ := z
  exact z
end G
namespace G
open PySem PySem.Spec PyProof.Rows L2
theorem tab_mk {K : PySem.W.Frag} {x : Str} {f c P : Addr} {oc ec : Value} {od dd : Option Addr} {osl sl : Array (Option Value)} {fd : FuncData} {vs : Array Value} (a : PySem.W.nsIn K mainGlobals x = some (some (.ref f))) (l : K.lookup f = some ⟨oc, od, .func fd, osl⟩) (hc : fd.code = .ref c)
    (lc : K.lookup c = some ⟨ec, dd, .fields vs, sl⟩) (hv : (vs[11]? : Option Value) = some (.ref P)) : PySem.W.tabIn K x = some (c, P) := by
  unfold PySem.W.tabIn
  rw [a]
  simp only [l, hc, lc, hv]
end G
end
section
set_option linter.all false
set_option maxHeartbeats 8000000
/-! # k24: the law holds -/
namespace K24
open PySem PySem.Spec PyProof.Rows L2 G
theorem turn_ok : Turn 13 6 L5_law := by
  refine turn_scope fun o ns spot ρ ho hl h0 h1 hlen ht0 ht1 => ?_
  match ρ, hlen with
  | [x0, x1, x2, x3, x4, x5, x6, x7, x8, x9, x10, x11, x12], _ =>
  cases ht0
  cases ht1
  have s2 : (2 : Nat) ≤ sizeLine := by decide
  have s1 : (1 : Nat) ≤ sizeLine := by decide
  have s0 : (0 : Nat) ≤ sizeLine := by decide
  have s9 : (9 : Nat) ≤ sizeLine := by decide
  have s10 : (10 : Nat) ≤ sizeLine := by decide
  obtain ⟨od, d1, d2⟩ := C.dice_ok (M := [o]) (s := 0) (ns := ns) (spot := spot) (by simp) ho (by omega) h0 (by omega)
  have st1 : (eCall f__law_dice (aCons (eVar 0) (aCons (eVar 1) aNil))) [some (.loc 0), some (.int spot), x2, x3, x4, x5, x6, x7, x8, x9, x10, x11, x12] [o] = some (.ok (.loc 1), [o, od]) := call2 (var_e rfl) (var_e rfl) d1
  obtain ⟨r3, od3, a1, a2, a3, a4⟩ := roll_e (i := 2) (M := [o, od]) (n := 1) (ρ := [some (.loc 0), some (.int spot), some (.loc 1), x3, x4, x5, x6, x7, x8, x9, x10, x11, x12]) (e := eC (.int 9)) (t := 9) rfl rfl rfl d2 (by decide) (by decide) (by decide)
  have st2 : (eOp dAdd (eC (.int 1)) (eCall f__law_roll (aCons (eVar 2) (aCons (eC (.int 9)) aNil)))) [some (.loc 0), some (.int spot), some (.loc 1), x3, x4, x5, x6, x7, x8, x9, x10, x11, x12] [o, od] = some (.ok (.int (1 + r3)), [o, od3]) := op2 rfl a1 rfl
  have w0 : 0 < 1 + r3 := by omega
  have w1 : 1 + r3 ≤ 10 := by omega
  generalize 1 + r3 = w at *
  -- the values
  obtain ⟨r4, od4, b1, b2, b3, b4⟩ := roll_e (i := 2) (M := [o, od3]) (n := 1) (ρ := [some (.loc 0), some (.int spot), some (.loc 1), some (.int w), x4, x5, x6, x7, x8, x9, x10, x11, x12]) (e := eC (.int 10)) (t := 10) rfl rfl rfl a4 (by decide) (by decide) (by decide)
  have i4 : iRn1 (aCons (eCall f__law_roll (aCons (eVar 2) (aCons (eC (.int 10)) aNil))) aNil) [some (.loc 0), some (.int spot), some (.loc 1), some (.int w), x4, x5, x6, x7, x8, x9, x10, x11, x12] [o, od3] = some (.ok ⟨rngD 0 r4.toNat, []⟩, [o, od3].set 1 od4) := rn1_of (c := r4.toNat) (j := r4) (arg1 b1) (by omega) (by omega)
  obtain ⟨vs, od5, c1, c2, c3, c4⟩ := lc_draws (M := [o, od3]) (n := 1) (i := 5) (j := 2) (ρ := [some (.loc 0), some (.int spot), some (.loc 1), some (.int w), x4, x5, x6, x7, x8, x9, x10, x11, x12]) (e := (eCall f__law_value (aCons (eVar 2) (aCons (eVar 3) aNil)))) C.GoodV i4 (by simp) b4 (by omega)
    (fun z k' od' acc q1 q2 => by
      obtain ⟨v, od2, e1, e2, e3⟩ := value_ok (M := [o, od'] ++ [.lst acc]) (n := 1) (w := w) rfl q1 (by omega) w0 (by omega)
      exact ⟨v, od2, call2 (var_e rfl) (var_e rfl) e1, e2, e3⟩)
  have g : Good vs := ⟨by omega, c4⟩
  have gle := g.le
  have st4 : (eTr (eLc [5] (iRn1 (aCons (eCall f__law_roll (aCons (eVar 2) (aCons (eC (.int 10)) aNil))) aNil)) (.one 5) tY (eCall f__law_value (aCons (eVar 2) (aCons (eVar 3) aNil))))) [some (.loc 0), some (.int spot), some (.loc 1), some (.int w), x4, x5, x6, x7, x8, x9, x10, x11, x12] [o, od3] = some (.ok (.loc 2), [o, od5, .lst vs]) := tr_set_loc (M := [o, od3]) (i := 1) (o := od5) (o2 := .lst vs) c1 c2.cl (D.cls_flats _ _ (flats_good c4))
  generalize hM : [o, od5, MO.lst vs] = M at *
  have hv : seqAt M 2 = some vs := by rw [← hM]; rfl
  -- the table
  have hnum : iEn (aCons (eVar 4) aNil) [some (.loc 0), some (.int spot), some (.loc 1), some (.int w), some (.loc 2), x5, x6, x7, x8, x9, x10, x11, x12] M = some (.ok ⟨vs.zipIdx.map fun p => D.tup [.int (p.2 : Nat), p.1], [(2, vs)]⟩, M) := by
    rw [ev_iEn, arg1 (var_e rfl)]
    simp only [bnd_ok, hv]
    rfl
  have hrows := comp_map (own := [7, 8]) (tg := .many [7, 8]) (e := (eTup (aCons (eVar 8) (aCons (eVar 7) aNil)))) (v := fun p : D × Nat => D.tup [p.1, .int (p.2 : Nat)]) hnum (fun p hp => ix_one hv p hp) (size_ge (by simp; omega)) (fun p hp => ⟨[some (.loc 0), some (.int spot), some (.loc 1), some (.int w), some (.loc 2), x5, x6, some (.int (p.2 : Nat)), some p.1, x9, x10, x11, x12], by simp, fun k => by simp [s2]⟩)
  have erows : (vs.zipIdx.map fun p : D × Nat => D.tup [p.1, .int (p.2 : Nat)]) = (rowsOf vs).map D.tup := by
    unfold rowsOf
    rw [List.map_map]
    rfl
  rw [erows] at hrows
  have hflat := rows_flats g
  have htup : (eTr (eB fTuple (aCons (eLc [7, 8] (iEn (aCons (eVar 4) aNil)) (.many [7, 8]) tY (eTup (aCons (eVar 8) (aCons (eVar 7) aNil)))) aNil))) [some (.loc 0), some (.int spot), some (.loc 1), some (.int w), some (.loc 2), x5, x6, x7, x8, x9, x10, x11, x12] M = some (.ok (.tup ((rowsOf vs).map D.tup)), M) := tr_fl (K := [.lst ((rowsOf vs).map D.tup)]) (bcall1 hrows (tuple_loc seq_last)) hflat
  have st6 : (eTup (aCons (eNam (aCons (eC (.str [113])) (aCons (eC (.str [122])) aNil))) (aCons (eTr (eB fTuple (aCons (eLc [7, 8] (iEn (aCons (eVar 4) aNil)) (.many [7, 8]) tY (eTup (aCons (eVar 8) (aCons (eVar 7) aNil)))) aNil))) aNil))) [some (.loc 0), some (.int spot), some (.loc 1), some (.int w), some (.loc 2), x5, x6, x7, x8, x9, x10, x11, x12] M = some (.ok (tab vs), M) := by
    have e1 : (eNam (aCons (eC (.str [113])) (aCons (eC (.str [122])) aNil))) [some (.loc 0), some (.int spot), some (.loc 1), some (.int w), some (.loc 2), x5, x6, x7, x8, x9, x10, x11, x12] M = some (.ok (.nam qz), M) := by
      unfold eNam
      simp only [ev_cons, ev_nil, ev_c, bnd_ok, asStrs, Option.map_some]
      exact if_pos s2
    simp only [ev_tup, ev_cons, ev_nil, e1, htup, bnd_ok, List.length_cons, List.length_nil]
    rw [if_pos s2]
  -- streaks
  have hlen : fLen [.loc 2] M = some (.ok (.int (vs.length : Nat)), M) := len_loc hv
  have es : (eIf (tV (eOp dGt (eB fLen (aCons (eVar 4) aNil)) (eC (.int 0)))) (eCall f__law_streaks (aCons (eVar 4) aNil)) (eTup aNil)) [some (.loc 0), some (.int spot), some (.loc 1), some (.int w), some (.loc 2), x5, some (tab vs), x7, x8, x9, x10, x11, x12] M = some (.ok (.tup ((streaks vs).map stD)), M) := by
    have t : (tV (eOp dGt (eB fLen (aCons (eVar 4) aNil)) (eC (.int 0)))) [some (.loc 0), some (.int spot), some (.loc 1), some (.int w), some (.loc 2), x5, some (tab vs), x7, x8, x9, x10, x11, x12] M = some (.ok (decide ((0 : Int) < (vs.length : Nat))), M) := tv_ok (op2 (bcall1 (var_e rfl) hlen) rfl gt_ii)
    rw [ev_if, t, bnd_ok]
    by_cases hp : 0 < vs.length
    · rw [decide_eq_true (by omega), if_pos rfl]
      exact call1 (var_e rfl) (law_streaks_ok g hv hp)
    · have e0 : vs = [] := List.length_eq_zero_iff.mp (by omega)
      rw [decide_eq_false (by omega), if_neg Bool.false_ne_true, e0]
      simp [streaks]
  have st7 : (tV (eOp dNe (kCall f_streaks (gP 0 2 [1, 0]) aNil (aCons (eC (.str [113])) (aCons (eVar 6) aNil))) (eIf (tV (eOp dGt (eB fLen (aCons (eVar 4) aNil)) (eC (.int 0)))) (eCall f__law_streaks (aCons (eVar 4) aNil)) (eTup aNil)))) [some (.loc 0), some (.int spot), some (.loc 1), some (.int w), some (.loc 2), x5, some (tab vs), x7, x8, x9, x10, x11, x12] M = some (.ok false, M) := tv_ok (op2 (kcall2 rfl (var_e rfl) gp_21 (streaks_ok g)) es (ne_same (st_cmp (streaks_good g))))
  -- what rises
  obtain ⟨F, hF, hB⟩ := rising_ok (M := M) g
  have hFl := chA_short (rs_mem hB.rs)
  have st9 : (kCall f_rising (gP 0 2 [1, 0]) aNil (aCons (eC (.str [113])) (aCons (eVar 6) aNil))) [some (.loc 0), some (.int spot), some (.loc 1), some (.int w), some (.loc 2), x5, some (tab vs), x7, x8, x9, x10, x11, x12] M = some (.ok (nt F), M) := kcall2 rfl (var_e rfl) gp_21 hF
  have eR := is_rising_ok (M := M) (c := F) g (rs_lt hB.rs) (by omega)
  rw [ris_nat.mpr (rs_asc hB.rs), (rs_iff (rs_asc hB.rs) (rs_lt hB.rs)).mpr hB.rs] at eR
  have cF : Cmp (nt F) := by
    have := Cmp.ints (ns := F.map fun n : Nat => (n : Int))
    rw [← nts_ints] at this
    exact this
  have st10 : (tO (tV (eOp dNe (eVar 9) (eCall f__law_best (aCons (eVar 4) aNil)))) (tN (tV (eCall f_is_rising (aCons (eVar 6) (aCons (eC (.str [113])) (aCons (eVar 9) aNil))))))) [some (.loc 0), some (.int spot), some (.loc 1), some (.int w), some (.loc 2), x5, some (tab vs), x7, x8, some (nt F), x10, x11, x12] M = some (.ok false, M) := o_f (tv_ok (op2 (var_e rfl) (call1 (var_e rfl) (law_best_ok g hv hB)) (ne_same cF))) (n_ok (tv_ok (call3 (var_e rfl) rfl (var_e rfl) eR)))
  -- all choices
  have hML : M.length = 3 := by rw [← hM]; rfl
  have hch := choices_ok (M := M) (n := vs.length) (by omega)
  have it11 : iLst (eCall f__law_choices (aCons (eB fLen (aCons (eVar 4) aNil)) aNil)) [some (.loc 0), some (.int spot), some (.loc 1), some (.int w), some (.loc 2), x5, some (tab vs), x7, x8, some (nt F), x10, x11, x12] M = some (.ok ⟨(chA vs.length).map nt, [(M.length, (chA vs.length).map nt)]⟩, M ++ [.lst ((chA vs.length).map nt)]) := by
    rw [ev_iLst, call1 (bcall1 (var_e rfl) hlen) hch]
    simp only [bnd_ok, seq_last]
  generalize hM4 : M ++ [MO.lst ((chA vs.length).map nt)] = M4 at *
  have hL4 : M4.length = 4 := by rw [← hM4]; simp [hML]
  have hv4 : seqAt M4 2 = some vs := by rw [← hM4, ← hM]; rfl
  have hq4 : seqAt M4 M.length = some ((chA vs.length).map nt) := by rw [← hM4]; exact seq_last
  obtain ⟨y1, y2, y3, y5, y7, y8, y10, y11, y12, e11⟩ := choice_loop (M := M4) (vl := 2) (cl := M.length) (F := F) (x1 := some (.int spot)) (x2 := some (.loc 1)) (x3 := some (.int w)) (x5 := x5) (x7 := x7) (x8 := x8) (x10 := x10) (x11 := x11) (x12 := x12) g hv4 hq4 (by omega) (by omega)
  -- what is no choice
  have hlen4 : fLen [.loc 2] M4 = some (.ok (.int (vs.length : Nat)), M4) := len_loc hv4
  have hadd : dAdd (.loc M4.length) (.loc (M4 ++ [MO.lst (nts F)]).length) (M4 ++ [MO.lst (nts F)] ++ [MO.lst [.int 0]]) = some (.ok (.loc (M4 ++ [MO.lst (nts F)] ++ [MO.lst [.int 0]]).length), M4 ++ [MO.lst (nts F)] ++ [MO.lst [.int 0]] ++ [MO.lst (nts F ++ [.int 0])]) := add_ll (by rw [lstAt_app (by simp)]; exact lst_last) lst_last (by rw [nts_ints]; simp; omega)
  generalize hM7 : M4 ++ [MO.lst (nts F)] ++ [MO.lst [.int 0]] ++ [MO.lst (nts F ++ [.int 0])] = M7 at *
  have it12 : (iLst (eTup (aCons (eC .non) (aCons (eOp dAdd (eB fList (aCons (eVar 9) aNil)) (eLst (aCons (eC (.int 0)) aNil))) (aCons (eTup (aCons (eC (.int 0)) (aCons (eC (.int 0)) aNil))) (aCons (eTup (aCons (eC (.int 1)) (aCons (eC (.int 0)) aNil))) (aCons (eTup (aCons (eB fLen (aCons (eVar 4) aNil)) aNil)) (aCons (eTup (aCons (eU dNeg (eC (.int 1))) aNil)) (aCons (eNam (aCons (eC (.str [113])) aNil)) (aCons (eTup (aCons (eC (.bl true)) aNil)) (aCons (eTup (aCons (eTup aNil) aNil)) aNil))))))))))) [some (.loc 0), y1, y2, y3, some (.loc 2), y5, some (tab vs), y7, y8, some (nt F), y10, y11, y12] M4 = some (.ok ⟨[D.non, .loc 6, .tup ([0, 0].map D.int), .tup ([1, 0].map D.int), .tup ([(vs.length : Int)].map D.int), .tup ([-1].map D.int), .nam [[113]], .tup [.bl true], .tup [.tup []]], []⟩, M7) := by
    have eN : (eNam (aCons (eC (.str [113])) aNil)) [some (.loc 0), y1, y2, y3, some (.loc 2), y5, some (tab vs), y7, y8, some (nt F), y10, y11, y12] M7 = some (.ok (.nam [[113]]), M7) := by
      unfold eNam
      simp only [ev_cons, ev_nil, ev_c, bnd_ok, asStrs, Option.map_some]
      exact if_pos s1
    have eA : (eOp dAdd (eB fList (aCons (eVar 9) aNil)) (eLst (aCons (eC (.int 0)) aNil))) [some (.loc 0), y1, y2, y3, some (.loc 2), y5, some (tab vs), y7, y8, some (nt F), y10, y11, y12] M4 = some (.ok (.loc 6), M7) := by
      have q1 : (eB fList (aCons (eVar 9) aNil)) [some (.loc 0), y1, y2, y3, some (.loc 2), y5, some (tab vs), y7, y8, some (nt F), y10, y11, y12] M4 = some (.ok (.loc M4.length), M4 ++ [MO.lst (nts F)]) := bcall1 (var_e rfl) list_tup
      have q2 : (eLst (aCons (eC (.int 0)) aNil)) [some (.loc 0), y1, y2, y3, some (.loc 2), y5, some (tab vs), y7, y8, some (nt F), y10, y11, y12] (M4 ++ [MO.lst (nts F)]) = some (.ok (.loc (M4 ++ [MO.lst (nts F)]).length), M4 ++ [MO.lst (nts F)] ++ [MO.lst [.int 0]]) := by
        simp only [ev_lst, ev_cons, ev_nil, ev_c, bnd_ok, List.length_cons, List.length_nil]
        exact if_pos s1
      have q3 := op2 q1 q2 hadd
      rw [q3]
      have : (M4 ++ [MO.lst (nts F)] ++ [MO.lst [.int 0]]).length = 6 := by simp [hL4]
      rw [this]
    have hlen7 : fLen [.loc 2] M7 = some (.ok (.int (vs.length : Nat)), M7) := len_loc (by rw [← hM7, ← hM4, ← hM]; rfl)
    have eL : (eB fLen (aCons (eVar 4) aNil)) [some (.loc 0), y1, y2, y3, some (.loc 2), y5, some (tab vs), y7, y8, some (nt F), y10, y11, y12] M7 = some (.ok (.int (vs.length : Nat)), M7) := bcall1 (var_e rfl) hlen7
    have eG : (eU dNeg (eC (.int 1))) [some (.loc 0), y1, y2, y3, some (.loc 2), y5, some (tab vs), y7, y8, some (nt F), y10, y11, y12] M7 = some (.ok (.int (-1)), M7) := rfl
    simp only [ev_iLst, ev_tup, ev_cons, ev_nil, ev_c, eA, eN, eL, eG, bnd_ok, List.length_cons, List.length_nil, s0, s1, s2, s9, if_true, Nat.zero_add]
    rfl
  have h7 : M7[6]? = some (.lst (nts F ++ [.int 0])) := by
    rw [← hM7, List.getElem?_append_right (by simp [hL4])]
    simp [hL4]
  obtain ⟨z11, e12⟩ := wrong_loop (x0 := some (.loc 0)) (x1 := y1) (x2 := y2) (x3 := y3) (x4 := some (.loc 2)) (x5 := y5) (x7 := y7) (x8 := y8) (x9 := some (nt F)) (x10 := y10) (x11 := y11) (x12 := y12) (wrong_all g h7)
  have main : L4_law [some (.loc 0), some (.int spot), x2, x3, x4, x5, x6, x7, x8, x9, x10, x11, x12] [o] = some (.nx, [some (.loc 0), y1, y2, y3, some (.loc 2), y5, some (tab vs), y7, y8, some (nt F), y10, z11, y12], M7) := by
    rw [L4_law, seq_set st1]
    simp only [List.set]
    rw [seq_set st2]
    simp only [List.set]
    rw [seq_set st4]
    simp only [List.set]
    rw [seq_set st6]
    simp only [List.set]
    rw [seq_if0 st7, seq_set st9]
    simp only [List.set]
    rw [seq_if0 st10, seq_loop it11 e11, for_loop it12]
    exact e12
  have hd : [o] ++ M7.drop 1 = M7 := by rw [← hM7, ← hM4, ← hM]; rfl
  exact ⟨_, M7.drop 1, by rw [hd]; exact main, rfl, rfl⟩
theorem tail_true : G.isT (L6_law (List.replicate 13 none) [.opq]) = true := by decide +kernel
theorem law_holds {ns : List Int} (hl : ns.length ≤ 63) (hb : ∀ z ∈ ns, Builtin.Int.intBits z ≤ 1048576) : ∀ o : MO, (o = .lst (ns.map D.int) ∨ o = .frz (ns.map D.int)) → ∃ M', f_law [.loc 0] [o] = some (.ok (.bl true), M') := fun o h =>
  G.law_go (N := 13) (c := 6) turn_ok (by decide) (by decide) (by decide) tail_true hl (by rcases h with rfl | rfl <;> rfl) (f := f_law) (n := 12) rfl rfl
end K24
end
section
set_option Elab.async false
set_option linter.all false
set_option maxRecDepth 100000
set_option maxHeartbeats 8000000
namespace K24
open PySem PySem.Spec PyProof.Rows L2 G
/-- what the head has written, put together -/
theorem all_mk {w : World} {q : Program} {K : PySem.W.Frag} {h : Heap} {mg : Str → Option Value} {fa : Addr} (KX : K.In h) (Gn : h.Ns mainGlobals mg) (hfa : mg "law" = some (.ref fa))
    (tab : ∀ (y : Str) (c P : Addr) (e : DefRec), (recsOf q).find? (fun e => e.name == y) = some e → PySem.W.tabIn K y = some (c, P) → PySem.W.CodeHd h c P ∧ h.get? P = some { cls := .none, data := .fields #[] })
    {r_law : DefRec} (v_law : (recsOf q).find? (fun e => e.name == ("law" : Str)) = some r_law)
    {f_demand : Addr} {oc_demand kV_demand dc_demand pm_demand cd_demand ct_demand : Value} {od_demand an_demand : Option Addr} {sl_demand : Array (Option Value)}
    {f_is_in : Addr} {oc_is_in kV_is_in dc_is_in pm_is_in cd_is_in ct_is_in : Value} {od_is_in an_is_in : Option Addr} {sl_is_in : Array (Option Value)}
    {f_is_tuple : Addr} {oc_is_tuple kV_is_tuple dc_is_tuple pm_is_tuple cd_is_tuple ct_is_tuple : Value} {od_is_tuple an_is_tuple : Option Addr} {sl_is_tuple : Array (Option Value)}
    {f_is_signs : Addr} {oc_is_signs kV_is_signs dc_is_signs pm_is_signs cd_is_signs ct_is_signs : Value} {od_is_signs an_is_signs : Option Addr} {sl_is_signs : Array (Option Value)}
    {f_is_value : Addr} {oc_is_value kV_is_value dc_is_value pm_is_value cd_is_value ct_is_value : Value} {od_is_value an_is_value : Option Addr} {sl_is_value : Array (Option Value)}
    {f_is_name : Addr} {oc_is_name kV_is_name dc_is_name pm_is_name cd_is_name ct_is_name : Value} {od_is_name an_is_name : Option Addr} {sl_is_name : Array (Option Value)}
    {f_are_names : Addr} {oc_are_names kV_are_names dc_are_names pm_are_names cd_are_names ct_are_names : Value} {od_are_names an_are_names : Option Addr} {sl_are_names : Array (Option Value)}
    {f_is_row : Addr} {oc_is_row kV_is_row dc_is_row pm_is_row cd_is_row ct_is_row : Value} {od_is_row an_is_row : Option Addr} {sl_is_row : Array (Option Value)}
    {f_is_table : Addr} {oc_is_table kV_is_table dc_is_table pm_is_table cd_is_table ct_is_table : Value} {od_is_table an_is_table : Option Addr} {sl_is_table : Array (Option Value)}
    {f_demand_table : Addr} {oc_demand_table kV_demand_table dc_demand_table pm_demand_table cd_demand_table ct_demand_table : Value} {od_demand_table an_demand_table : Option Addr} {sl_demand_table : Array (Option Value)}
    {f_at_name : Addr} {oc_at_name kV_at_name dc_at_name pm_at_name cd_at_name ct_at_name : Value} {od_at_name an_at_name : Option Addr} {sl_at_name : Array (Option Value)}
    {f_demand_column : Addr} {oc_demand_column kV_demand_column dc_demand_column pm_demand_column cd_demand_column ct_demand_column : Value} {od_demand_column an_demand_column : Option Addr} {sl_demand_column : Array (Option Value)}
    {f_streaks : Addr} {oc_streaks kV_streaks dc_streaks pm_streaks cd_streaks ct_streaks : Value} {od_streaks an_streaks : Option Addr} {sl_streaks : Array (Option Value)}
    {f_is_more : Addr} {oc_is_more kV_is_more dc_is_more pm_is_more cd_is_more ct_is_more : Value} {od_is_more an_is_more : Option Addr} {sl_is_more : Array (Option Value)}
    {f_rising : Addr} {oc_rising kV_rising dc_rising pm_rising cd_rising ct_rising : Value} {od_rising an_rising : Option Addr} {sl_rising : Array (Option Value)}
    {f_is_rising : Addr} {oc_is_rising kV_is_rising dc_is_rising pm_is_rising cd_is_rising ct_is_rising : Value} {od_is_rising an_is_rising : Option Addr} {sl_is_rising : Array (Option Value)}
    {f__law_dice : Addr} {oc__law_dice kV__law_dice dc__law_dice pm__law_dice cd__law_dice ct__law_dice : Value} {od__law_dice an__law_dice : Option Addr} {sl__law_dice : Array (Option Value)}
    {f__law_roll : Addr} {oc__law_roll kV__law_roll dc__law_roll pm__law_roll cd__law_roll ct__law_roll : Value} {od__law_roll an__law_roll : Option Addr} {sl__law_roll : Array (Option Value)}
    {f__law_pick : Addr} {oc__law_pick kV__law_pick dc__law_pick pm__law_pick cd__law_pick ct__law_pick : Value} {od__law_pick an__law_pick : Option Addr} {sl__law_pick : Array (Option Value)}
    {f__law_refused : Addr} {oc__law_refused kV__law_refused dc__law_refused pm__law_refused cd__law_refused ct__law_refused : Value} {od__law_refused an__law_refused : Option Addr} {sl__law_refused : Array (Option Value)}
    {f__law_value : Addr} {oc__law_value kV__law_value dc__law_value pm__law_value cd__law_value ct__law_value : Value} {od__law_value an__law_value : Option Addr} {sl__law_value : Array (Option Value)}
    {f__law_choices : Addr} {oc__law_choices kV__law_choices dc__law_choices pm__law_choices cd__law_choices ct__law_choices : Value} {od__law_choices an__law_choices : Option Addr} {sl__law_choices : Array (Option Value)}
    {f__law_rises : Addr} {oc__law_rises kV__law_rises dc__law_rises pm__law_rises cd__law_rises ct__law_rises : Value} {od__law_rises an__law_rises : Option Addr} {sl__law_rises : Array (Option Value)}
    {f__law_streaks : Addr} {oc__law_streaks kV__law_streaks dc__law_streaks pm__law_streaks cd__law_streaks ct__law_streaks : Value} {od__law_streaks an__law_streaks : Option Addr} {sl__law_streaks : Array (Option Value)}
    {f__law_best : Addr} {oc__law_best kV__law_best dc__law_best pm__law_best cd__law_best ct__law_best : Value} {od__law_best an__law_best : Option Addr} {sl__law_best : Array (Option Value)}
    {f_law : Addr} {oc_law kV_law dc_law pm_law  ct_law : Value} {od_law an_law : Option Addr} {sl_law : Array (Option Value)} {cL_law P_law : Addr}
    {ec_law : Value} {ed_law : Option Addr} {ev_law : Array Value} {es_law : Array (Option Value)}
    {tk_LEAST : Tok}
    {tk_LETTERS : Tok}
    {tk_MOST : Tok}
    {tk_MOST_COLUMNS : Tok}
    {tk_MOST_NAME : Tok}
    {tk_MOST_ROWS : Tok}
    {tk_MOST_SIGNS : Tok}
    {tk_SIGNS : Tok}
    {e_BadArgument i_BadArgument : Addr} {nm_BadArgument q_BadArgument : Str} {N_BadArgument : Addr} {bs_BadArgument bm_BadArgument : List Value} {sn_BadArgument : List Str} {sub_BadArgument : List Value} {ab_BadArgument : Bool} {col_BadArgument : Option Bool} {dd_BadArgument : Option Addr} {m0_BadArgument m1_BadArgument m2_BadArgument m3_BadArgument m5_BadArgument : Option Value}
    {qual_BadArgument : Str} {params_BadArgument : Arguments} {scope_BadArgument : Scope} {dV_BadArgument kVi_BadArgument doc_BadArgument pmi_BadArgument cti_BadArgument oci_BadArgument ccl_BadArgument cl_BadArgument : Value} {ani_BadArgument odi_BadArgument cdd_BadArgument cld_BadArgument : Option Addr} {osl_BadArgument ccs_BadArgument csl_BadArgument : Array (Option Value)} {cc_BadArgument cda_BadArgument : Addr} {vs_BadArgument : Array Value} {file_BadArgument : Str} {tf_BadArgument : Tok} {p0_BadArgument p1_BadArgument p2_BadArgument p3_BadArgument p4_BadArgument p5_BadArgument p6_BadArgument p7_BadArgument p8_BadArgument p9_BadArgument : Pos} {ar_BadArgument : Arg}
    (a_demand : PySem.W.nsIn K mainGlobals "demand" = some (some (.ref f_demand))) (l_demand : K.lookup f_demand = some ⟨oc_demand, od_demand, .func (PySem.W.fnOf "demand" "demand" (defArgs s_demand) (defBody s_demand) (defScope s_demand) .none kV_demand dc_demand pm_demand an_demand cd_demand ct_demand), sl_demand⟩) (c_demand : PySem.W.codeIn K cd_demand "demand" = true) (k_demand : PySem.W.keepIn K (.ref f_demand) = true)
    (a_is_in : PySem.W.nsIn K mainGlobals "is_in" = some (some (.ref f_is_in))) (l_is_in : K.lookup f_is_in = some ⟨oc_is_in, od_is_in, .func (PySem.W.fnOf "is_in" "is_in" (defArgs s_is_in) (defBody s_is_in) (defScope s_is_in) .none kV_is_in dc_is_in pm_is_in an_is_in cd_is_in ct_is_in), sl_is_in⟩) (c_is_in : PySem.W.codeIn K cd_is_in "is_in" = true) (k_is_in : PySem.W.keepIn K (.ref f_is_in) = true)
    (a_is_tuple : PySem.W.nsIn K mainGlobals "is_tuple" = some (some (.ref f_is_tuple))) (l_is_tuple : K.lookup f_is_tuple = some ⟨oc_is_tuple, od_is_tuple, .func (PySem.W.fnOf "is_tuple" "is_tuple" (defArgs s_is_tuple) (defBody s_is_tuple) (defScope s_is_tuple) .none kV_is_tuple dc_is_tuple pm_is_tuple an_is_tuple cd_is_tuple ct_is_tuple), sl_is_tuple⟩) (c_is_tuple : PySem.W.codeIn K cd_is_tuple "is_tuple" = true) (k_is_tuple : PySem.W.keepIn K (.ref f_is_tuple) = true)
    (a_is_signs : PySem.W.nsIn K mainGlobals "is_signs" = some (some (.ref f_is_signs))) (l_is_signs : K.lookup f_is_signs = some ⟨oc_is_signs, od_is_signs, .func (PySem.W.fnOf "is_signs" "is_signs" (defArgs s_is_signs) (defBody s_is_signs) (defScope s_is_signs) .none kV_is_signs dc_is_signs pm_is_signs an_is_signs cd_is_signs ct_is_signs), sl_is_signs⟩) (c_is_signs : PySem.W.codeIn K cd_is_signs "is_signs" = true) (k_is_signs : PySem.W.keepIn K (.ref f_is_signs) = true)
    (a_is_value : PySem.W.nsIn K mainGlobals "is_value" = some (some (.ref f_is_value))) (l_is_value : K.lookup f_is_value = some ⟨oc_is_value, od_is_value, .func (PySem.W.fnOf "is_value" "is_value" (defArgs s_is_value) (defBody s_is_value) (defScope s_is_value) .none kV_is_value dc_is_value pm_is_value an_is_value cd_is_value ct_is_value), sl_is_value⟩) (c_is_value : PySem.W.codeIn K cd_is_value "is_value" = true) (k_is_value : PySem.W.keepIn K (.ref f_is_value) = true)
    (a_is_name : PySem.W.nsIn K mainGlobals "is_name" = some (some (.ref f_is_name))) (l_is_name : K.lookup f_is_name = some ⟨oc_is_name, od_is_name, .func (PySem.W.fnOf "is_name" "is_name" (defArgs s_is_name) (defBody s_is_name) (defScope s_is_name) .none kV_is_name dc_is_name pm_is_name an_is_name cd_is_name ct_is_name), sl_is_name⟩) (c_is_name : PySem.W.codeIn K cd_is_name "is_name" = true) (k_is_name : PySem.W.keepIn K (.ref f_is_name) = true)
    (a_are_names : PySem.W.nsIn K mainGlobals "are_names" = some (some (.ref f_are_names))) (l_are_names : K.lookup f_are_names = some ⟨oc_are_names, od_are_names, .func (PySem.W.fnOf "are_names" "are_names" (defArgs s_are_names) (defBody s_are_names) (defScope s_are_names) .none kV_are_names dc_are_names pm_are_names an_are_names cd_are_names ct_are_names), sl_are_names⟩) (c_are_names : PySem.W.codeIn K cd_are_names "are_names" = true) (k_are_names : PySem.W.keepIn K (.ref f_are_names) = true)
    (a_is_row : PySem.W.nsIn K mainGlobals "is_row" = some (some (.ref f_is_row))) (l_is_row : K.lookup f_is_row = some ⟨oc_is_row, od_is_row, .func (PySem.W.fnOf "is_row" "is_row" (defArgs s_is_row) (defBody s_is_row) (defScope s_is_row) .none kV_is_row dc_is_row pm_is_row an_is_row cd_is_row ct_is_row), sl_is_row⟩) (c_is_row : PySem.W.codeIn K cd_is_row "is_row" = true) (k_is_row : PySem.W.keepIn K (.ref f_is_row) = true)
    (a_is_table : PySem.W.nsIn K mainGlobals "is_table" = some (some (.ref f_is_table))) (l_is_table : K.lookup f_is_table = some ⟨oc_is_table, od_is_table, .func (PySem.W.fnOf "is_table" "is_table" (defArgs s_is_table) (defBody s_is_table) (defScope s_is_table) .none kV_is_table dc_is_table pm_is_table an_is_table cd_is_table ct_is_table), sl_is_table⟩) (c_is_table : PySem.W.codeIn K cd_is_table "is_table" = true) (k_is_table : PySem.W.keepIn K (.ref f_is_table) = true)
    (a_demand_table : PySem.W.nsIn K mainGlobals "demand_table" = some (some (.ref f_demand_table))) (l_demand_table : K.lookup f_demand_table = some ⟨oc_demand_table, od_demand_table, .func (PySem.W.fnOf "demand_table" "demand_table" (defArgs s_demand_table) (defBody s_demand_table) (defScope s_demand_table) .none kV_demand_table dc_demand_table pm_demand_table an_demand_table cd_demand_table ct_demand_table), sl_demand_table⟩) (c_demand_table : PySem.W.codeIn K cd_demand_table "demand_table" = true) (k_demand_table : PySem.W.keepIn K (.ref f_demand_table) = true)
    (a_at_name : PySem.W.nsIn K mainGlobals "at_name" = some (some (.ref f_at_name))) (l_at_name : K.lookup f_at_name = some ⟨oc_at_name, od_at_name, .func (PySem.W.fnOf "at_name" "at_name" (defArgs s_at_name) (defBody s_at_name) (defScope s_at_name) .none kV_at_name dc_at_name pm_at_name an_at_name cd_at_name ct_at_name), sl_at_name⟩) (c_at_name : PySem.W.codeIn K cd_at_name "at_name" = true) (k_at_name : PySem.W.keepIn K (.ref f_at_name) = true)
    (a_demand_column : PySem.W.nsIn K mainGlobals "demand_column" = some (some (.ref f_demand_column))) (l_demand_column : K.lookup f_demand_column = some ⟨oc_demand_column, od_demand_column, .func (PySem.W.fnOf "demand_column" "demand_column" (defArgs s_demand_column) (defBody s_demand_column) (defScope s_demand_column) .none kV_demand_column dc_demand_column pm_demand_column an_demand_column cd_demand_column ct_demand_column), sl_demand_column⟩) (c_demand_column : PySem.W.codeIn K cd_demand_column "demand_column" = true) (k_demand_column : PySem.W.keepIn K (.ref f_demand_column) = true)
    (a_streaks : PySem.W.nsIn K mainGlobals "streaks" = some (some (.ref f_streaks))) (l_streaks : K.lookup f_streaks = some ⟨oc_streaks, od_streaks, .func (PySem.W.fnOf "streaks" "streaks" (defArgs s_streaks) (defBody s_streaks) (defScope s_streaks) .none kV_streaks dc_streaks pm_streaks an_streaks cd_streaks ct_streaks), sl_streaks⟩) (c_streaks : PySem.W.codeIn K cd_streaks "streaks" = true) (k_streaks : PySem.W.keepIn K (.ref f_streaks) = true)
    (a_is_more : PySem.W.nsIn K mainGlobals "is_more" = some (some (.ref f_is_more))) (l_is_more : K.lookup f_is_more = some ⟨oc_is_more, od_is_more, .func (PySem.W.fnOf "is_more" "is_more" (defArgs s_is_more) (defBody s_is_more) (defScope s_is_more) .none kV_is_more dc_is_more pm_is_more an_is_more cd_is_more ct_is_more), sl_is_more⟩) (c_is_more : PySem.W.codeIn K cd_is_more "is_more" = true) (k_is_more : PySem.W.keepIn K (.ref f_is_more) = true)
    (a_rising : PySem.W.nsIn K mainGlobals "rising" = some (some (.ref f_rising))) (l_rising : K.lookup f_rising = some ⟨oc_rising, od_rising, .func (PySem.W.fnOf "rising" "rising" (defArgs s_rising) (defBody s_rising) (defScope s_rising) .none kV_rising dc_rising pm_rising an_rising cd_rising ct_rising), sl_rising⟩) (c_rising : PySem.W.codeIn K cd_rising "rising" = true) (k_rising : PySem.W.keepIn K (.ref f_rising) = true)
    (a_is_rising : PySem.W.nsIn K mainGlobals "is_rising" = some (some (.ref f_is_rising))) (l_is_rising : K.lookup f_is_rising = some ⟨oc_is_rising, od_is_rising, .func (PySem.W.fnOf "is_rising" "is_rising" (defArgs s_is_rising) (defBody s_is_rising) (defScope s_is_rising) .none kV_is_rising dc_is_rising pm_is_rising an_is_rising cd_is_rising ct_is_rising), sl_is_rising⟩) (c_is_rising : PySem.W.codeIn K cd_is_rising "is_rising" = true) (k_is_rising : PySem.W.keepIn K (.ref f_is_rising) = true)
    (a__law_dice : PySem.W.nsIn K mainGlobals "_law_dice" = some (some (.ref f__law_dice))) (l__law_dice : K.lookup f__law_dice = some ⟨oc__law_dice, od__law_dice, .func (PySem.W.fnOf "_law_dice" "_law_dice" (defArgs s__law_dice) (defBody s__law_dice) (defScope s__law_dice) .none kV__law_dice dc__law_dice pm__law_dice an__law_dice cd__law_dice ct__law_dice), sl__law_dice⟩) (c__law_dice : PySem.W.codeIn K cd__law_dice "_law_dice" = true) (k__law_dice : PySem.W.keepIn K (.ref f__law_dice) = true)
    (a__law_roll : PySem.W.nsIn K mainGlobals "_law_roll" = some (some (.ref f__law_roll))) (l__law_roll : K.lookup f__law_roll = some ⟨oc__law_roll, od__law_roll, .func (PySem.W.fnOf "_law_roll" "_law_roll" (defArgs s__law_roll) (defBody s__law_roll) (defScope s__law_roll) .none kV__law_roll dc__law_roll pm__law_roll an__law_roll cd__law_roll ct__law_roll), sl__law_roll⟩) (c__law_roll : PySem.W.codeIn K cd__law_roll "_law_roll" = true) (k__law_roll : PySem.W.keepIn K (.ref f__law_roll) = true)
    (a__law_pick : PySem.W.nsIn K mainGlobals "_law_pick" = some (some (.ref f__law_pick))) (l__law_pick : K.lookup f__law_pick = some ⟨oc__law_pick, od__law_pick, .func (PySem.W.fnOf "_law_pick" "_law_pick" (defArgs s__law_pick) (defBody s__law_pick) (defScope s__law_pick) .none kV__law_pick dc__law_pick pm__law_pick an__law_pick cd__law_pick ct__law_pick), sl__law_pick⟩) (c__law_pick : PySem.W.codeIn K cd__law_pick "_law_pick" = true) (k__law_pick : PySem.W.keepIn K (.ref f__law_pick) = true)
    (a__law_refused : PySem.W.nsIn K mainGlobals "_law_refused" = some (some (.ref f__law_refused))) (l__law_refused : K.lookup f__law_refused = some ⟨oc__law_refused, od__law_refused, .func (PySem.W.fnOf "_law_refused" "_law_refused" (defArgs s__law_refused) (defBody s__law_refused) (defScope s__law_refused) .none kV__law_refused dc__law_refused pm__law_refused an__law_refused cd__law_refused ct__law_refused), sl__law_refused⟩) (c__law_refused : PySem.W.codeIn K cd__law_refused "_law_refused" = true) (k__law_refused : PySem.W.keepIn K (.ref f__law_refused) = true)
    (a__law_value : PySem.W.nsIn K mainGlobals "_law_value" = some (some (.ref f__law_value))) (l__law_value : K.lookup f__law_value = some ⟨oc__law_value, od__law_value, .func (PySem.W.fnOf "_law_value" "_law_value" (defArgs s__law_value) (defBody s__law_value) (defScope s__law_value) .none kV__law_value dc__law_value pm__law_value an__law_value cd__law_value ct__law_value), sl__law_value⟩) (c__law_value : PySem.W.codeIn K cd__law_value "_law_value" = true) (k__law_value : PySem.W.keepIn K (.ref f__law_value) = true)
    (a__law_choices : PySem.W.nsIn K mainGlobals "_law_choices" = some (some (.ref f__law_choices))) (l__law_choices : K.lookup f__law_choices = some ⟨oc__law_choices, od__law_choices, .func (PySem.W.fnOf "_law_choices" "_law_choices" (defArgs s__law_choices) (defBody s__law_choices) (defScope s__law_choices) .none kV__law_choices dc__law_choices pm__law_choices an__law_choices cd__law_choices ct__law_choices), sl__law_choices⟩) (c__law_choices : PySem.W.codeIn K cd__law_choices "_law_choices" = true) (k__law_choices : PySem.W.keepIn K (.ref f__law_choices) = true)
    (a__law_rises : PySem.W.nsIn K mainGlobals "_law_rises" = some (some (.ref f__law_rises))) (l__law_rises : K.lookup f__law_rises = some ⟨oc__law_rises, od__law_rises, .func (PySem.W.fnOf "_law_rises" "_law_rises" (defArgs s__law_rises) (defBody s__law_rises) (defScope s__law_rises) .none kV__law_rises dc__law_rises pm__law_rises an__law_rises cd__law_rises ct__law_rises), sl__law_rises⟩) (c__law_rises : PySem.W.codeIn K cd__law_rises "_law_rises" = true) (k__law_rises : PySem.W.keepIn K (.ref f__law_rises) = true)
    (a__law_streaks : PySem.W.nsIn K mainGlobals "_law_streaks" = some (some (.ref f__law_streaks))) (l__law_streaks : K.lookup f__law_streaks = some ⟨oc__law_streaks, od__law_streaks, .func (PySem.W.fnOf "_law_streaks" "_law_streaks" (defArgs s__law_streaks) (defBody s__law_streaks) (defScope s__law_streaks) .none kV__law_streaks dc__law_streaks pm__law_streaks an__law_streaks cd__law_streaks ct__law_streaks), sl__law_streaks⟩) (c__law_streaks : PySem.W.codeIn K cd__law_streaks "_law_streaks" = true) (k__law_streaks : PySem.W.keepIn K (.ref f__law_streaks) = true)
    (a__law_best : PySem.W.nsIn K mainGlobals "_law_best" = some (some (.ref f__law_best))) (l__law_best : K.lookup f__law_best = some ⟨oc__law_best, od__law_best, .func (PySem.W.fnOf "_law_best" "_law_best" (defArgs s__law_best) (defBody s__law_best) (defScope s__law_best) .none kV__law_best dc__law_best pm__law_best an__law_best cd__law_best ct__law_best), sl__law_best⟩) (c__law_best : PySem.W.codeIn K cd__law_best "_law_best" = true) (k__law_best : PySem.W.keepIn K (.ref f__law_best) = true)
    (a_law : PySem.W.nsIn K mainGlobals "law" = some (some (.ref f_law))) (l_law : K.lookup f_law = some ⟨oc_law, od_law, .func (PySem.W.fnOf "law" "law" (defArgs s_law) (defBody s_law) (defScope s_law) .none kV_law dc_law pm_law an_law (.ref cL_law) ct_law), sl_law⟩) (c_law : PySem.W.codeIn K (.ref cL_law) "law" = true) (k_law : PySem.W.keepIn K (.ref f_law) = true)
    (t_law : K.lookup cL_law = some ⟨ec_law, ed_law, .fields ev_law, es_law⟩) (tv_law : (ev_law[11]? : Option Value) = some (.ref P_law)) (u_law : K.lookup P_law = none)
    (z_abs : PySem.W.nsIn K mainGlobals "abs" = some none)
    (z_all : PySem.W.nsIn K mainGlobals "all" = some none)
    (z_bool : PySem.W.nsIn K mainGlobals "bool" = some none)
    (z_enumerate : PySem.W.nsIn K mainGlobals "enumerate" = some none)
    (z_int : PySem.W.nsIn K mainGlobals "int" = some none)
    (z_isinstance : PySem.W.nsIn K mainGlobals "isinstance" = some none)
    (z_len : PySem.W.nsIn K mainGlobals "len" = some none)
    (z_list : PySem.W.nsIn K mainGlobals "list" = some none)
    (z_max : PySem.W.nsIn K mainGlobals "max" = some none)
    (z_min : PySem.W.nsIn K mainGlobals "min" = some none)
    (z_range : PySem.W.nsIn K mainGlobals "range" = some none)
    (z_set : PySem.W.nsIn K mainGlobals "set" = some none)
    (z_str : PySem.W.nsIn K mainGlobals "str" = some none)
    (z_tuple : PySem.W.nsIn K mainGlobals "tuple" = some none)
    (z_zip : PySem.W.nsIn K mainGlobals "zip" = some none)
    (g_LEAST : PySem.W.nsIn K mainGlobals "LEAST" = some (some (.int (-1000000) tk_LEAST)))
    (g_LETTERS : PySem.W.nsIn K mainGlobals "LETTERS" = some (some (.str "abcdefghijklmnopqrstuvwxyz" tk_LETTERS)))
    (g_MOST : PySem.W.nsIn K mainGlobals "MOST" = some (some (.int 1000000 tk_MOST)))
    (g_MOST_COLUMNS : PySem.W.nsIn K mainGlobals "MOST_COLUMNS" = some (some (.int 8 tk_MOST_COLUMNS)))
    (g_MOST_NAME : PySem.W.nsIn K mainGlobals "MOST_NAME" = some (some (.int 10 tk_MOST_NAME)))
    (g_MOST_ROWS : PySem.W.nsIn K mainGlobals "MOST_ROWS" = some (some (.int 200 tk_MOST_ROWS)))
    (g_MOST_SIGNS : PySem.W.nsIn K mainGlobals "MOST_SIGNS" = some (some (.int 12 tk_MOST_SIGNS)))
    (g_SIGNS : PySem.W.nsIn K mainGlobals "SIGNS" = some (some (.str " !\"#$&'()*+,-./0123456789:;<=>?@ABCDEFGHIJKLMNOPQRSTUVWXYZ[\\]^_`abcdefghijklmnopqrstuvwxyz{|}~" tk_SIGNS)))
    (zs : PySem.W.nsIn K mainGlobals "super" = some none) (opq : PySem.W.nsIn K cStatics "thirdparty.any" = some none)
    (aC_BadArgument : PySem.W.nsIn K mainGlobals "BadArgument" = some (some (.ref e_BadArgument))) (xL_BadArgument : K.lookup e_BadArgument = some (excClassObj nm_BadArgument q_BadArgument e_BadArgument N_BadArgument bs_BadArgument bm_BadArgument true sn_BadArgument sub_BadArgument ab_BadArgument col_BadArgument dd_BadArgument m0_BadArgument m1_BadArgument m2_BadArgument m3_BadArgument m5_BadArgument "ValueError.__new__")) (hbm_BadArgument : PySem.HandSPX.refsVE bm_BadArgument = true)
    (sa_BadArgument : PySem.W.findIn K (.ref e_BadArgument) "__setattr__" = some (some (.builtin "object.__setattr__"))) (ga_BadArgument : PySem.W.findIn K (.ref e_BadArgument) "__getattribute__" = some (some (.builtin "BaseException.__getattribute__"))) (gg_BadArgument : PySem.W.findIn K (.ref e_BadArgument) "__getattr__" = some none) (hd_BadArgument : PySem.W.hasDictIn K e_BadArgument = true) (ic_BadArgument : PySem.W.isClsIn K e_BadArgument = true) (ss_BadArgument : PySem.W.subIn K (.ref e_BadArgument) (.ref e_BadArgument) = some true)
    (exC_BadArgument : PySem.W.subIn K (.ref e_BadArgument) (.type "BaseException") = some true) (tyC_BadArgument : PySem.W.typeIn K (.ref e_BadArgument) = some (.type "type")) (kC_BadArgument : PySem.W.keepIn K (.ref e_BadArgument) = true) (noF_BadArgument : PySem.W.findIn K (.ref e_BadArgument) "name" = some none) (ini_BadArgument : PySem.W.findIn K (.ref e_BadArgument) "__init__" = some (some (.ref i_BadArgument))) (fty_BadArgument : PySem.W.typeIn K (.ref i_BadArgument) = some (.type "function"))
    (al_BadArgument : PySem.W.ks_superIn K e_BadArgument e_BadArgument "__init__" = some (some (.builtin "ValueError.__init__"))) (isB_BadArgument : PySem.W.subIn K (.ref e_BadArgument) (.type "ValueError") = some true) (mro_BadArgument : PySem.W.mroIn K e_BadArgument (.ref e_BadArgument) = some true)
    (lk_BadArgument : K.lookup i_BadArgument = some ⟨oci_BadArgument, odi_BadArgument, .func (PySem.W.ksFn "__init__" qual_BadArgument params_BadArgument (supBody "self" "name" "name" p0_BadArgument p1_BadArgument p2_BadArgument p3_BadArgument p4_BadArgument p5_BadArgument p6_BadArgument p7_BadArgument p8_BadArgument p9_BadArgument) scope_BadArgument dV_BadArgument kVi_BadArgument doc_BadArgument pmi_BadArgument ani_BadArgument (.ref cda_BadArgument) cti_BadArgument cc_BadArgument), osl_BadArgument⟩) (hcd_BadArgument : PySem.W.codeIn K (.ref cda_BadArgument) qual_BadArgument = true)
    (lkc_BadArgument : K.lookup cda_BadArgument = some ⟨ccl_BadArgument, cdd_BadArgument, .fields vs_BadArgument, ccs_BadArgument⟩) (hvs_BadArgument : vs_BadArgument[2]? = some (.str file_BadArgument tf_BadArgument)) (hfile_BadArgument : ((P.main.file : Str) == file_BadArgument) = true) (lcc_BadArgument : K.lookup cc_BadArgument = some ⟨cl_BadArgument, cld_BadArgument, .cell (some (.ref e_BadArgument)), csl_BadArgument⟩) (htop_BadArgument : (P.main.scope.names.lookup ("super" : Str)).isSome = false) (hhd_BadArgument : (params_BadArgument.posonlyargs ++ params_BadArgument.args).head? = some ar_BadArgument) (har_BadArgument : ar_BadArgument.arg = "self")
    (hbind_BadArgument : ∀ us : List Value, us.length = 2 → bindArgs (PySem.W.ksFn "__init__" qual_BadArgument params_BadArgument (supBody "self" "name" "name" p0_BadArgument p1_BadArgument p2_BadArgument p3_BadArgument p4_BadArgument p5_BadArgument p6_BadArgument p7_BadArgument p8_BadArgument p9_BadArgument) scope_BadArgument dV_BadArgument kVi_BadArgument doc_BadArgument pmi_BadArgument ani_BadArgument (.ref cda_BadArgument) cti_BadArgument cc_BadArgument) ⟨us, []⟩ = pure ((["self", "name"] : List Str).zip us))
    (hk_BadArgument : scope_BadArgument.kind = .function) (hco_BadArgument : scope_BadArgument.isCoroutine = false) (hgen_BadArgument : scope_BadArgument.isGenerator = false) (hns_BadArgument : scope_BadArgument.names = ([("self", .local), ("name", .local), ("__class__", .free), ("super", .globalImplicit)] : List (Str × NameKind))) (mf_BadArgument : MethF "name" p0_BadArgument p1_BadArgument p2_BadArgument p3_BadArgument p4_BadArgument)
    : LamX.LawAtS PySem.Challenge.rw_crosslaid_k24_whole_streaks_and_rows_tha w K (L2.CX P w) 12 63 "script" mg fa h := by
  have e0 := hfa.symm.trans (PySem.W.mg_of KX Gn a_law)
  cases e0
  let A : Ad := { f_demand := f_demand, d_demand := PySem.W.fnOf "demand" "demand" (defArgs s_demand) (defBody s_demand) (defScope s_demand) .none kV_demand dc_demand pm_demand an_demand cd_demand ct_demand, f_is_in := f_is_in, d_is_in := PySem.W.fnOf "is_in" "is_in" (defArgs s_is_in) (defBody s_is_in) (defScope s_is_in) .none kV_is_in dc_is_in pm_is_in an_is_in cd_is_in ct_is_in, f_is_tuple := f_is_tuple, d_is_tuple := PySem.W.fnOf "is_tuple" "is_tuple" (defArgs s_is_tuple) (defBody s_is_tuple) (defScope s_is_tuple) .none kV_is_tuple dc_is_tuple pm_is_tuple an_is_tuple cd_is_tuple ct_is_tuple, f_is_signs := f_is_signs, d_is_signs := PySem.W.fnOf "is_signs" "is_signs" (defArgs s_is_signs) (defBody s_is_signs) (defScope s_is_signs) .none kV_is_signs dc_is_signs pm_is_signs an_is_signs cd_is_signs ct_is_signs, f_is_value := f_is_value, d_is_value := PySem.W.fnOf "is_value" "is_value" (defArgs s_is_value) (defBody s_is_value) (defScope s_is_value) .none kV_is_value dc_is_value pm_is_value an_is_value cd_is_value ct_is_value, f_is_name := f_is_name, d_is_name := PySem.W.fnOf "is_name" "is_name" (defArgs s_is_name) (defBody s_is_name) (defScope s_is_name) .none kV_is_name dc_is_name pm_is_name an_is_name cd_is_name ct_is_name, f_are_names := f_are_names, d_are_names := PySem.W.fnOf "are_names" "are_names" (defArgs s_are_names) (defBody s_are_names) (defScope s_are_names) .none kV_are_names dc_are_names pm_are_names an_are_names cd_are_names ct_are_names, f_is_row := f_is_row, d_is_row := PySem.W.fnOf "is_row" "is_row" (defArgs s_is_row) (defBody s_is_row) (defScope s_is_row) .none kV_is_row dc_is_row pm_is_row an_is_row cd_is_row ct_is_row, f_is_table := f_is_table, d_is_table := PySem.W.fnOf "is_table" "is_table" (defArgs s_is_table) (defBody s_is_table) (defScope s_is_table) .none kV_is_table dc_is_table pm_is_table an_is_table cd_is_table ct_is_table, f_demand_table := f_demand_table, d_demand_table := PySem.W.fnOf "demand_table" "demand_table" (defArgs s_demand_table) (defBody s_demand_table) (defScope s_demand_table) .none kV_demand_table dc_demand_table pm_demand_table an_demand_table cd_demand_table ct_demand_table, f_at_name := f_at_name, d_at_name := PySem.W.fnOf "at_name" "at_name" (defArgs s_at_name) (defBody s_at_name) (defScope s_at_name) .none kV_at_name dc_at_name pm_at_name an_at_name cd_at_name ct_at_name, f_demand_column := f_demand_column, d_demand_column := PySem.W.fnOf "demand_column" "demand_column" (defArgs s_demand_column) (defBody s_demand_column) (defScope s_demand_column) .none kV_demand_column dc_demand_column pm_demand_column an_demand_column cd_demand_column ct_demand_column, f_streaks := f_streaks, d_streaks := PySem.W.fnOf "streaks" "streaks" (defArgs s_streaks) (defBody s_streaks) (defScope s_streaks) .none kV_streaks dc_streaks pm_streaks an_streaks cd_streaks ct_streaks, f_is_more := f_is_more, d_is_more := PySem.W.fnOf "is_more" "is_more" (defArgs s_is_more) (defBody s_is_more) (defScope s_is_more) .none kV_is_more dc_is_more pm_is_more an_is_more cd_is_more ct_is_more, f_rising := f_rising, d_rising := PySem.W.fnOf "rising" "rising" (defArgs s_rising) (defBody s_rising) (defScope s_rising) .none kV_rising dc_rising pm_rising an_rising cd_rising ct_rising, f_is_rising := f_is_rising, d_is_rising := PySem.W.fnOf "is_rising" "is_rising" (defArgs s_is_rising) (defBody s_is_rising) (defScope s_is_rising) .none kV_is_rising dc_is_rising pm_is_rising an_is_rising cd_is_rising ct_is_rising, f__law_dice := f__law_dice, d__law_dice := PySem.W.fnOf "_law_dice" "_law_dice" (defArgs s__law_dice) (defBody s__law_dice) (defScope s__law_dice) .none kV__law_dice dc__law_dice pm__law_dice an__law_dice cd__law_dice ct__law_dice, f__law_roll := f__law_roll, d__law_roll := PySem.W.fnOf "_law_roll" "_law_roll" (defArgs s__law_roll) (defBody s__law_roll) (defScope s__law_roll) .none kV__law_roll dc__law_roll pm__law_roll an__law_roll cd__law_roll ct__law_roll, f__law_pick := f__law_pick, d__law_pick := PySem.W.fnOf "_law_pick" "_law_pick" (defArgs s__law_pick) (defBody s__law_pick) (defScope s__law_pick) .none kV__law_pick dc__law_pick pm__law_pick an__law_pick cd__law_pick ct__law_pick, f__law_refused := f__law_refused, d__law_refused := PySem.W.fnOf "_law_refused" "_law_refused" (defArgs s__law_refused) (defBody s__law_refused) (defScope s__law_refused) .none kV__law_refused dc__law_refused pm__law_refused an__law_refused cd__law_refused ct__law_refused, f__law_value := f__law_value, d__law_value := PySem.W.fnOf "_law_value" "_law_value" (defArgs s__law_value) (defBody s__law_value) (defScope s__law_value) .none kV__law_value dc__law_value pm__law_value an__law_value cd__law_value ct__law_value, f__law_choices := f__law_choices, d__law_choices := PySem.W.fnOf "_law_choices" "_law_choices" (defArgs s__law_choices) (defBody s__law_choices) (defScope s__law_choices) .none kV__law_choices dc__law_choices pm__law_choices an__law_choices cd__law_choices ct__law_choices, f__law_rises := f__law_rises, d__law_rises := PySem.W.fnOf "_law_rises" "_law_rises" (defArgs s__law_rises) (defBody s__law_rises) (defScope s__law_rises) .none kV__law_rises dc__law_rises pm__law_rises an__law_rises cd__law_rises ct__law_rises, f__law_streaks := f__law_streaks, d__law_streaks := PySem.W.fnOf "_law_streaks" "_law_streaks" (defArgs s__law_streaks) (defBody s__law_streaks) (defScope s__law_streaks) .none kV__law_streaks dc__law_streaks pm__law_streaks an__law_streaks cd__law_streaks ct__law_streaks, f__law_best := f__law_best, d__law_best := PySem.W.fnOf "_law_best" "_law_best" (defArgs s__law_best) (defBody s__law_best) (defScope s__law_best) .none kV__law_best dc__law_best pm__law_best an__law_best cd__law_best ct__law_best, f_law := fa, d_law := PySem.W.fnOf "law" "law" (defArgs s_law) (defBody s_law) (defScope s_law) .none kV_law dc_law pm_law an_law (.ref cL_law) ct_law, e_BadArgument := e_BadArgument, i_BadArgument := i_BadArgument, tabs := [(P_law, "law.<locals>.<lambda>")] }
  have T : Txt K mg A := {
    n_abs := PySem.W.mg_none_of KX Gn z_abs,
    n_all := PySem.W.mg_none_of KX Gn z_all,
    n_bool := PySem.W.mg_none_of KX Gn z_bool,
    n_enumerate := PySem.W.mg_none_of KX Gn z_enumerate,
    n_int := PySem.W.mg_none_of KX Gn z_int,
    n_isinstance := PySem.W.mg_none_of KX Gn z_isinstance,
    n_len := PySem.W.mg_none_of KX Gn z_len,
    n_list := PySem.W.mg_none_of KX Gn z_list,
    n_max := PySem.W.mg_none_of KX Gn z_max,
    n_min := PySem.W.mg_none_of KX Gn z_min,
    n_range := PySem.W.mg_none_of KX Gn z_range,
    n_set := PySem.W.mg_none_of KX Gn z_set,
    n_str := PySem.W.mg_none_of KX Gn z_str,
    n_tuple := PySem.W.mg_none_of KX Gn z_tuple,
    n_zip := PySem.W.mg_none_of KX Gn z_zip,
    c_LEAST := ⟨_, PySem.W.mg_of KX Gn g_LEAST⟩,
    c_LETTERS := ⟨_, PySem.W.mg_of KX Gn g_LETTERS⟩,
    c_MOST := ⟨_, PySem.W.mg_of KX Gn g_MOST⟩,
    c_MOST_COLUMNS := ⟨_, PySem.W.mg_of KX Gn g_MOST_COLUMNS⟩,
    c_MOST_NAME := ⟨_, PySem.W.mg_of KX Gn g_MOST_NAME⟩,
    c_MOST_ROWS := ⟨_, PySem.W.mg_of KX Gn g_MOST_ROWS⟩,
    c_MOST_SIGNS := ⟨_, PySem.W.mg_of KX Gn g_MOST_SIGNS⟩,
    c_SIGNS := ⟨_, PySem.W.mg_of KX Gn g_SIGNS⟩,
    e_BadArgument := sup_mk KX Gn xL_BadArgument hbm_BadArgument sa_BadArgument exC_BadArgument tyC_BadArgument kC_BadArgument noF_BadArgument ini_BadArgument fty_BadArgument al_BadArgument zs opq isB_BadArgument mro_BadArgument lk_BadArgument hcd_BadArgument lkc_BadArgument hvs_BadArgument hfile_BadArgument lcc_BadArgument htop_BadArgument hhd_BadArgument har_BadArgument hbind_BadArgument hk_BadArgument hco_BadArgument hgen_BadArgument hns_BadArgument ⟨by decide, by decide, by decide, by decide⟩ mf_BadArgument,
    m_BadArgument := PySem.W.mg_of KX Gn aC_BadArgument,
    x_BadArgument := ⟨ga_BadArgument, gg_BadArgument, exC_BadArgument, hd_BadArgument⟩,
    q_BadArgument := exm_own exC_BadArgument ic_BadArgument tyC_BadArgument ss_BadArgument,
    d_demand := dn_mk KX Gn a_demand l_demand c_demand k_demand (fun _ _ _ _ _ _ us hl => match us, hl with | [_, _], _ => rfl),
    d_is_in := dn_mk KX Gn a_is_in l_is_in c_is_in k_is_in (fun _ _ _ _ _ _ us hl => match us, hl with | [_, _, _], _ => rfl),
    d_is_tuple := dn_mk KX Gn a_is_tuple l_is_tuple c_is_tuple k_is_tuple (fun _ _ _ _ _ _ us hl => match us, hl with | [_, _, _], _ => rfl),
    d_is_signs := dn_mk KX Gn a_is_signs l_is_signs c_is_signs k_is_signs (fun _ _ _ _ _ _ us hl => match us, hl with | [_, _, _], _ => rfl),
    d_is_value := dn_mk KX Gn a_is_value l_is_value c_is_value k_is_value (fun _ _ _ _ _ _ us hl => match us, hl with | [_], _ => rfl),
    d_is_name := dn_mk KX Gn a_is_name l_is_name c_is_name k_is_name (fun _ _ _ _ _ _ us hl => match us, hl with | [_], _ => rfl),
    d_are_names := dn_mk KX Gn a_are_names l_are_names c_are_names k_are_names (fun _ _ _ _ _ _ us hl => match us, hl with | [_, _, _], _ => rfl),
    d_is_row := dn_mk KX Gn a_is_row l_is_row c_is_row k_is_row (fun _ _ _ _ _ _ us hl => match us, hl with | [_, _], _ => rfl),
    d_is_table := dn_mk KX Gn a_is_table l_is_table c_is_table k_is_table (fun _ _ _ _ _ _ us hl => match us, hl with | [_], _ => rfl),
    d_demand_table := dn_mk KX Gn a_demand_table l_demand_table c_demand_table k_demand_table (fun _ _ _ _ _ _ us hl => match us, hl with | [_], _ => rfl),
    d_at_name := dn_mk KX Gn a_at_name l_at_name c_at_name k_at_name (fun _ _ _ _ _ _ us hl => match us, hl with | [_, _, _], _ => rfl),
    d_demand_column := dn_mk KX Gn a_demand_column l_demand_column c_demand_column k_demand_column (fun _ _ _ _ _ _ us hl => match us, hl with | [_, _], _ => rfl),
    d_streaks := dn_mk KX Gn a_streaks l_streaks c_streaks k_streaks (fun _ _ _ _ _ _ us hl => match us, hl with | [_, _], _ => rfl),
    d_is_more := dn_mk KX Gn a_is_more l_is_more c_is_more k_is_more (fun _ _ _ _ _ _ us hl => match us, hl with | [_, _], _ => rfl),
    d_rising := dn_mk KX Gn a_rising l_rising c_rising k_rising (fun _ _ _ _ _ _ us hl => match us, hl with | [_, _], _ => rfl),
    d_is_rising := dn_mk KX Gn a_is_rising l_is_rising c_is_rising k_is_rising (fun _ _ _ _ _ _ us hl => match us, hl with | [_, _, _], _ => rfl),
    d__law_dice := dn_mk KX Gn a__law_dice l__law_dice c__law_dice k__law_dice (fun _ _ _ _ _ _ us hl => match us, hl with | [_, _], _ => rfl),
    d__law_roll := dn_mk KX Gn a__law_roll l__law_roll c__law_roll k__law_roll (fun _ _ _ _ _ _ us hl => match us, hl with | [_, _], _ => rfl),
    d__law_pick := dn_mk KX Gn a__law_pick l__law_pick c__law_pick k__law_pick (fun _ _ _ _ _ _ us hl => match us, hl with | [_, _], _ => rfl),
    d__law_refused := dn_mk KX Gn a__law_refused l__law_refused c__law_refused k__law_refused (fun _ _ _ _ _ _ us hl => match us, hl with | [_], _ => rfl),
    d__law_value := dn_mk KX Gn a__law_value l__law_value c__law_value k__law_value (fun _ _ _ _ _ _ us hl => match us, hl with | [_, _], _ => rfl),
    d__law_choices := dn_mk KX Gn a__law_choices l__law_choices c__law_choices k__law_choices (fun _ _ _ _ _ _ us hl => match us, hl with | [_], _ => rfl),
    d__law_rises := dn_mk KX Gn a__law_rises l__law_rises c__law_rises k__law_rises (fun _ _ _ _ _ _ us hl => match us, hl with | [_, _], _ => rfl),
    d__law_streaks := dn_mk KX Gn a__law_streaks l__law_streaks c__law_streaks k__law_streaks (fun _ _ _ _ _ _ us hl => match us, hl with | [_], _ => rfl),
    d__law_best := dn_mk KX Gn a__law_best l__law_best c__law_best k__law_best (fun _ _ _ _ _ _ us hl => match us, hl with | [_], _ => rfl),
    d_law := dn_mk KX Gn a_law l_law c_law k_law (fun _ _ _ _ _ _ us hl => match us, hl with | [_], _ => rfl) }
  have tb_law := tab _ _ _ _ v_law (tab_mk a_law l_law rfl t_law tv_law)
  refine ⟨A.d_law, [(cL_law, P_law)], spF (wd K A) 1 f_law, List.forall_mem_cons.mpr ⟨tb_law.2, List.forall_mem_nil _⟩, List.forall_mem_cons.mpr ⟨u_law, List.forall_mem_nil _⟩, List.forall_mem_cons.mpr ⟨tb_law.1, List.forall_mem_nil _⟩, fun s u => .of_eq rfl, fun H a ns hl hb hT hs => ?_, fun base hB hN hT => ?_⟩
  · refine spec_go (fun p hp => ?_) hs (law_holds hl hb)
    have hp : p ∈ [(P_law, ("law.<locals>.<lambda>" : Str))] := hp
    simp only [List.mem_cons, List.not_mem_nil, or_false] at hp
    subst hp
    exact LamX.TabS.nil (hT (cL_law, P_law) (by simp))
  · exact ok_law T ⟨hT (cL_law, P_law) (by simp), List.mem_cons_self, fun q hq hP => by have hq : q ∈ [(P_law, ("law.<locals>.<lambda>" : Str))] := hq; rw [List.mem_singleton] at hq; rw [hq]⟩ rfl
end K24
open PySem PySem.W PyProof.Rows
set_option maxRecDepth 100000 in
set_option maxHeartbeats 0 in
theorem PySem.Challenge.cw_crosslaid_k24_whole_streaks_and_rows_tha_holds : PySem.Challenge.rw_crosslaid_k24_whole_streaks_and_rows_tha.Holds := by
  w_on; o_law; k_head; (case hw => w_witness2)
  k_fill
  refine G.walk_all (l := PySem.Challenge.rw_crosslaid_k24_whole_streaks_and_rows_tha) (n := 63) (k := 12) (x := "script") rfl (by decide) rfl ⟨rfl, by decide, by decide⟩ (fun w h Y => PySem.W.km_in_of Y) ?F
  case F =>
    intro w mg fa h KX Gn hmg tab
    refine' K24.all_mk KX Gn hmg tab ?v_law ?a_demand ?l_demand ?c_demand ?k_demand ?a_is_in ?l_is_in ?c_is_in ?k_is_in ?a_is_tuple ?l_is_tuple ?c_is_tuple ?k_is_tuple ?a_is_signs ?l_is_signs ?c_is_signs ?k_is_signs ?a_is_value ?l_is_value ?c_is_value ?k_is_value ?a_is_name ?l_is_name ?c_is_name ?k_is_name ?a_are_names ?l_are_names ?c_are_names ?k_are_names ?a_is_row ?l_is_row ?c_is_row ?k_is_row ?a_is_table ?l_is_table ?c_is_table ?k_is_table ?a_demand_table ?l_demand_table ?c_demand_table ?k_demand_table ?a_at_name ?l_at_name ?c_at_name ?k_at_name ?a_demand_column ?l_demand_column ?c_demand_column ?k_demand_column ?a_streaks ?l_streaks ?c_streaks ?k_streaks ?a_is_more ?l_is_more ?c_is_more ?k_is_more ?a_rising ?l_rising ?c_rising ?k_rising ?a_is_rising ?l_is_rising ?c_is_rising ?k_is_rising ?a__law_dice ?l__law_dice ?c__law_dice ?k__law_dice ?a__law_roll ?l__law_roll ?c__law_roll ?k__law_roll ?a__law_pick ?l__law_pick ?c__law_pick ?k__law_pick ?a__law_refused ?l__law_refused ?c__law_refused ?k__law_refused ?a__law_value ?l__law_value ?c__law_value ?k__law_value ?a__law_choices ?l__law_choices ?c__law_choices ?k__law_choices ?a__law_rises ?l__law_rises ?c__law_rises ?k__law_rises ?a__law_streaks ?l__law_streaks ?c__law_streaks ?k__law_streaks ?a__law_best ?l__law_best ?c__law_best ?k__law_best ?a_law ?l_law ?c_law ?k_law ?t_law ?tv_law ?u_law ?z_abs ?z_all ?z_bool ?z_enumerate ?z_int ?z_isinstance ?z_len ?z_list ?z_max ?z_min ?z_range ?z_set ?z_str ?z_tuple ?z_zip ?g_LEAST ?g_LETTERS ?g_MOST ?g_MOST_COLUMNS ?g_MOST_NAME ?g_MOST_ROWS ?g_MOST_SIGNS ?g_SIGNS ?zs ?opq ?aC_BadArgument ?xL_BadArgument ?hbm_BadArgument ?sa_BadArgument ?ga_BadArgument ?gg_BadArgument ?hd_BadArgument ?ic_BadArgument ?ss_BadArgument ?exC_BadArgument ?tyC_BadArgument ?kC_BadArgument ?noF_BadArgument ?ini_BadArgument ?fty_BadArgument ?al_BadArgument ?isB_BadArgument ?mro_BadArgument ?lk_BadArgument ?hcd_BadArgument ?lkc_BadArgument ?hvs_BadArgument ?hfile_BadArgument ?lcc_BadArgument ?htop_BadArgument ?hhd_BadArgument ?har_BadArgument ?hbind_BadArgument ?hk_BadArgument ?hco_BadArgument ?hgen_BadArgument ?hns_BadArgument ?mf_BadArgument
    (case v_law => rfl)
    (case a_demand => k_is)
    (case l_demand => k_is)
    (case c_demand => k_is)
    (case k_demand => k_is)
    (case a_is_in => k_is)
    (case l_is_in => k_is)
    (case c_is_in => k_is)
    (case k_is_in => k_is)
    (case a_is_tuple => k_is)
    (case l_is_tuple => k_is)
    (case c_is_tuple => k_is)
    (case k_is_tuple => k_is)
    (case a_is_signs => k_is)
    (case l_is_signs => k_is)
    (case c_is_signs => k_is)
    (case k_is_signs => k_is)
    (case a_is_value => k_is)
    (case l_is_value => k_is)
    (case c_is_value => k_is)
    (case k_is_value => k_is)
    (case a_is_name => k_is)
    (case l_is_name => k_is)
    (case c_is_name => k_is)
    (case k_is_name => k_is)
    (case a_are_names => k_is)
    (case l_are_names => k_is)
    (case c_are_names => k_is)
    (case k_are_names => k_is)
    (case a_is_row => k_is)
    (case l_is_row => k_is)
    (case c_is_row => k_is)
    (case k_is_row => k_is)
    (case a_is_table => k_is)
    (case l_is_table => k_is)
    (case c_is_table => k_is)
    (case k_is_table => k_is)
    (case a_demand_table => k_is)
    (case l_demand_table => k_is)
    (case c_demand_table => k_is)
    (case k_demand_table => k_is)
    (case a_at_name => k_is)
    (case l_at_name => k_is)
    (case c_at_name => k_is)
    (case k_at_name => k_is)
    (case a_demand_column => k_is)
    (case l_demand_column => k_is)
    (case c_demand_column => k_is)
    (case k_demand_column => k_is)
    (case a_streaks => k_is)
    (case l_streaks => k_is)
    (case c_streaks => k_is)
    (case k_streaks => k_is)
    (case a_is_more => k_is)
    (case l_is_more => k_is)
    (case c_is_more => k_is)
    (case k_is_more => k_is)
    (case a_rising => k_is)
    (case l_rising => k_is)
    (case c_rising => k_is)
    (case k_rising => k_is)
    (case a_is_rising => k_is)
    (case l_is_rising => k_is)
    (case c_is_rising => k_is)
    (case k_is_rising => k_is)
    (case a__law_dice => k_is)
    (case l__law_dice => k_is)
    (case c__law_dice => k_is)
    (case k__law_dice => k_is)
    (case a__law_roll => k_is)
    (case l__law_roll => k_is)
    (case c__law_roll => k_is)
    (case k__law_roll => k_is)
    (case a__law_pick => k_is)
    (case l__law_pick => k_is)
    (case c__law_pick => k_is)
    (case k__law_pick => k_is)
    (case a__law_refused => k_is)
    (case l__law_refused => k_is)
    (case c__law_refused => k_is)
    (case k__law_refused => k_is)
    (case a__law_value => k_is)
    (case l__law_value => k_is)
    (case c__law_value => k_is)
    (case k__law_value => k_is)
    (case a__law_choices => k_is)
    (case l__law_choices => k_is)
    (case c__law_choices => k_is)
    (case k__law_choices => k_is)
    (case a__law_rises => k_is)
    (case l__law_rises => k_is)
    (case c__law_rises => k_is)
    (case k__law_rises => k_is)
    (case a__law_streaks => k_is)
    (case l__law_streaks => k_is)
    (case c__law_streaks => k_is)
    (case k__law_streaks => k_is)
    (case a__law_best => k_is)
    (case l__law_best => k_is)
    (case c__law_best => k_is)
    (case k__law_best => k_is)
    (case a_law => k_is)
    (case l_law => k_is)
    (case c_law => k_is)
    (case k_law => k_is)
    (case t_law => k_is)
    (case tv_law => rfl)
    (case u_law => kernel_rfl)
    (case z_abs => k_is)
    (case z_all => k_is)
    (case z_bool => k_is)
    (case z_enumerate => k_is)
    (case z_int => k_is)
    (case z_isinstance => k_is)
    (case z_len => k_is)
    (case z_list => k_is)
    (case z_max => k_is)
    (case z_min => k_is)
    (case z_range => k_is)
    (case z_set => k_is)
    (case z_str => k_is)
    (case z_tuple => k_is)
    (case z_zip => k_is)
    (case g_LEAST => k_is)
    (case g_LETTERS => k_is)
    (case g_MOST => k_is)
    (case g_MOST_COLUMNS => k_is)
    (case g_MOST_NAME => k_is)
    (case g_MOST_ROWS => k_is)
    (case g_MOST_SIGNS => k_is)
    (case g_SIGNS => k_is)
    (case zs => k_is)
    (case opq => k_is)
    (case aC_BadArgument => k_is)
    (case xL_BadArgument => k_is)
    (case hbm_BadArgument => first | rfl | kernel_rfl | decide +kernel)
    (case sa_BadArgument => k_is)
    (case ga_BadArgument => k_is)
    (case gg_BadArgument => k_is)
    (case hd_BadArgument => k_is)
    (case ic_BadArgument => k_is)
    (case ss_BadArgument => first | rfl | k_is)
    (case exC_BadArgument => k_is)
    (case tyC_BadArgument => k_is)
    (case kC_BadArgument => k_is)
    (case noF_BadArgument => k_is)
    (case ini_BadArgument => k_is)
    (case fty_BadArgument => k_is)
    (case al_BadArgument => ks_is)
    (case isB_BadArgument => k_is)
    (case mro_BadArgument => k_is)
    (case lk_BadArgument => k_is)
    (case hcd_BadArgument => k_is)
    (case lkc_BadArgument => k_is)
    (case hvs_BadArgument => first | rfl | kernel_rfl | decide +kernel)
    (case hfile_BadArgument => first | rfl | kernel_rfl | decide +kernel)
    (case lcc_BadArgument => k_is)
    (case htop_BadArgument => first | rfl | kernel_rfl | decide +kernel)
    (case hhd_BadArgument => first | rfl | kernel_rfl | decide +kernel)
    (case har_BadArgument => first | rfl | kernel_rfl | decide +kernel)
    (case hbind_BadArgument => exact fun us hu => match us, hu with | [_, _], _ => rfl)
    (case hk_BadArgument => first | rfl | kernel_rfl | decide +kernel)
    (case hco_BadArgument => first | rfl | kernel_rfl | decide +kernel)
    (case hgen_BadArgument => first | rfl | kernel_rfl | decide +kernel)
    (case hns_BadArgument => first | rfl | kernel_rfl | decide +kernel)
    (case mf_BadArgument => exact fun env => ⟨_, rfl⟩)
end
