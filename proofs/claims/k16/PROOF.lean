import PyProof.Rows.All
import HandS.ForSpec
import HandS.ForMost
import KE.SortData
import HandS.Wide
import HandS.Style
import HandS.ExcOwn
import HandS.HeadHook2
import HandS.Flow
import HandS.HotCalls
import HandS.ExcIs
import PyProof.StrOps2
import KE.KDictSum
import HandS.Conv
import HandS.Deep
import HandS.Text
import HandS.HeadWalk
import HandS.More
import HandS.SetFor
import HandS.SetKeys
import HandS.StrMore
import HandS.IsInst
import HandS.Iter
import HandS.Rev
import HandS.Comp
import HandS.TryOnly
import HandS.Small
import PyProof.ExcBaseAll.ValueError
import HandS.Defaults
import HandS.Head0
import HandS.Head1
import HandS.Head2
import HandS.HeadEnd
import Lean
import KE.KStateDown
import PySem.Challenge.RW_copperbook_k16_refusals_apart
set_option Elab.async false
set_option linter.all false
set_option maxRecDepth 100000
set_option maxHeartbeats 0
/-! DL0: data with tuples inline, the store of mutable objects, how the abstract heap bears them. -/
namespace DL
open PySem PySem.Spec PyProof.Rows L2

/-- a value, tuples inline -/
inductive D where
  | non | bl (b : Bool) | int (i : Int) | str (x : Str) | tup (ds : List D) | ref (a : Addr) | ty (n : String)

mutual
def D.beq : D → D → Bool
  | .non, .non => true
  | .bl a, .bl b => a == b
  | .int a, .int b => a == b
  | .str a, .str b => decide (a = b)
  | .tup a, .tup b => D.beqs a b
  | .ref a, .ref b => a == b
  | .ty a, .ty b => decide (a = b)
  | _, _ => false
def D.beqs : List D → List D → Bool
  | [], [] => true
  | a :: as, b :: bs => D.beq a b && D.beqs as bs
  | _, _ => false
end

mutual
theorem D.beq_iff : ∀ (a b : D), D.beq a b = true ↔ a = b
  | .non, b => by cases b <;> simp [D.beq]
  | .bl x, b => by cases b <;> simp [D.beq]
  | .int x, b => by cases b <;> simp [D.beq]
  | .str x, b => by cases b <;> simp [D.beq]
  | .ref x, b => by cases b <;> simp [D.beq]
  | .ty x, b => by cases b <;> simp [D.beq]
  | .tup x, b => by
    cases b with
    | tup y => simp only [D.beq, D.tup.injEq]; exact D.beqs_iff x y
    | _ => simp [D.beq]
theorem D.beqs_iff : ∀ (a b : List D), D.beqs a b = true ↔ a = b
  | [], b => by cases b <;> simp [D.beqs]
  | a :: as, b => by
    cases b with
    | nil => simp [D.beqs]
    | cons b bs => simp only [D.beqs, Bool.and_eq_true, List.cons.injEq, D.beq_iff a b, D.beqs_iff as bs]
end
instance : DecidableEq D := fun a b => decidable_of_iff _ (D.beq_iff a b)

mutual
def Rep (H : Hp) : D → V → Prop
  | .non, v => v = .non
  | .bl b, v => v = .bl b
  | .int i, v => v = .int i
  | .str x, v => v = .str x
  | .ref a, v => v = .ref a
  | .ty n, v => v = .ty n
  | .tup ds, v => ∃ (a : Addr) (vs : List V), v = .ref a ∧ H a = some (.tup vs) ∧ Reps H ds vs
def Reps (H : Hp) : List D → List V → Prop
  | [], vs => vs = []
  | d :: ds, vs => ∃ v r, vs = v :: r ∧ Rep H d v ∧ Reps H ds r
end

/-- tuples stay -/
def Tm (H H' : Hp) : Prop := ∀ a xs, H a = some (.tup xs) → H' a = some (.tup xs)
theorem Tm.refl {H : Hp} : Tm H H := fun _ _ h => h
theorem Tm.trans {H H1 H2 : Hp} (a : Tm H H1) (b : Tm H1 H2) : Tm H H2 := fun c xs h => b c xs (a c xs h)
theorem Tm.upd_new {H : Hp} {p : Addr} {o : HO} (h : H p = none) : Tm H (upd H p o) := fun a xs e => by rw [upd_ne (ne_of_none e h)]; exact e
theorem Tm.upd_mut {H : Hp} {p : Addr} {o u : HO} (h : H p = some u) (n : ∀ xs, u ≠ .tup xs) : Tm H (upd H p o) := fun a xs e => by
  rw [upd_ne (ne_of e h (fun z => n xs z.symm))]; exact e

mutual
theorem Rep.mono {H H' : Hp} (t : Tm H H') : ∀ {d : D} {v : V}, Rep H d v → Rep H' d v
  | .non, _, h => h
  | .bl _, _, h => h
  | .int _, _, h => h
  | .str _, _, h => h
  | .ref _, _, h => h
  | .ty _, _, h => h
  | .tup ds, v, h => by
    simp only [Rep] at h ⊢
    obtain ⟨a, vs, e, q, r⟩ := h
    exact ⟨a, vs, e, t _ _ q, Reps.mono t r⟩
theorem Reps.mono {H H' : Hp} (t : Tm H H') : ∀ {ds : List D} {vs : List V}, Reps H ds vs → Reps H' ds vs
  | [], _, h => h
  | d :: ds, vs, h => by
    simp only [Reps] at h ⊢
    obtain ⟨v, r, e, h1, h2⟩ := h
    exact ⟨v, r, e, Rep.mono t h1, Reps.mono t h2⟩
end

theorem Reps.nil {H : Hp} : Reps H [] [] := by simp only [Reps]
theorem Reps.cons {H : Hp} {d : D} {ds : List D} {v : V} {vs : List V} (h : Rep H d v) (r : Reps H ds vs) : Reps H (d :: ds) (v :: vs) := by
  simp only [Reps]; exact ⟨v, vs, rfl, h, r⟩
theorem Reps.nil_inv {H : Hp} {vs : List V} (h : Reps H [] vs) : vs = [] := by simpa only [Reps] using h
theorem Reps.cons_inv {H : Hp} {d : D} {ds : List D} {vs : List V} (h : Reps H (d :: ds) vs) : ∃ v r, vs = v :: r ∧ Rep H d v ∧ Reps H ds r := by
  simpa only [Reps] using h
theorem Reps.length {H : Hp} : ∀ {ds : List D} {vs : List V}, Reps H ds vs → ds.length = vs.length
  | [], _, h => by rw [h.nil_inv]; rfl
  | d :: ds, _, h => by
    obtain ⟨v, r, rfl, _, h2⟩ := h.cons_inv
    simp [Reps.length h2]
theorem Reps.get {H : Hp} : ∀ {ds : List D} {vs : List V} {i : Nat} {d : D}, Reps H ds vs → ds[i]? = some d → ∃ v, vs[i]? = some v ∧ Rep H d v
  | [], _, _, _, _, e => by simp at e
  | d :: ds, _, 0, x, h, e => by
    obtain ⟨v, r, rfl, h1, h2⟩ := h.cons_inv
    simp at e; subst e; exact ⟨v, rfl, h1⟩
  | d :: ds, _, i + 1, x, h, e => by
    obtain ⟨v, r, rfl, h1, h2⟩ := h.cons_inv
    simpa using Reps.get (i := i) h2 (by simpa using e)
theorem Reps.get' {H : Hp} : ∀ {ds : List D} {vs : List V} {i : Nat} {v : V}, Reps H ds vs → vs[i]? = some v → ∃ d, ds[i]? = some d ∧ Rep H d v
  | [], _, _, _, h, e => by rw [h.nil_inv] at e; simp at e
  | d :: ds, _, 0, x, h, e => by
    obtain ⟨v, r, rfl, h1, h2⟩ := h.cons_inv
    simp at e; subst e; exact ⟨d, rfl, h1⟩
  | d :: ds, _, i + 1, x, h, e => by
    obtain ⟨v, r, rfl, h1, h2⟩ := h.cons_inv
    simpa using Reps.get' (i := i) h2 (by simpa using e)
theorem Reps.append {H : Hp} : ∀ {ds es : List D} {vs ws : List V}, Reps H ds vs → Reps H es ws → Reps H (ds ++ es) (vs ++ ws)
  | [], _, _, _, h, k => by rw [h.nil_inv]; exact k
  | d :: ds, es, _, ws, h, k => by
    obtain ⟨v, r, rfl, h1, h2⟩ := h.cons_inv
    exact Reps.cons h1 (Reps.append h2 k)
theorem Reps.set {H : Hp} : ∀ {ds : List D} {vs : List V} (i : Nat) {d : D} {v : V}, Reps H ds vs → Rep H d v → Reps H (ds.set i d) (vs.set i v)
  | [], _, _, _, _, h, _ => by rw [h.nil_inv]; exact Reps.nil
  | d :: ds, _, 0, _, _, h, k => by
    obtain ⟨v, r, rfl, h1, h2⟩ := h.cons_inv
    exact Reps.cons k h2
  | d :: ds, _, i + 1, _, _, h, k => by
    obtain ⟨v, r, rfl, h1, h2⟩ := h.cons_inv
    exact Reps.cons h1 (Reps.set i h2 k)
theorem Reps.take {H : Hp} : ∀ {ds : List D} {vs : List V} (n : Nat), Reps H ds vs → Reps H (ds.take n) (vs.take n)
  | _, _, 0, _ => by simpa using Reps.nil
  | [], _, _ + 1, h => by rw [h.nil_inv]; exact Reps.nil
  | d :: ds, _, n + 1, h => by
    obtain ⟨v, r, rfl, h1, h2⟩ := h.cons_inv
    exact Reps.cons h1 (Reps.take n h2)
theorem Reps.drop {H : Hp} : ∀ {ds : List D} {vs : List V} (n : Nat), Reps H ds vs → Reps H (ds.drop n) (vs.drop n)
  | _, _, 0, h => by simpa using h
  | [], _, _ + 1, h => by rw [h.nil_inv]; exact Reps.nil
  | d :: ds, _, n + 1, h => by
    obtain ⟨v, r, rfl, h1, h2⟩ := h.cons_inv
    exact Reps.drop n h2
theorem Reps.reverse {H : Hp} : ∀ {ds : List D} {vs : List V}, Reps H ds vs → Reps H ds.reverse vs.reverse
  | [], _, h => by rw [h.nil_inv]; exact Reps.nil
  | d :: ds, _, h => by
    obtain ⟨v, r, rfl, h1, h2⟩ := h.cons_inv
    rw [List.reverse_cons, List.reverse_cons]
    exact Reps.append (Reps.reverse h2) (Reps.cons h1 Reps.nil)

/-- a mutable object: a list, a read-only list, a dict (lk: while it is walked), an instance of the class at C -/
inductive MO where
  | lst (ds : List D)
  | fro (ds : List D)
  | dct (lk tk : Bool) (kvs : List (D × D))
  | ins (C : Addr) (fs : List (Str × D))

abbrev Sto := Addr → Option MO
def put (S : Sto) (a : Addr) (m : MO) : Sto := fun b => if b = a then some m else S b
theorem put_same {S : Sto} {a : Addr} {m : MO} : put S a m a = some m := by unfold put; rw [if_pos rfl]
theorem put_ne {S : Sto} {a b : Addr} {m : MO} (h : b ≠ a) : put S a m b = S b := by unfold put; rw [if_neg h]

/-- a flat key: an int or a text -/
def kD : Key → D
  | .inl i => .int i
  | .inr x => .str x
def kDs (ks : List Key) : D := .tup (ks.map kD)

def RepF (H : Hp) : List (Str × D) → List (Str × V) → Prop := Paired fun p q => p.1 = q.1 ∧ Rep H p.2 q.2
def RepT (H : Hp) : List (D × D) → List (List Key × V) → Prop := Paired fun p q => p.1 = kDs q.1 ∧ Rep H p.2 q.2
def RepK (H : Hp) : List (D × D) → List (Key × V) → Prop := Paired fun p q => p.1 = kD q.1 ∧ Rep H p.2 q.2

/-- the object at a, or what it is locked as -/
def At (lk : Bool) (H : Hp) (a : Addr) (u : HO) : Prop := match lk with
  | false => H a = some u
  | true => ∃ o, H a = some (.frz o u)

def MRep (H : Hp) (a : Addr) : MO → Prop
  | .lst ds => ∃ vs, H a = some (.lst vs) ∧ Reps H ds vs
  | .fro ds => ∃ o vs, H a = some (.frz o (.lst vs)) ∧ Reps H ds vs
  | .dct lk true kvs => ∃ kts, At lk H a (.dT kts) ∧ RepT H kvs kts
  | .dct lk false kvs => ∃ kks, At lk H a (.dK kks) ∧ RepK H kvs kks
  | .ins C fs => ∃ dx gs, H a = some (.ins C dx gs) ∧ RepF H fs gs

def SRep (S : Sto) (H : Hp) : Prop := ∀ a m, S a = some m → MRep H a m

theorem Paired.monoP {α β : Type} {F G : α → β → Prop} (f : ∀ a b, F a b → G a b) : ∀ {l₁ : List α} {l₂ : List β}, Paired F l₁ l₂ → Paired G l₁ l₂
  | _, _, .nil => .nil
  | _, _, .cons r t => .cons (f _ _ r) (Paired.monoP f t)
theorem RepF.mono {H H' : Hp} (t : Tm H H') {fs : List (Str × D)} {gs : List (Str × V)} (h : RepF H fs gs) : RepF H' fs gs := Paired.monoP (fun _ _ z => ⟨z.1, z.2.mono t⟩) h
theorem RepT.mono {H H' : Hp} (t : Tm H H') {fs : List (D × D)} {gs : List (List Key × V)} (h : RepT H fs gs) : RepT H' fs gs := Paired.monoP (fun _ _ z => ⟨z.1, z.2.mono t⟩) h
theorem RepK.mono {H H' : Hp} (t : Tm H H') {fs : List (D × D)} {gs : List (Key × V)} (h : RepK H fs gs) : RepK H' fs gs := Paired.monoP (fun _ _ z => ⟨z.1, z.2.mono t⟩) h

/-- the same object stands at a, tuples stay -/
theorem MRep.stay {H H' : Hp} {a : Addr} {m : MO} (h : MRep H a m) (t : Tm H H') (e : H' a = H a) : MRep H' a m := by
  cases m with
  | lst ds => obtain ⟨vs, h1, h2⟩ := h; exact ⟨vs, by rw [e]; exact h1, h2.mono t⟩
  | fro ds => obtain ⟨o, vs, h1, h2⟩ := h; exact ⟨o, vs, by rw [e]; exact h1, h2.mono t⟩
  | dct lk tk kvs =>
    have at_ : ∀ u, At lk H a u → At lk H' a u := fun u z => by
      cases lk with
      | false => exact e.trans z
      | true => obtain ⟨o, z⟩ := z; exact ⟨o, e.trans z⟩
    cases tk with
    | true => obtain ⟨k, h1, h2⟩ := h; exact ⟨k, at_ _ h1, h2.mono t⟩
    | false => obtain ⟨k, h1, h2⟩ := h; exact ⟨k, at_ _ h1, h2.mono t⟩
  | ins C fs => obtain ⟨dx, gs, h1, h2⟩ := h; exact ⟨dx, gs, by rw [e]; exact h1, h2.mono t⟩
theorem MRep.there {H : Hp} {a : Addr} {m : MO} (h : MRep H a m) : ∃ o, H a = some o ∧ ∀ xs, o ≠ .tup xs := by
  cases m with
  | lst ds => obtain ⟨vs, h1, h2⟩ := h; exact ⟨_, h1, fun _ z => nomatch z⟩
  | fro ds => obtain ⟨o, vs, h1, h2⟩ := h; exact ⟨_, h1, fun _ z => nomatch z⟩
  | dct lk tk kvs =>
    cases tk <;> obtain ⟨k, h1, h2⟩ := h <;> cases lk
    · exact ⟨_, h1, fun _ z => nomatch z⟩
    · obtain ⟨o, h1⟩ := h1; exact ⟨_, h1, fun _ z => nomatch z⟩
    · exact ⟨_, h1, fun _ z => nomatch z⟩
    · obtain ⟨o, h1⟩ := h1; exact ⟨_, h1, fun _ z => nomatch z⟩
  | ins C fs => obtain ⟨dx, gs, h1, h2⟩ := h; exact ⟨_, h1, fun _ z => nomatch z⟩
theorem SRep.free {S : Sto} {H : Hp} (h : SRep S H) {p : Addr} (n : H p = none) : S p = none := by
  cases e : S p with
  | none => rfl
  | some m =>
    obtain ⟨o, h1, _⟩ := (h p m e).there
    rw [n] at h1; cases h1
theorem SRep.notup {S : Sto} {H : Hp} (h : SRep S H) {p : Addr} {xs : List V} (e : H p = some (.tup xs)) : S p = none := by
  cases q : S p with
  | none => rfl
  | some m =>
    obtain ⟨o, h1, h2⟩ := (h p m q).there
    rw [e] at h1; cases h1
    exact absurd rfl (h2 xs)
/-- all that is tracked stays -/
theorem SRep.same {S : Sto} {H H' : Hp} (h : SRep S H) (s : Same H H') : SRep S H' := fun a m e => by
  obtain ⟨o, h1, _⟩ := (h a m e).there
  exact (h a m e).stay (fun b xs q => s _ _ q) (by rw [h1]; exact s _ _ h1)
theorem Same.tm {H H' : Hp} (s : Same H H') : Tm H H' := fun _ _ h => s _ _ h
theorem Same.upd {H : Hp} {p : Addr} {o : HO} (n : H p = none) : Same H (upd H p o) := fun b u e => by rw [upd_ne (ne_of_none e n)]; exact e
/-- a new tuple -/
theorem SRep.newTup {S : Sto} {H : Hp} {p : Addr} {o : HO} (h : SRep S H) (n : H p = none) : SRep S (L2.upd H p o) := h.same (Same.upd n)
/-- a new object -/
theorem SRep.new {S : Sto} {H : Hp} {p : Addr} {o : HO} {m : MO} (h : SRep S H) (n : H p = none) (r : MRep (L2.upd H p o) p m) : SRep (put S p m) (L2.upd H p o) := fun a u e => by
  by_cases q : a = p
  · subst q; rw [put_same] at e; cases e; exact r
  · rw [put_ne q] at e; exact (h.same (Same.upd n)) a u e
/-- a written object -/
theorem SRep.write {S : Sto} {H : Hp} {p : Addr} {o u : HO} {m : MO} (h : SRep S H) (e : H p = some u) (n : ∀ xs, u ≠ .tup xs) (r : MRep (L2.upd H p o) p m) : SRep (put S p m) (L2.upd H p o) := fun a x q => by
  by_cases z : a = p
  · subst z; rw [put_same] at q; cases q; exact r
  · rw [put_ne z] at q
    exact (h a x q).stay (Tm.upd_mut e n) (upd_ne z)

/-! ### frames -/
abbrev Env' := List (Option D)
structure Rr (ρ : Env') (S : Sto) (σ : L2.St) (H : Hp) : Prop where
  len : ρ.length = σ.length
  at_ : ∀ (i : Nat) (d : D), ρ[i]? = some (some d) → ∃ v, σ[i]? = some (some v) ∧ Rep H d v
  st : SRep S H
theorem Rr.mono {ρ : Env'} {S S' : Sto} {σ : L2.St} {H H' : Hp} (r : Rr ρ S σ H) (t : Tm H H') (s : SRep S' H') : Rr ρ S' σ H' :=
  ⟨r.len, fun i d e => let ⟨v, h1, h2⟩ := r.at_ i d e; ⟨v, h1, h2.mono t⟩, s⟩
theorem Rr.set {ρ : Env'} {S : Sto} {σ : L2.St} {H : Hp} (r : Rr ρ S σ H) (i : Nat) {d : D} {v : V} (h : Rep H d v) : Rr (ρ.set i (some d)) S (σ.set i (some v)) H := by
  refine ⟨by simp [r.len], fun j x e => ?_, r.st⟩
  by_cases q : j = i
  · subst q
    by_cases hl : j < ρ.length
    · rw [List.getElem?_set_self hl] at e
      cases e
      exact ⟨v, List.getElem?_set_self (by rw [← r.len]; exact hl), h⟩
    · rw [List.getElem?_eq_none (by simpa using hl)] at e; cases e
  · rw [List.getElem?_set_ne (Ne.symm q)] at e ⊢
    exact r.at_ j x e
/-- fewer slots known -/
def Less (ρ' ρ : Env') : Prop := ρ'.length = ρ.length ∧ ∀ (i : Nat) (d : D), ρ'[i]? = some (some d) → ρ[i]? = some (some d)
theorem Rr.less {ρ ρ' : Env'} {S : Sto} {σ : L2.St} {H : Hp} (r : Rr ρ S σ H) (l : Less ρ' ρ) : Rr ρ' S σ H := ⟨l.1.trans r.len, fun i d e => r.at_ i d (l.2 i d e), r.st⟩

/-- what tuples alone bear -/
structure TP where
  p : Hp → Prop
  mono : ∀ {H H' : Hp}, Tm H H' → p H → p H'
def TP.any : TP := ⟨fun _ => True, fun _ _ => trivial⟩
def TP.since (H0 : Hp) : TP := ⟨fun H => Tm H0 H, fun t h => h.trans t⟩
def TP.and (a b : TP) : TP := ⟨fun H => a.p H ∧ b.p H, fun t h => ⟨a.mono t h.1, b.mono t h.2⟩⟩
def TP.hold (a : TP) (d : D) (u : Value) : TP := ⟨fun H => a.p H ∧ ∃ v, RelV v u ∧ Rep H d v, fun t h => ⟨a.mono t h.1, let ⟨v, h1, h2⟩ := h.2; ⟨v, h1, h2.mono t⟩⟩⟩
def TP.holds (a : TP) (ds : List D) (us : List Value) : TP := ⟨fun H => a.p H ∧ ∃ vs, Vals vs us ∧ Reps H ds vs, fun t h => ⟨a.mono t h.1, let ⟨v, h1, h2⟩ := h.2; ⟨v, h1, h2.mono t⟩⟩⟩

/-- THE INVARIANT -/
def DI (X : Cx) (pins : List (Addr × Obj)) (ρ : Env') (S : Sto) (Φ : TP) (s : Shared) : Prop := ∃ σ H, Inv X pins σ H s ∧ Rr ρ S σ H ∧ Φ.p H
end DL

/-! DL1: the small language and what its terms ask (weakest preconditions). -/
namespace DL
open PySem PySem.Spec PyProof.Rows L2

/-- methods of built-in types; built-in functions -/
inductive Bm where
  | append | extend | popL | popAt | insert | remove | index | count | reverse | clear
  | dget1 | dget2 | dpop1 | dpop2 | setdefault | items | values | update
  | join | split | strip | startswith | endswith
inductive Bf where
  | len | sorted | list | tuple | set | dict0 | dict | min1 | min2 | min4 | max1 | max2 | abs | int | str | divmod | all | any
inductive Tg where
  | nm (i : Nat)
  | tup (ts : List Tg)
inductive Ex where
  | var (i : Nat)
  | cst (d : D)
  | glo (x : Str)
  | fld (e : Ex) (f : Str)
  | tup (es : List Ex)
  | lst (es : List Ex)
  | dnew
  | dct (es : List Ex) (tk : Bool)
  | bin (op : Operator) (a b : Ex)
  | neg (a : Ex)
  | inv (a : Ex)
  | cmp (op : CmpOp) (a b : Ex)
  | cmp2 (op op' : CmpOp) (a b c : Ex)
  | andE (a b : Ex)
  | orE (a b : Ex)
  | notE (a : Ex)
  | ite (c a b : Ex)
  | sub (a i : Ex)
  | slc (a : Ex) (lo hi : Option Ex)
  | rev (a : Ex)
  | call (f : Str) (es : List Ex)
  | mk (C : Str) (es : List Ex)
  | bf (f : Bf) (es : List Ex)
  | isi (e : Ex) (n : String)
  | isx (e : Ex) (C : Str)
  | meth (e : Ex) (m : Str) (es : List Ex)
  | bm (m : Bm) (e : Ex) (es : List Ex)
  | range1 (a : Ex)
  | range2 (a b : Ex)
  | range3 (a b c : Ex)
  | enum (a : Ex)
  | zip (a b : Ex)
  | revd (a : Ex)
  | comp (elt : Ex) (own : List Nat) (t : Tg) (it : Ex) (ifs : List Ex)
  | sset (a : Ex)
  | lset (a : Ex)
  | alt (a b : Ex)
  | fstr (es : List Ex)
  | lrg (a : Ex)
  | nev
inductive Sm where
  | expr (e : Ex)
  | asg (t : Tg) (e : Ex)
  | par2 (i j : Nat) (a b : Ex)
  | setFld (o : Ex) (f : Str) (e : Ex)
  | setSub (o i e : Ex)
  | ret (e : Ex)
  | retN
  | ifs (c : Ex) (a b : List Sm)
  | for (t : Tg) (it : Ex) (body : List Sm)
  | while (c : Ex) (body : List Sm)
  | raise (x : Str)
  | try (body : List Sm) (x : Str) (i : Option Nat) (suite : List Sm)
  | pass
  | brk
  | cont
  | nev

abbrev Kt := D → Sto → Prop
abbrev KtE := Str → Sto → Prop
abbrev FSpec := List D → Sto → Kt → KtE → Prop
/-- a def: its promise, how many parameters, the defaults -/
structure FE where
  sp : FSpec
  np : Nat
  df : List D := []
structure GE where
  val : Str → Option D
  fn : Str → Option FE
  /-- class by name: its address, its __init__ -/
  cls : Str → Option (Addr × Option FE)
  /-- methods: class address, name -/
  mth : Addr → Str → Option FE
  /-- an attribute name that no class has -/
  att : Addr → Str → Bool
  /-- exception classes: is the one under the other -/
  exc : Str → Str → Option Bool
  /-- exception classes that are raised by name -/
  rse : Str → Bool
  /-- in an except suite: where the exception stands, its class -/
  exv : Option (Addr × Str) := none

def fill (fe : FE) (ds : List D) : Option (List D) := if ds.length ≤ fe.np ∧ fe.np - ds.length ≤ fe.df.length then some (ds ++ fe.df.drop (fe.df.length - (fe.np - ds.length))) else none
def wCall (fe : FE) (ds : List D) (S : Sto) (K : Kt) (X : KtE) : Prop := match fill fe ds with
  | some es => fe.sp es S K X
  | none => False

/-- a new object -/
def wNew (m : MO) (S : Sto) (K : Kt) : Prop := ∀ p, S p = none → K (.ref p) (put S p m)

/-- data, lists read out of the store -/
def pdl (f : D → Option PyData) : List D → Option (List PyData)
  | [] => some []
  | d :: ds => match f d, pdl f ds with
    | some x, some xs => some (x :: xs)
    | _, _ => none
/-- a list that may be read -/
def lstAt (S : Sto) (a : Addr) : Option (List D) := match S a with
  | some (.lst ds) => some ds
  | some (.fro ds) => some ds
  | _ => none
def pd : Nat → Sto → D → Option PyData
  | 0, _, _ => none
  | n + 1, S, d => match d with
    | .non => some .none
    | .bl b => some (.bool b)
    | .int i => some (.int i)
    | .str x => some (.str x)
    | .tup ds => (pdl (pd n S) ds).map .tuple
    | .ref a => match lstAt S a with
      | some ds => (pdl (pd n S) ds).map .list
      | none => none
    | .ty _ => none
/-- == of data at any depth -/
def wEqD (x y : D) (S : Sto) (K : Bool → Prop) : Prop := ∃ p q, pd 8 S x = some p ∧ pd 8 S y = some q ∧ SeqAt.shaped p = true ∧ SeqAt.shaped q = true ∧ K (PyData.eqv p q)
/-- == -/
def wEq (x y : D) (S : Sto) (K : Bool → Prop) : Prop := match x, y with
  | .int i, .int j => K (decide (i = j))
  | .str i, .str j => K (decide (i = j))
  | .bl i, .bl j => K (decide (i = j))
  | .non, .non => K true
  | .non, .int _ => K false
  | .int _, .non => K false
  | .non, .str _ => K false
  | .str _, .non => K false
  | x, y => wEqD x y S K
def lexD : List Int → List Int → Bool
  | _, [] => false
  | [], _ :: _ => true
  | a :: as, b :: bs => if a = b then lexD as bs else decide (a < b)
def wLt (x y : D) (K : Bool → Prop) : Prop := match x, y with
  | .int i, .int j => K (decide (i < j))
  | .tup ds, .tup es => ∃ ns ms : List Int, ds = ns.map D.int ∧ es = ms.map D.int ∧ K (HT.lexLt ns ms)
  | _, _ => False
def wLe (x y : D) (K : Bool → Prop) : Prop := match x, y with
  | .int i, .int j => K (decide (i ≤ j))
  | _, _ => False
/-- what may be a key: of texts and numbers; of tuples of such -/
def keyK : D → Option Key
  | .int i => some (.inl i)
  | .str x => some (.inr x)
  | _ => none
def keyKs : List D → Option (List Key)
  | [] => some []
  | d :: ds => match keyK d, keyKs ds with
    | some k, some ks => some (k :: ks)
    | _, _ => none
def keyT : D → Option (List Key)
  | .tup ds => keyKs ds
  | _ => none
def keyOk (tk : Bool) (d : D) : Bool := if tk then (keyT d).isSome else (keyK d).isSome
def dget (kvs : List (D × D)) (k : D) : Option D := (kvs.find? fun p => decide (p.1 = k)).map (·.2)
def dput (kvs : List (D × D)) (k v : D) : List (D × D) := if (kvs.any fun p => decide (p.1 = k)) = true then kvs.map (fun p => if p.1 = k then (p.1, v) else p) else kvs ++ [(k, v)]
def ddrop (kvs : List (D × D)) (k : D) : List (D × D) := kvs.filter fun p => decide (p.1 ≠ k)
/-- a display's pairs -/
def pairsD (tk : Bool) : List D → Option (List (D × D))
  | [] => some []
  | k :: v :: r => match keyOk tk k, pairsD tk r with
    | true, some ps => some ((k, v) :: ps)
    | _, _ => none
  | _ => none
def flatD : D → Bool
  | .non => true
  | .bl _ => true
  | .int _ => true
  | .str _ => true
  | _ => false
/-- == of flat things -/
def eqF : D → D → Bool
  | .non, .non => true
  | .bl a, .bl b => a == b
  | .bl a, .int b => (if a then 1 else 0) == b
  | .int a, .bl b => a == (if b then 1 else 0)
  | .int a, .int b => a == b
  | .str a, .str b => a == b
  | _, _ => false
def wGt (x y : D) (K : Bool → Prop) : Prop := match x, y with
  | .int i, .int j => K (decide (j < i))
  | _, _ => False
def wIn (x y : D) (S : Sto) (K : Bool → Prop) : Prop := match y with
  | .str z => ∃ c : Nat, x = .str ⟨#[c]⟩ ∧ K (decide (c ∈ z.cps.toList))
  | .tup ds => flatD x = true ∧ ds.all flatD = true ∧ K (ds.any fun y => eqF y x)
  | .ref a => match S a with
    | some (.dct _ tk kvs) => keyOk tk x = true ∧ K (dget kvs x).isSome
    | _ => match lstAt S a with
      | some ds => (flatD x = true ∧ ds.all flatD = true ∧ K (ds.any fun y => eqF y x)) ∨
          ∃ p qs, pd 8 S x = some p ∧ pdl (pd 7 S) ds = some qs ∧ SeqAt.shaped p = true ∧ SeqAt.shaped (.list qs) = true ∧ K (qs.any fun z => PyData.eqv z p)
      | none => False
  | _ => False
def wCmp (op : CmpOp) (x y : D) (S : Sto) (K : Bool → Prop) : Prop := match op with
  | .Eq => wEq x y S K
  | .NotEq => wEq x y S fun b => K (!b)
  | .Lt => wLt x y K
  | .LtE => wLe x y K
  | .Gt => wGt x y K
  | .GtE => wLe y x K
  | .Is => y = .non ∧ K (decide (x = .non))
  | .IsNot => y = .non ∧ K (!decide (x = .non))
  | .In => wIn x y S K
  | .NotIn => wIn x y S fun b => K (!b)
/-- truth -/
def tv (d : D) (S : Sto) : Option Bool := match d with
  | .non => some false
  | .bl b => some b
  | .int i => some (i != 0)
  | .str x => if x.length ≤ sizeLine then some ((x.length : Int) != 0) else none
  | .tup ds => some (!ds.isEmpty)
  | .ref a => (lstAt S a).map fun ds => !ds.isEmpty
  | .ty _ => none
def wTru (d : D) (S : Sto) (K : Bool → Prop) : Prop := match tv d S with
  | some t => K t
  | none => False
/-- the place that an index means -/
def atD {α : Type} (xs : List α) (i : Int) : Option α := L2.atI xs i
/-- a text n times -/
def strMul (x : Str) (n : Int) : Str := if n < 1 then Str.empty else if (n == 1 || x.length == 0) = true then x else ⟨(List.replicate n.toNat x.cps).foldl (· ++ ·) #[]⟩
def wBin (op : Operator) (x y : D) (S : Sto) (K : Kt) : Prop := match op, x, y with
  | .Add, .int i, .int j => K (.int (i + j)) S
  | .Sub, .int i, .int j => K (.int (i - j)) S
  | .Mult, .int i, .int j => (CMul i j ∨ CMulW i j) ∧ K (.int (i * j)) S
  | .FloorDiv, .int i, .int j => CDivW i j ∧ K (.int (i / j)) S
  | .Mod, .int i, .int j => 0 < j ∧ K (.int (i % j)) S
  | .Pow, .int i, .int j => CPow i j ∧ K (.int (i ^ j.toNat)) S
  | .LShift, .int i, .int j => CPow i j ∧ K (.int (i * 2 ^ j.toNat)) S
  | .RShift, .int i, .int j => 0 ≤ j ∧ K (.int (i / 2 ^ j.toNat)) S
  | .BitAnd, .int i, .int j => K (.int (Builtin.bitAnd i j)) S
  | .BitOr, .int i, .int j => K (.int (Builtin.bitOr i j)) S
  | .Add, .str a, .str b => a.length + b.length ≤ sizeLine ∧ K (.str (a ++ b)) S
  | .Add, .tup a, .tup b => a ≠ [] ∧ b ≠ [] ∧ a.length + b.length ≤ sizeLine ∧ K (.tup (a ++ b)) S
  | .Add, .ref a, .ref b => match S a, S b with
    | some (.lst xs), some (.lst ys) => xs.length + ys.length ≤ sizeLine ∧ wNew (.lst (xs ++ ys)) S K
    | _, _ => False
  | .Mult, .str x, .int n => 0 ≤ n ∧ n ≤ 1000000 ∧ x.length * n.toNat ≤ 1000000 ∧ (strMul x n).length ≤ 1000000 ∧ K (.str (strMul x n)) S
  | .Mult, .ref a, .int k => match S a with
    | some (.lst xs) => -(2 ^ 63) ≤ k ∧ k < 2 ^ 63 ∧ xs.length * k.toNat ≤ sizeLine ∧ wNew (.lst (List.replicate k.toNat xs).flatten) S K
    | _ => False
  | _, _, _ => False
def wSub (x i : D) (S : Sto) (K : Kt) : Prop := match x with
  | .tup ds => ∃ k d, i = .int k ∧ L2.atI ds k = some d ∧ K d S
  | .str z => ∃ k c, i = .int k ∧ z.length ≤ sizeLine ∧ L2.atI z.cps.toList k = some c ∧ K (.str ⟨#[c]⟩) S
  | .ref a => match S a with
    | some (.dct _ tk kvs) => keyOk tk i = true ∧ ∃ d, dget kvs i = some d ∧ K d S
    | _ => ∃ ds k d, lstAt S a = some ds ∧ i = .int k ∧ L2.atI ds k = some d ∧ K d S
  | _ => False
def cutD {α : Type} (xs : List α) (lo hi : Option Int) : List α := (xs.drop (HT.sIx xs.length 0 lo)).take (HT.sIx xs.length xs.length hi - HT.sIx xs.length 0 lo)
def wSlc (x : D) (lo hi : Option Int) (S : Sto) (K : Kt) : Prop := match x with
  | .ref a => match lstAt S a with
    | some ds => wNew (.lst (cutD ds lo hi)) S K
    | none => False
  | .str z => z.length ≤ sizeLine ∧ K (.str (cutS z lo hi)) S
  | .tup ds => (cutD ds lo hi).length ≠ ds.length ∧ K (.tup (cutD ds lo hi)) S
  | _ => False
/-- the order of data -/
def leS (S : Sto) (x y : D) : Bool := match pd 8 S x, pd 8 S y with
  | some p, some q => PySem.W.dataLe false id p q
  | _, _ => true
def wSorted (ds : List D) (S : Sto) (K : Kt) : Prop := ∃ ps, pdl (pd 8 S) ds = some ps ∧ PySem.W.AllAlike ps ∧ PySem.W.Sortable ps ∧ ds.length ≤ sizeLine ∧ (∀ p ∈ ps, p.depth ≤ 16) ∧ wNew (.lst (ds.mergeSort (leS S))) S K
def wBf (f : Bf) (ds : List D) (S : Sto) (K : Kt) : Prop := match f, ds with
  | .len, [.tup ds] => K (.int ds.length) S
  | .len, [.str x] => x.length ≤ sizeLine ∧ K (.int x.length) S
  | .len, [.ref a] => match lstAt S a with
    | some ds => K (.int ds.length) S
    | none => False
  | .abs, [.int i] => K (.int (if i < 0 then -i else i)) S
  | .int, [.int i] => K (.int i) S
  | .int, [.bl b] => K (.int (if b then 1 else 0)) S
  | .int, [.str x] => ∃ n, PySem.intText? x = some n ∧ x.length ≤ 640 ∧ K (.int n) S
  | .str, [.int i] => i.natAbs.log2 < 1920 ∧ K (.str (toString i)) S
  | .min2, [.int i, .int j] => K (.int (if j < i then j else i)) S
  | .max2, [.int i, .int j] => K (.int (if j > i then j else i)) S
  | .divmod, [.int i, .int j] => CDiv i j ∧ K (.tup [.int (i / j), .int (i % j)]) S
  | .list, [.tup ds] => wNew (.lst ds) S K
  | .list, [.ref a] => match lstAt S a with
    | some ds => wNew (.lst ds) S K
    | none => False
  | .tuple, [.tup ds] => K (.tup ds) S
  | .tuple, [.ref a] => match lstAt S a with
    | some ds => K (.tup ds) S
    | none => False
  | .all, [.ref a] => ∃ bs : List Bool, lstAt S a = some (bs.map D.bl) ∧ K (.bl (bs.all id)) S
  | .any, [.ref a] => ∃ bs : List Bool, lstAt S a = some (bs.map D.bl) ∧ K (.bl (bs.any id)) S
  | .sorted, [.ref a] => match lstAt S a with
    | some ds => wSorted ds S K
    | none => match S a with
      | some (.dct _ true kvs) => wSorted (kvs.map (·.1)) S K
      | _ => False
  | _, _ => False
def wBm (m : Bm) (x : D) (ds : List D) (S : Sto) (K : Kt) : Prop := match m, x, ds with
  | .append, .ref a, [d] => match S a with
    | some (.lst xs) => xs.length < sizeLine ∧ K .non (put S a (.lst (xs ++ [d])))
    | _ => False
  | .extend, .ref a, [.ref b] => match S a, S b with
    | some (.lst xs), some (.lst ys) => xs.length + ys.length ≤ sizeLine ∧ K .non (put S a (.lst (xs ++ ys)))
    | _, _ => False
  | .popL, .ref a, [] => match S a with
    | some (.lst xs) => ∃ d, xs[xs.length - 1]? = some d ∧ K d (put S a (.lst xs.dropLast))
    | _ => False
  | .popAt, .ref a, [.int i] => match S a with
    | some (.lst xs) => ∃ j d, L2.ixN xs.length i = some j ∧ xs.length ≤ sizeLine ∧ xs[j]? = some d ∧ K d (put S a (.lst (xs.eraseIdx j)))
    | _ => False
  | .insert, .ref a, [.int i, d] => match S a with
    | some (.lst xs) => xs.length < sizeLine ∧ 0 ≤ i ∧ i < 2 ^ 63 ∧ K .non (put S a (.lst (xs.take i.toNat ++ [d] ++ xs.drop i.toNat)))
    | _ => False
  | .reverse, .ref a, [] => match S a with
    | some (.lst xs) => K .non (put S a (.lst xs.reverse))
    | _ => False
  | .clear, .ref a, [] => match S a with
    | some (.lst _) => K .non (put S a (.lst []))
    | _ => False
  | .dget1, .ref a, [k] => match S a with
    | some (.dct _ tk kvs) => keyOk tk k = true ∧ K ((dget kvs k).getD .non) S
    | _ => False
  | .dget2, .ref a, [k, d] => match S a with
    | some (.dct _ tk kvs) => keyOk tk k = true ∧ K ((dget kvs k).getD d) S
    | _ => False
  | .index, .ref a, [x] => match lstAt S a with
    | some xs => flatD x = true ∧ xs.all flatD = true ∧ ∃ (j : Nat) (z : D), xs[j]? = some z ∧ eqF z x = true ∧ (∀ (m : Nat) (z' : D), m < j → xs[m]? = some z' → eqF z' x = false) ∧ K (.int (j : Nat)) S
    | none => False
  | .count, .ref a, [x] => match lstAt S a with
    | some xs => flatD x = true ∧ xs.all flatD = true ∧ K (.int (xs.countP (fun z => eqF z x) : Nat)) S
    | none => False
  | .dpop1, .ref a, [k] => match S a with
    | some (.dct false false kvs) => (keyK k).isSome = true ∧ ∃ d, dget kvs k = some d ∧ K d (put S a (.dct false false (ddrop kvs k)))
    | _ => False
  | .setdefault, .ref a, [k, x] => match S a with
    | some (.dct false false kvs) => (keyK k).isSome = true ∧ kvs.length < sizeLine ∧ match dget kvs k with
      | some d => K d S
      | none => K x (put S a (.dct false false (dput kvs k x)))
    | _ => False
  | .join, .str a, [.ref p] => ∃ ys : List Str, lstAt S p = some (ys.map D.str) ∧ (ys.map (·.length)).sum + ys.length * a.length ≤ 16777216 ∧ K (.str (Txt.join a ys)) S
  | .split, .str a, [.str b] => (b.length == 0) = false ∧ a.length + 2 ≤ sizeLine ∧ wNew (.lst ((Txt.split a b).map D.str)) S K
  | .strip, .str a, [.str b] => a.length ≤ sizeLine ∧ K (.str (Txt.stripChars a b)) S
  | .startswith, .str a, [.str b] => K (.bl (Txt.startswith a b)) S
  | .endswith, .str a, [.str b] => K (.bl (Txt.endswith a b)) S
  | _, _, _ => False
inductive BT where
  | list | dict | str
deriving DecidableEq
def mT : Bm → BT
  | .append => .list
  | .extend => .list
  | .popL => .list
  | .popAt => .list
  | .insert => .list
  | .remove => .list
  | .index => .list
  | .count => .list
  | .reverse => .list
  | .clear => .list
  | .dget1 => .dict
  | .dget2 => .dict
  | .dpop1 => .dict
  | .dpop2 => .dict
  | .setdefault => .dict
  | .items => .dict
  | .values => .dict
  | .update => .dict
  | .join => .str
  | .split => .str
  | .strip => .str
  | .startswith => .str
  | .endswith => .str
def bty (d : D) (S : Sto) : Option BT := match d with
  | .str _ => some .str
  | .ref a => match S a with
    | some (.lst _) => some .list
    | some (.fro _) => some .list
    | some (.dct false _ _) => some .dict
    | _ => none
  | _ => none
/-- the type of a thing -/
def tyOf (d : D) (S : Sto) : Option String := match d with
  | .non => some "NoneType"
  | .bl _ => some "bool"
  | .int _ => some "int"
  | .str _ => some "str"
  | .tup _ => some "tuple"
  | .ref a => match S a with
    | some (.lst _) => some "list"
    | some (.fro _) => some "list"
    | some (.dct false _ _) => some "dict"
    | _ => none
  | .ty _ => none
def isTy (t : String) (c : String) : Bool := t == c || (t == "bool" && c == "int")
/-- what is walked: the items, and what has to stay -/
abbrev KtI := List D → (Sto → Prop) → Sto → Prop
def rangeD (lo : Int) (n : Nat) : List D := (List.range n).map fun (k : Nat) => D.int (lo + k)
def wIter (x : D) (S : Sto) (K : KtI) : Prop := match x with
  | .tup ds => K ds (fun _ => True) S
  | .str z => K (z.cps.toList.map fun c => D.str ⟨#[c]⟩) (fun _ => True) S
  | .ref a => match lstAt S a with
    | some ds => K ds (fun S' => lstAt S' a = some ds) S
    | none => False
  | _ => False
def rgOk (i : Int) : Prop := -(2 ^ 62) ≤ i ∧ i < 2 ^ 62
def enumD : Nat → List D → List D
  | _, [] => []
  | n, d :: ds => .tup [.int n, d] :: enumD (n + 1) ds
def zipD : List D → List D → List D
  | a :: as, b :: bs => .tup [a, b] :: zipD as bs
  | _, _ => []
mutual
def wTg : Tg → D → Env' → (Env' → Prop) → Prop
  | .nm i, d, ρ, K => K (ρ.set i (some d))
  | .tup ts, d, ρ, K => match d with
    | .tup ds => ds.length = ts.length ∧ wTgs ts ds ρ K
    | _ => False
def wTgs : List Tg → List D → Env' → (Env' → Prop) → Prop
  | [], ds, ρ, K => ds = [] ∧ K ρ
  | t :: ts, ds, ρ, K => match ds with
    | d :: r => wTg t d ρ fun ρ' => wTgs ts r ρ' K
    | [] => False
end
/-- the turns of a comprehension: acc stands at p -/
def wComp (stays : Sto → Prop) (p : Addr) (turn : D → Sto → (Option D → Sto → Prop) → Prop) (K : Sto → Prop) : List D → List D → Sto → Prop
  | [], _, S => stays S ∧ K S
  | d :: ds, acc, S => stays S ∧ turn d S fun o S' => match o with
    | some y => S' p = some (.lst acc) ∧ acc.length < sizeLine ∧ wComp stays p turn K ds (acc ++ [y]) (put S' p (.lst (acc ++ [y])))
    | none => S' p = some (.lst acc) ∧ wComp stays p turn K ds acc S'
def wipeD (ρ : Env') : List Nat → Env'
  | [] => ρ
  | v :: vs => (wipeD ρ vs).set v none
section
variable (Γ : GE)
mutual
def wE : Ex → Env' → Sto → Kt → KtE → Prop
  | .var i, ρ, S, K, _ => match ρ[i]? with
    | some (some d) => K d S
    | _ => False
  | .cst d, _, S, K, _ => K d S
  | .glo x, _, S, K, _ => match Γ.val x with
    | some d => K d S
    | none => False
  | .fld e f, ρ, S, K, X => wE e ρ S (fun d S1 => match d with
    | .ref a => match S1 a with
      | some (.ins C fs) => Γ.att C f = true ∧ match fs.lookup f with
        | some v => K v S1
        | none => False
      | _ => False
    | _ => False) X
  | .tup es, ρ, S, K, X => wEs es ρ S (fun ds S1 => ds.length ≤ sizeLine ∧ K (.tup ds) S1) X
  | .lst es, ρ, S, K, X => wEs es ρ S (fun ds S1 => ds.length ≤ sizeLine ∧ wNew (.lst ds) S1 K) X
  | .dnew, _, S, K, _ => wNew (.dct false true []) S K ∨ wNew (.dct false false []) S K
  | .dct es tk, ρ, S, K, X => ∀ p, S p = none → wEs es ρ (put S p (.dct false tk [])) (fun ds S1 => S1 p = some (.dct false tk []) ∧ match pairsD tk ds with
    | some kvs => kvs.length ≤ 15 ∧ K (.ref p) (put S1 p (.dct false tk (kvs.foldl (fun acc q => dput acc q.1 q.2) [])))
    | none => False) X
  | .bin op a b, ρ, S, K, X => wE a ρ S (fun x S1 => wE b ρ S1 (fun y S2 => wBin op x y S2 K) X) X
  | .neg a, ρ, S, K, X => wE a ρ S (fun x S1 => match x with
    | .int i => K (.int (-i)) S1
    | _ => False) X
  | .inv a, ρ, S, K, X => wE a ρ S (fun x S1 => match x with
    | .int i => K (.int (Builtin.bitNot i)) S1
    | _ => False) X
  | .cmp op a b, ρ, S, K, X => wE a ρ S (fun x S1 => wE b ρ S1 (fun y S2 => wCmp op x y S2 fun t => K (.bl t) S2) X) X
  | .cmp2 op op' a b c, ρ, S, K, X => wE a ρ S (fun x S1 => wE b ρ S1 (fun y S2 => wCmp op x y S2 fun t => if t = true then wE c ρ S2 (fun z S3 => wCmp op' y z S3 fun t => K (.bl t) S3) X else K (.bl false) S2) X) X
  | .andE a b, ρ, S, K, X => wE a ρ S (fun x S1 => wTru x S1 fun t => if t = true then wE b ρ S1 K X else K x S1) X
  | .orE a b, ρ, S, K, X => wE a ρ S (fun x S1 => wTru x S1 fun t => if t = true then K x S1 else wE b ρ S1 K X) X
  | .notE a, ρ, S, K, X => wE a ρ S (fun x S1 => wTru x S1 fun t => K (.bl (!t)) S1) X
  | .ite c a b, ρ, S, K, X => wE c ρ S (fun x S1 => wTru x S1 fun t => if t = true then wE a ρ S1 K X else wE b ρ S1 K X) X
  | .sub a i, ρ, S, K, X => wE a ρ S (fun x S1 => wE i ρ S1 (fun y S2 => wSub x y S2 K) X) X
  | .slc a lo hi, ρ, S, K, X => wE a ρ S (fun x S1 => wO lo ρ S1 (fun l S2 => wO hi ρ S2 (fun h S3 => wSlc x l h S3 K) X) X) X
  | .rev a, ρ, S, K, X => wE a ρ S (fun x S1 => match x with
    | .ref a => match lstAt S1 a with
      | some ds => wNew (.lst ds.reverse) S1 K
      | none => False
    | _ => False) X
  | .call f es, ρ, S, K, X => match Γ.fn f with
    | some fe => wEs es ρ S (fun ds S1 => wCall fe ds S1 K X) X
    | none => False
  | .mk c es, ρ, S, K, X => match Γ.cls c with
    | some (C, some fe) => wEs es ρ S (fun ds S1 => ∀ p, S1 p = none → wCall fe (.ref p :: ds) (put S1 p (.ins C [])) (fun v S2 => v = .non ∧ K (.ref p) S2) X) X
    | _ => False
  | .bf f es, ρ, S, K, X => wEs es ρ S (fun ds S1 => wBf f ds S1 K) X
  | .isi e n, ρ, S, K, X => wE e ρ S (fun d S1 => match tyOf d S1 with
    | some t => K (.bl (isTy t n)) S1
    | none => False) X
  | .isx e n, ρ, S, K, X => wE e ρ S (fun d S1 => match d, Γ.exv with
    | .ref a, some (a', x) => a = a' ∧ match Γ.exc x n with
      | some b => K (.bl b) S1
      | none => False
    | _, _ => False) X
  | .meth e m es, ρ, S, K, X => wE e ρ S (fun d S1 => match d with
    | .ref a => match S1 a with
      | some (.ins C fs) => match Γ.mth C m with
        | some fe => fs.lookup m = none ∧ wEs es ρ S1 (fun ds S2 => wCall fe (d :: ds) S2 K X) X
        | none => False
      | _ => False
    | _ => False) X
  | .bm m e es, ρ, S, K, X => wE e ρ S (fun d S1 => bty d S1 = some (mT m) ∧ wEs es ρ S1 (fun ds S2 => wBm m d ds S2 K) X) X
  | .range1 _, _, _, _, _ => False
  | .range2 _ _, _, _, _, _ => False
  | .range3 _ _ _, _, _, _, _ => False
  | .enum _, _, _, _, _ => False
  | .zip _ _, _, _, _, _ => False
  | .revd _, _, _, _, _ => False
  | .comp elt own t it ifs, ρ, S, K, X => wI it ρ S (fun items stays S1 => ∀ p, S1 p = none →
      wComp stays p (fun d S2 R => wTg t d (wipeD ρ own) fun ρ' => wIfs ifs ρ' S2 (fun b S3 => if b = true then wE elt ρ' S3 (fun y S4 => R (some y) S4) (fun _ _ => False) else R none S3)) (fun S2 => K (.ref p) S2) items [] (put S1 p (.lst []))) X
  | .sset _, _, _, _, _ => False
  | .lset _, _, _, _, _ => False
  | .alt a b, ρ, S, K, X => wE a ρ S K X ∨ wE b ρ S K X
  | .fstr _, _, _, _, _ => False
  | .lrg a, ρ, S, K, X => wE a ρ S (fun x S1 => match x with
    | .int j => j ≤ 16777216 ∧ 0 ≤ j ∧ wNew (.lst (rangeD 0 j.toNat)) S1 K
    | _ => False) X
  | .nev, _, _, _, _ => False
def wEs : List Ex → Env' → Sto → (List D → Sto → Prop) → KtE → Prop
  | [], _, S, K, _ => K [] S
  | e :: es, ρ, S, K, X => wE e ρ S (fun d S1 => wEs es ρ S1 (fun ds S2 => K (d :: ds) S2) X) X
def wO : Option Ex → Env' → Sto → (Option Int → Sto → Prop) → KtE → Prop
  | none, _, S, K, _ => K none S
  | some e, ρ, S, K, X => wE e ρ S (fun d S1 => match d with
    | .int i => K (some i) S1
    | _ => False) X
/-- what a for walks -/
def wI : Ex → Env' → Sto → KtI → KtE → Prop
  | .range1 a, ρ, S, K, X => wE a ρ S (fun x S1 => match x with
    | .int j => rgOk j ∧ K (rangeD 0 j.toNat) (fun _ => True) S1
    | _ => False) X
  | .range2 a b, ρ, S, K, X => wE a ρ S (fun x S1 => wE b ρ S1 (fun y S2 => match x, y with
    | .int i, .int j => rgOk i ∧ rgOk j ∧ K (rangeD i (j - i).toNat) (fun _ => True) S2
    | _, _ => False) X) X
  | .enum a, ρ, S, K, X => wE a ρ S (fun x S1 => match x with
    | .ref a => match lstAt S1 a with
      | some ds => K (enumD 0 ds) (fun S' => lstAt S' a = some ds) S1
      | none => False
    | _ => False) X
  | .zip a b, ρ, S, K, X => wE a ρ S (fun x S1 => wE b ρ S1 (fun y S2 => match x, y with
    | .ref a, .ref b => match lstAt S2 a, lstAt S2 b with
      | some ds, some es => K (zipD ds es) (fun S' => lstAt S' a = some ds ∧ lstAt S' b = some es) S2
      | _, _ => False
    | _, _ => False) X) X
  | .revd a, ρ, S, K, X => wE a ρ S (fun x S1 => match x with
    | .ref a => match lstAt S1 a with
      | some ds => K ds.reverse (fun S' => lstAt S' a = some ds) S1
      | none => False
    | _ => False) X
  | e, ρ, S, K, X => wE e ρ S (fun x S1 => wIter x S1 K) X
/-- the tests of a comprehension, none or one -/
def wIfs : List Ex → Env' → Sto → (Bool → Sto → Prop) → Prop
  | [], _, S, K => K true S
  | [c], ρ, S, K => wE c ρ S (fun d S1 => wTru d S1 fun t => K t S1) (fun _ _ => False)
  | _ :: _ :: _, _, _, _ => False
end
end

/-! ### statements -/
structure DE where
  nx : Env' → Sto → Prop
  rt : Kt
  bk : Env' → Sto → Prop := fun _ _ => False
  ct : Env' → Sto → Prop := fun _ _ => False
abbrev ES := Str → Env' → Sto → Prop
/-- the turns of a for -/
def wLoop (stays : Sto → Prop) (turn : D → Env' → Sto → (Env' → Sto → Prop) → Prop) (after : Env' → Sto → Prop) : List D → Env' → Sto → Prop
  | [], ρ, S => stays S ∧ after ρ S
  | d :: ds, ρ, S => stays S ∧ turn d ρ S (wLoop stays turn after ds)
def wSetSub (o i v : D) (S : Sto) (K : Sto → Prop) : Prop := match o with
  | .ref a => match S a with
    | some (.lst ds) => ∃ k j, i = .int k ∧ L2.ixN ds.length k = some j ∧ K (put S a (.lst (ds.set j v)))
    | some (.dct false tk kvs) => keyOk tk i = true ∧ kvs.length < sizeLine ∧ K (put S a (.dct false tk (dput kvs i v)))
    | _ => False
  | _ => False
def putD (f : Str) (v : D) : List (Str × D) → List (Str × D)
  | [] => [(f, v)]
  | (g, x) :: r => if g = f then (g, v) :: r else (g, x) :: putD f v r
/-- the slot of an exception's name -/
def nmO (ρ : Env') (i : Option Nat) (o : Option D) : Env' := match i with
  | some i => ρ.set i o
  | none => ρ
mutual
def wS (Γ : GE) : Sm → DE → ES → Env' → Sto → Prop
  | .expr e, N, X, ρ, S => wE Γ e ρ S (fun _ S1 => N.nx ρ S1) (fun x S1 => X x ρ S1)
  | .asg t e, N, X, ρ, S => wE Γ e ρ S (fun d S1 => wTg t d ρ fun ρ' => N.nx ρ' S1) (fun x S1 => X x ρ S1)
  | .par2 i j a b, N, X, ρ, S => wEs Γ [a, b] ρ S (fun ds S1 => match ds with
    | [x, y] => N.nx ((ρ.set i (some x)).set j (some y)) S1
    | _ => False) (fun x S1 => X x ρ S1)
  | .setFld o f e, N, X, ρ, S => wE Γ e ρ S (fun d S1 => wE Γ o ρ S1 (fun x S2 => match x with
    | .ref a => match S2 a with
      | some (.ins C fs) => Γ.att C f = true ∧ fs.length < 1000 ∧ N.nx ρ (put S2 a (.ins C (putD f d fs)))
      | _ => False
    | _ => False) (fun x S1 => X x ρ S1)) (fun x S1 => X x ρ S1)
  | .setSub o i e, N, X, ρ, S => wE Γ e ρ S (fun d S1 => wE Γ o ρ S1 (fun x S2 => wE Γ i ρ S2 (fun y S3 => wSetSub x y d S3 fun S4 => N.nx ρ S4) (fun x S1 => X x ρ S1)) (fun x S1 => X x ρ S1)) (fun x S1 => X x ρ S1)
  | .ret e, N, X, ρ, S => wE Γ e ρ S N.rt (fun x S1 => X x ρ S1)
  | .retN, N, _, _, S => N.rt .non S
  | .ifs c a b, N, X, ρ, S => wE Γ c ρ S (fun d S1 => wTru d S1 fun t => if t = true then wSs Γ a N X ρ S1 else wSs Γ b N X ρ S1) (fun x S1 => X x ρ S1)
  | .for t it body, N, X, ρ, S => wI Γ it ρ S (fun items stays S1 => wLoop stays (fun d ρ S next => wTg t d ρ fun ρ' => wSs Γ body { N with nx := next, ct := next, bk := N.nx } X ρ' S) N.nx items ρ S1) (fun x S1 => X x ρ S1)
  | .while c body, N, X, ρ, S => ∃ I : Nat → Env' → Sto → Prop, (∃ m, I m ρ S) ∧ ∀ m ρ S, I m ρ S → wE Γ c ρ S (fun d S1 => wTru d S1 fun t => if t = true then
      wSs Γ body { N with nx := fun ρ' S' => ∃ m', m' < m ∧ I m' ρ' S', ct := fun ρ' S' => ∃ m', m' < m ∧ I m' ρ' S', bk := N.nx } X ρ S1 else N.nx ρ S1) (fun x S1 => X x ρ S1)
  | .raise x, _, X, ρ, S => X x ρ S
  | .try body c i suite, N, X, ρ, S => wSs Γ body N (fun x ρ1 S1 => match Γ.exc x c with
    | some true => ∀ a, S1 a = none → wSs { Γ with exv := some (a, x) } suite { nx := fun ρ2 S2 => N.nx (nmO ρ2 i none) S2, rt := N.rt, bk := fun ρ2 S2 => N.bk (nmO ρ2 i none) S2, ct := fun ρ2 S2 => N.ct (nmO ρ2 i none) S2 } (fun _ _ _ => False) (nmO ρ1 i (some (.ref a))) S1
    | some false => X x ρ1 S1
    | none => False) ρ S
  | .pass, N, _, ρ, S => N.nx ρ S
  | .brk, N, _, ρ, S => N.bk ρ S
  | .cont, N, _, ρ, S => N.ct ρ S
  | .nev, _, _, _, _ => False
def wSs (Γ : GE) : List Sm → DE → ES → Env' → Sto → Prop
  | [], N, _, ρ, S => N.nx ρ S
  | s :: ss, N, X, ρ, S => wS Γ s { N with nx := wSs Γ ss N X } X ρ S
end
end DL

/-! DL2: the small language is sound: frames, judgements, expressions. -/
namespace DL
open PySem PySem.Spec PyProof.Rows L2

/-! ### judgements -/
theorem _root_.L2.PE.imp {X : Cx} {e : Expr} {t t' : TE} (h : PE X e t) (i : ∀ σ H Q, t' σ H Q → t σ H Q) : PE X e t' := ⟨fun pins s σ H Q I q => h.run pins s σ H Q I (i _ _ _ q)⟩
theorem _root_.L2.PA.imp {X : Cx} {e : List Expr} {t t' : TA} (h : PA X e t) (i : ∀ σ H Q, t' σ H Q → t σ H Q) : PA X e t' := ⟨fun pos pins s σ H Q I q => h.run pos pins s σ H Q I (i _ _ _ q)⟩
theorem _root_.L2.PT.imp {X : Cx} {e : Expr} {t t' : TT} (h : PT X e t) (i : ∀ σ H Q, t' σ H Q → t σ H Q) : PT X e t' := ⟨fun pins s σ H Q I q => h.run pins s σ H Q I (i _ _ _ q)⟩
theorem _root_.L2.PS.imp {X : Cx} {e : Stmt} {t t' : TS} (h : PS X e t) (i : ∀ D σ H, t' D σ H → t D σ H) : PS X e t' := ⟨fun pins s σ H D I q => h.run pins s σ H D I (i _ _ _ q)⟩
theorem _root_.L2.PSs.imp {X : Cx} {e : List Stmt} {t t' : TS} (h : PSs X e t) (i : ∀ D σ H, t' D σ H → t D σ H) : PSs X e t' := ⟨fun pins s σ H D I q => h.run pins s σ H D I (i _ _ _ q)⟩

def TP.holdV (a : TP) (d : D) (v : V) : TP := ⟨fun H => a.p H ∧ Rep H d v, fun t h => ⟨a.mono t h.1, h.2.mono t⟩⟩
def TP.holdVs (a : TP) (ds : List D) (vs : List V) : TP := ⟨fun H => a.p H ∧ Reps H ds vs, fun t h => ⟨a.mono t h.1, h.2.mono t⟩⟩

/-- what is wished of exceptions, at the frame's slots -/
def wXe (K : PySem.W.Frag) (Φ : TP) (ρ : Env') (σ0 : L2.St) (E : KtE) : WX := fun cls d σ H => ∃ x S, cls = .ref (He.ga K x) ∧ d = none ∧ σ = σ0 ∧ Rr ρ S σ H ∧ Φ.p H ∧ E x S
abbrev TakesD (X : Cx) (Φ : TP) (ρ : Env') (σ : L2.St) (E : KtE) : Prop := Takes X (wXe X.K Φ ρ σ E)
theorem TakesD.less {X : Cx} {Φ Φ' : TP} {ρ : Env'} {σ : L2.St} {E : KtE} (t : TakesD X Φ ρ σ E) (h : ∀ H, Φ'.p H → Φ.p H) : TakesD X Φ' ρ σ E :=
  t.imp fun c d σ' H ⟨x, S, e1, e2, e3, r, p, q⟩ => ⟨x, S, e1, e2, e3, r, h H p, q⟩
def wXs (K : PySem.W.Frag) (Φ : TP) (E : Str → Env' → Sto → Prop) : WX := fun cls d σ H => ∃ x ρ S, cls = .ref (He.ga K x) ∧ d = none ∧ Rr ρ S σ H ∧ Φ.p H ∧ E x ρ S
abbrev TakesS (X : Cx) (Φ : TP) (E : Str → Env' → Sto → Prop) : Prop := Takes X (wXs X.K Φ E)
theorem TakesS.toD {X : Cx} {Φ : TP} {E : Str → Env' → Sto → Prop} (t : TakesS X Φ E) (ρ : Env') (σ : L2.St) : TakesD X Φ ρ σ (fun x S => E x ρ S) :=
  t.imp fun c d σ' H ⟨x, S, e1, e2, e3, r, p, q⟩ => ⟨x, ρ, S, e1, e2, r, p, q⟩
theorem TakesS.less {X : Cx} {Φ Φ' : TP} {E : Str → Env' → Sto → Prop} (t : TakesS X Φ E) (h : ∀ H, Φ'.p H → Φ.p H) : TakesS X Φ' E :=
  t.imp fun c d σ' H ⟨x, ρ, S, e1, e2, r, p, q⟩ => ⟨x, ρ, S, e1, e2, r, h H p, q⟩
theorem takesF {X : Cx} {Φ : TP} {ρ : Env'} {σ : L2.St} : TakesD X Φ ρ σ (fun _ _ => False) := takes0.imp fun c d σ' H ⟨x, S, e1, e2, e3, r, p, q⟩ => q

abbrev WE' := Env' → Sto → Kt → KtE → Prop
abbrev WEs' := Env' → Sto → (List D → Sto → Prop) → KtE → Prop
/-- the reading of an expression -/
def lE (X : Cx) (τ : WE') : TE := fun σ H Q => ∃ ρ S Φ K E, Rr ρ S σ H ∧ Φ.p H ∧ TakesD X Φ ρ σ E ∧ τ ρ S K E ∧ ∀ d S' v H', Rr ρ S' σ H' → Φ.p H' → Rep H' d v → K d S' → Q v H'
def lEs (X : Cx) (τ : WEs') : TA := fun σ H Q => ∃ ρ S Φ K E, Rr ρ S σ H ∧ Φ.p H ∧ TakesD X Φ ρ σ E ∧ τ ρ S K E ∧ ∀ ds S' vs H', Rr ρ S' σ H' → Φ.p H' → Reps H' ds vs → K ds S' → Q vs H'
abbrev dE (X : Cx) (e : Expr) (τ : WE') : Prop := PE X e (lE X τ)
abbrev dEs (X : Cx) (es : List Expr) (τ : WEs') : Prop := PA X es (lEs X τ)
theorem lE.go {X : Cx} {τ : WE'} {ρ : Env'} {S : Sto} {Φ : TP} {σ : L2.St} {H : Hp} {K : Kt} {E : KtE} {Q : VK} (r : Rr ρ S σ H) (p : Φ.p H) (tk : TakesD X Φ ρ σ E) (h : τ ρ S K E)
    (fin : ∀ d S' v H', Rr ρ S' σ H' → Φ.p H' → Rep H' d v → TakesD X (Φ.holdV d v) ρ σ E → (Φ.holdV d v).p H' → K d S' → Q v H') : lE X τ σ H Q :=
  ⟨ρ, S, Φ, K, E, r, p, tk, h, fun d S' v H' r' p' q k => fin d S' v H' r' p' q (tk.less fun _ z => z.1) ⟨p', q⟩ k⟩
theorem lEs.go {X : Cx} {τ : WEs'} {ρ : Env'} {S : Sto} {Φ : TP} {σ : L2.St} {H : Hp} {K : List D → Sto → Prop} {E : KtE} {Q : List V → Hp → Prop} (r : Rr ρ S σ H) (p : Φ.p H) (tk : TakesD X Φ ρ σ E) (h : τ ρ S K E)
    (fin : ∀ ds S' vs H', Rr ρ S' σ H' → Φ.p H' → Reps H' ds vs → K ds S' → Q vs H') : lEs X τ σ H Q :=
  ⟨ρ, S, Φ, K, E, r, p, tk, h, fin⟩

/-! ### defs -/
def toSp (K : PySem.W.Frag) (fe : FE) : Sp := fun vs H Q E => vs.length = fe.np ∧ ∃ ds S K' X, Reps H ds vs ∧ SRep S H ∧ fe.sp ds S K' X ∧
  (∀ d S' v H', K' d S' → Rep H' d v → SRep S' H' → Tm H H' → Q v H') ∧ (∀ x S' H', X x S' → SRep S' H' → Tm H H' → E (.ref (He.ga K x)) none H')

structure FnK (P : Program) (w : World) (K : PySem.W.Frag) (mg : Str → Option Value) (base : Heap) (k : Nat) (fe : FE) (f : Addr) : Prop where
  ok : ∃ fd ps, FnOk P w K mg base (L2.CX P w) k f fd ps (toSp K fe) ∧ ps.length = fe.np ∧
    ∀ n, n ≤ fe.np → fe.np - n ≤ fe.df.length → ∃ dvs us, Vals dvs us ∧ (∀ H, Reps H (fe.df.drop (fe.df.length - (fe.np - n))) dvs) ∧ Binds K fd ps us
  kp : PySem.W.keepIn K (.ref f) = true
theorem FnK.mono {P : Program} {w : World} {K : PySem.W.Frag} {mg : Str → Option Value} {base : Heap} {j k : Nat} {fe : FE} {f : Addr} (F : FnK P w K mg base j fe f) (h : j ≤ k) : FnK P w K mg base k fe f :=
  let ⟨fd, ps, a, b, c⟩ := F.ok
  ⟨⟨fd, ps, a.mono h, b, c⟩, F.kp⟩

/-- the built-in names -/
def bltB (x : Str) : Bool := x == "len" || x == "sorted" || x == "min" || x == "max" || x == "abs" || x == "divmod" || x == "all" || x == "any" || x == "int" || x == "str" || x == "list" || x == "tuple" || x == "range" || x == "enumerate" || x == "zip" || x == "reversed" || x == "isinstance" || x == "set" || x == "dict" || x == "bool"
/-- the module's facts, at a level -/
structure GOk (Γ : GE) (P : Program) (w : World) (K : PySem.W.Frag) (mg : Str → Option Value) (base : Heap) (k : Nat) : Prop where
  val : ∀ x d, Γ.val x = some d → ∃ u v, mg x = some u ∧ RelV v u ∧ ∀ H, Rep H d v
  fn : ∀ x fe, Γ.fn x = some fe → ∃ f, mg x = some (.ref f) ∧ FnK P w K mg base k fe f
  cls : ∀ c C fe, Γ.cls c = some (C, some fe) → mg c = some (.ref C) ∧ ∃ f j, j + 1 ≤ k ∧ Mk K C f ∧ FnK P w K mg base j fe f
  mth : ∀ C m fe, Γ.mth C m = some fe → Cls K C ∧ ∃ f, Meth K C m f ∧ FnK P w K mg base k fe f
  att : ∀ C f, Γ.att C f = true → Cls K C ∧ NoAttr K C f
  blt : ∀ x, bltB x = true → mg x = none
  exc : ∀ x C b, Γ.exc x C = some b → ExcC K (He.ga K x) ∧ ∃ cv, ((mg C = some cv ∧ cv = .ref (He.ga K C)) ∨ (mg C = none ∧ ∃ n, bootBuiltins C = some (.type n) ∧ cv = .type n ∧ C ≠ "__name__")) ∧ PySem.W.exmOne K (.ref (He.ga K x)) cv = some b ∧ PySem.W.kitOne K (.ref (He.ga K x)) cv = some b
  rse : ∀ x, Γ.rse x = true → mg x = some (.ref (He.ga K x)) ∧ PySem.W.keepIn K (.ref (He.ga K x)) = true ∧ PySem.W.excIn K (He.ga K x) He.veBase "ValueError.__new__" = true ∧ PySem.W.subIn K (.ref (He.ga K x)) (.type "BaseException") = some true ∧ PySem.W.typeIn K (.ref (He.ga K x)) = some (.type "type")
theorem GOk.exv {Γ : GE} {P : Program} {w : World} {K : PySem.W.Frag} {mg : Str → Option Value} {base : Heap} {k : Nat} (g : GOk Γ P w K mg base k) (o : Option (Addr × Str)) : GOk { Γ with exv := o } P w K mg base k :=
  ⟨g.val, g.fn, g.cls, g.mth, g.att, g.blt, g.exc, g.rse⟩
/-- the names of the scope that runs -/
structure NOk (nm : List (Str × NameKind)) (N : List Str) (X : Cx) : Prop where
  n : X.N = N
  nd : N.Nodup
  look : ∀ x k, nm.lookup x = some k → ∃ k', X.env.scope.names.lookup x = some k' ∧ (k' = k ∨ (k = .free ∧ k' = .cell))
  fn : ∀ x, nm.lookup x = some .cell → X.fn x = true
theorem _root_.L2H.RoomH.units {k : Nat} {A : Around} (r : L2H.RoomH k A) : A.units + 64 < cLine := by have := r.un; omega
theorem _root_.L2H.RoomH.units0 {k : Nat} {A : Around} (r : L2H.RoomH k A) : A.units < cLine := by have := r.un; omega
theorem _root_.L2H.RoomH.units1 {k : Nat} {A : Around} (r : L2H.RoomH k A) : A.units + 1 < cLine := by have := r.un; omega
/-- a context, of an except suite too -/
structure XOw (Γ : GE) (nm : List (Str × NameKind)) (N : List Str) (k : Nat) (X : Cx) : Prop where
  g : GOk Γ X.prog X.w X.K X.mg X.base k
  n : NOk nm N X
  rh : L2H.RoomH k X.A
  ev : ∀ a x, Γ.exv = some (a, x) → CallR X (.builtin "isinstance") (rIsE X.K (He.ga X.K x) a)
/-- a calm context -/
structure XOk (Γ : GE) (nm : List (Str × NameKind)) (N : List Str) (k : Nat) (X : Cx) : Prop extends XOw Γ nm N k X where
  hr : Room k X.A
  calm : X.calm = true
  noe : Γ.exv = none
  po : PassesOwn (model X.prog X.w) X.A X.env X.xe

def visB (nm : List (Str × NameKind)) (x : Str) : Bool := match nm.lookup x with
  | some .local => true
  | some .cell => true
  | some .free => true
  | _ => false
def locB (nm : List (Str × NameKind)) (x : Str) : Bool := match nm.lookup x with
  | some .local => true
  | some .cell => true
  | _ => false
def glB (nm : List (Str × NameKind)) (x : Str) : Bool := match nm.lookup x with
  | some .globalImplicit => true
  | _ => false
section
variable {nm : List (Str × NameKind)} {N : List Str} {X : Cx}
theorem NOk.vis (h : NOk nm N X) {x : Str} (b : visB nm x = true) : Vis X.env.scope x := by
  unfold visB at b
  cases e : nm.lookup x with
  | none => rw [e] at b; cases b
  | some k =>
    obtain ⟨k', h1, h2⟩ := h.look x k e
    rw [e] at b
    cases k <;> first
      | (cases b; done)
      | (rcases h2 with rfl | ⟨z, rfl⟩ <;> first
          | (cases z; done)
          | exact .inl h1
          | exact .inr (.inl h1)
          | exact .inr (.inr h1))
theorem NOk.loc (h : NOk nm N X) {x : Str} (b : locB nm x = true) : Loc X.env.scope x ∧ (X.fn x = true ∨ X.env.scope.names.lookup x = some .local) := by
  unfold locB at b
  cases e : nm.lookup x with
  | none => rw [e] at b; cases b
  | some k =>
    obtain ⟨k', h1, h2⟩ := h.look x k e
    rw [e] at b
    cases k <;> first
      | (cases b; done)
      | (rcases h2 with rfl | ⟨z, rfl⟩ <;> first
          | (cases z; done)
          | exact ⟨.inl h1, .inr h1⟩
          | exact ⟨.inr h1, .inl (h.fn x e)⟩)
theorem NOk.gl (h : NOk nm N X) {x : Str} (b : glB nm x = true) : Gl X x := by
  unfold glB at b
  cases e : nm.lookup x with
  | none => rw [e] at b; cases b
  | some k =>
    obtain ⟨k', h1, h2⟩ := h.look x k e
    rw [e] at b
    cases k <;> first
      | (cases b; done)
      | (rcases h2 with rfl | ⟨z, rfl⟩ <;> first
          | (cases z; done)
          | exact h1)
end
end DL

/-! DLa: rules that the layer lacks. -/
namespace DL
open PySem PySem.Spec PyProof.Rows L2
section
variable {X : Cx}
/-- a text, n times -/
theorem op_mulS : OpR X (binaryOp .Mult) (fun x y H Q => ∃ z n, x = .str z ∧ y = .int n ∧ 0 ≤ n ∧ n ≤ 1000000 ∧ z.length * n.toNat ≤ 1000000 ∧ (strMul z n).length ≤ 1000000 ∧ Q (.str (strMul z n)) H) := by
  intro pins s σ H x y v u Q I rx ry h
  obtain ⟨z, n, rfl, rfl, h0, h1, h2, h5, q⟩ := h
  obtain ⟨t, rfl⟩ := rx
  obtain ⟨t', rfl⟩ := ry
  refine P.mul_str ?_ (fun a b => ?_) (fun a b => ?_) ?_
  · rw [decide_eq_false (by omega), decide_eq_false (by omega)]; rfl
  · have hn : 0 < n := by omega
    have e : ((z.length * n.toNat : Nat) : Int) = (z.length : Int) * n := by rw [Int.natCast_mul, Int.toNat_of_nonneg h0]
    have : (z.length : Int) * n ≤ 1000000 := by omega
    have h3 : (z.length : Int) ≤ (2 ^ 63 - 1) / n := (Int.le_ediv_iff_mul_le hn).mpr (by omega)
    omega
  · show decide (_ > _) = false
    have := sizeLine_eq
    exact decide_eq_false (by omega)
  · have hz := sizeLine_eq
    unfold strMul at q h5
    split
    · rename_i c
      rw [if_pos c] at q
      exact ⟨by show 0 ≤ sizeLine; omega, .str Str.empty, H, I.tok _, ⟨_, rfl⟩, q⟩
    · rename_i c
      rw [if_neg c] at q h5
      split
      · rename_i c2
        rw [if_pos c2] at q
        exact ⟨.str z, H, I, ⟨_, rfl⟩, q⟩
      · rename_i c2
        rw [if_neg c2] at q h5
        exact ⟨by omega, .str _, H, I.tok _, ⟨_, rfl⟩, q⟩
/-- list.count, flat items -/
def rCntF (K : PySem.W.Frag) : V → List V → Hp → VK → Prop := fun x xs H Q => ∃ (a : Addr) (ys : List V) (y : V), x = V.ref a ∧ xs = [y] ∧ SqL K H a ys ∧ flatV y = true ∧ ys.all flatV = true ∧ Q (.int (ys.countP (fun z => eqV z y) : Nat)) H
theorem mt_countF : MtR X "list.count" (rCntF X.K) := by
  intro pins s σ H x xs v us Q I rx rxs h
  obtain ⟨a, ys, y, rfl, rfl, hs, fy, fys, q⟩ := h
  cases rx
  obtain ⟨uy, rfl, ry⟩ := rxs.one
  obtain ⟨its, rv, ⟨⟨cls, dd, data, sl⟩, n, ho, hc, hdn, hd⟩, hlen⟩ := I.list hs
  simp only at hc hd
  subst hc hd
  refine call_meets PySem.F.slot_list_count ⟨_, ho, rfl⟩ PySem.F.entry_list_count (PySem.F.args_list_count_2 _ _)
    (SeqAt.list_countAt a its.toArray n dd sl uy (eqU y)) ⟨ho, fun u' hu' => mem_eqAt ry fy rv fys u' (by simpa using hu'), ?_⟩
  have ec : ∀ {ys : List V} {us : List Value}, Vals ys us → ys.all flatV = true → us.countP (eqU y) = ys.countP fun z => eqV z y := by
    intro ys us r
    induction r with
    | nil => intro _; rfl
    | cons r _ ih =>
      intro f
      rw [List.all_cons, Bool.and_eq_true] at f
      rw [List.countP_cons, List.countP_cons, ih f.2, eqU_of r f.1]
  refine ⟨.int (ys.countP (fun z => eqV z y) : Nat), H, I.tok _, ⟨s.toks, ?_⟩, q⟩
  show Value.int ((its.toArray.toList.countP (eqU y) : Nat) : Int) s.toks = _
  rw [show its.toArray.toList = its from rfl, ec rv fys]
/-- {k: v, ..} with keys tuples of ints and texts -/
def TKeys (H : Hp) : List (List Key × V) → List (V × V) → Prop := Paired fun p q => q.2 = p.2 ∧ ∃ b, q.1 = .ref b ∧ H b = some (.tup (p.1.map kV))
def mergeT (kvs more : List (List Key × V)) : List (List Key × V) := more.foldl (fun acc kv => putK acc kv.1 kv.2) kvs
def tDispT (trs : List (TE × TE)) : TE := fun σ H Q => ∀ p, H p = none → tPairs trs σ (upd H p (.dT [])) fun ps H2 => H2 p = some (.dT []) ∧ ∃ kvs : List (List Key × V), TKeys H2 kvs ps ∧ kvs.length ≤ 15 ∧ Q (.ref p) (upd H2 p (.dT (mergeT [] kvs)))
theorem storeT {A : Around} {E : Value → Shared → Prop} {pins : List (Addr × Obj)} {σ : L2.St} {a : Addr} (hu : (tupleKind (mixKind X.prog X.w)).room A) : ∀ (kvs : List (List Key × V)) (ps : List (V × V)) (vs : List (Value × Value)) (acc : List (List Key × V)) (H : Hp) (s : Shared) (Q : PUnit → Shared → Prop), TKeys H kvs ps → VV ps vs → H a = some (.dT acc) → acc.length + kvs.length ≤ sizeLine →
    Inv X pins σ H s → (∀ s', Inv X pins σ (upd H a (.dT (mergeT acc kvs))) s' → Q PUnit.unit s') →
    wpAny (model X.prog X.w) A (forIn vs PUnit.unit fun (x : Value × Value) (_ : PUnit) => (do dictSet a x.1 x.2; pure (ForInStep.yield PUnit.unit) : Sem (ForInStep PUnit))) Q E s
  | [], _, _, acc, H, s, Q, .nil, .nil, ha, _, I, q => by
    rw [List.forIn_nil]
    refine wpAny_pure (q s ?_)
    have e : upd H a (.dT (mergeT acc [])) = H := by
      funext b
      by_cases hb : b = a
      · subst hb; rw [upd_same, ha]; rfl
      · rw [upd_ne hb]
    rw [e]; exact I
  | kv :: kvs, _, _, acc, H, s, Q, .cons hk tk, .cons hv tv, ha, hz, I, q => by
    rename_i p ps u vs
    obtain ⟨e1, b, e2, eb⟩ := hk
    obtain ⟨r1, r2⟩ := hv
    rw [e2] at r1
    rw [e1] at r2
    have eu : u.1 = .ref b := r1
    rw [List.forIn_cons]
    rw [List.length_cons] at hz
    obtain ⟨z, hd, xs, rel, dd⟩ := dt_of I.hok ha
    have hz2 : xs.length ≤ sizeLine := by rw [← Paired.length rel]; exact z
    have hl : (putK acc kv.1 kv.2).length ≤ acc.length + 1 := length_putK acc kv.1 kv.2
    rw [eu]
    refine wpAny_bind (wpAny_bind (wpAny_dictSet_heap (hsz := hz2) hu (key_of I.hok eb) dd fun h' dd' hs => wpAny_pure ?_))
    have I' : Inv X pins σ (upd H a (.dT (putK acc kv.1 kv.2))) { s with heap := h', toks := s.toks + (tupleKind (mixKind X.prog X.w)).draws kv.1 } := by
      obtain ⟨qo, es, ep, hq, h2, h3, h4, _, h5⟩ := dd'
      refine d_write I (by rw [ha]; exact True.intro) hs ⟨qo, hq⟩ ⟨by omega, hd, _, (rel.put kv.1 eb r2).keeps fun c ys ec => ?_, qo, es, ep, hq, h2, h3, h4, h5⟩
      rw [upd_ne (ne_of ec ha (fun z => nomatch z))]
      exact ec
    have up : ∀ b ys, H b = some (.tup ys) → (upd H a (.dT (putK acc kv.1 kv.2))) b = some (.tup ys) := fun c ys ec => by
      rw [upd_ne (ne_of ec ha (fun z => nomatch z))]; exact ec
    refine storeT hu kvs ps vs _ _ _ Q (Paired.monoP (fun _ _ ⟨z1, c, z2, z3⟩ => ⟨z1, c, z2, up _ _ z3⟩) tk) tv upd_same (by omega) I' fun s' J => q s' ?_
    have e : upd (upd H a (.dT (putK acc kv.1 kv.2))) a (.dT (mergeT (putK acc kv.1 kv.2) kvs)) = upd H a (.dT (mergeT acc (kv :: kvs))) := by
      funext c
      by_cases hc : c = a
      · subst hc; rw [upd_same, upd_same]; rfl
      · rw [upd_ne hc, upd_ne hc, upd_ne hc]
    rw [← e]; exact J
theorem pe_dispT {pos : Pos} {keys : List (Option Expr)} {values : List Expr} {trs : List (TE × TE)} (hu : X.A.units + 1 < cLine) (h : PPs X pos keys values trs) (hall : keys.all (·.isSome) = true) (hl : keys.length = values.length) (h0 : keys ≠ [])
    (h15 : keys.length ≤ 15) : PE X (.Dict keys values pos) (tDispT trs) := by
  refine ⟨fun pins s σ H Q I q => ?_⟩
  have hn := I.hok.fresh (Nat.le_refl s.heap.objs.size)
  have I1 := I.laid (a := s.heap.objs.size) (o := .dT []) (h' := s.heap.push { cls := .type "dict", data := .dict #[] }) (t' := s.toks) (fun _ _ q => Heap.get?_push_of_some _ q) (Nat.le_refl _) (dt_empty s.heap I.big)
  have hpl := pairTrees_length keys values X.env pos hall hl
  rw [arm_eval_Dict, zip_pairTrees keys values X.env pos hall hl, dictDisplay_pairs _ (fun e => h0 (by rw [e] at hpl; exact List.eq_nil_of_length_eq_zero hpl.symm)) (by omega)]
  refine wpAny_bind (wpAny_standAt (wpAny_bind ?_))
  unfold subDict
  refine wpAny_bind (wpAny_alloc ?_)
  refine wpAny_bind (wpAny_holding ?_)
  rw [if_pos (by omega)]
  refine wpAny_bind (thn (h.run pins _ σ _ _ I1 (q _ hn)) fun ws s2 ⟨ps, H2, I2, rel, e, kvs, ek, lk, q2⟩ => ?_)
  refine wpAny_holding ?_
  refine wpAny_bind (storeT (show X.A.units < cLine by omega) kvs ps ws [] H2 s2 _ ek rel e (by rw [sizeLine_eq, List.length_nil]; omega) I2 fun s' J => wpAny_pure (wpAny_pure (wpAny_pure (show EP X pins σ Q (.ref s.heap.objs.size) s' from ⟨.ref s.heap.objs.size, _, J, rfl, q2⟩))))
end
end DL

/-! DL3: expressions. -/
namespace DL
open PySem PySem.Spec PyProof.Rows L2

theorem getI {α : Type} {o : Option α} {P : α → Prop} (h : match o with | some x => P x | none => False) : ∃ x, o = some x ∧ P x := by
  cases o with
  | none => exact h.elim
  | some x => exact ⟨x, rfl, h⟩

section
variable {Γ : GE} {nm : List (Str × NameKind)} {N : List Str} {k : Nat} {X : Cx}
/-! ### names, constants -/
theorem d_var (C : XOw Γ nm N k X) {i : Nat} {x : Str} {pos : Pos} (hi : N[i]? = some x) (hv : visB nm x = true) (hd : (x == ("__debug__" : Str)) = false) (hc : (x == ("__classdict__" : Str)) = false) : dE X (.Name x pos) (wE Γ (.var i)) := by
  refine (pe_var (i := i) (by rw [C.n.n]; exact hi) (C.n.vis hv) hd hc).imp fun σ H Q h => ?_
  obtain ⟨ρ, S, Φ, K, E, r, p, tk, h, fin⟩ := h
  simp only [wE] at h
  split at h
  · rename_i d e
    obtain ⟨v, e2, rp⟩ := r.at_ _ _ e
    exact ⟨v, e2, fin d S v H r p rp h⟩
  · exact h.elim
theorem d_cst {e : Expr} {d : D} {v : V} (h : PE X e (tC v)) (rp : ∀ H, Rep H d v) : dE X e (wE Γ (.cst d)) := by
  refine h.imp fun σ H Q h => ?_
  obtain ⟨ρ, S, Φ, K, E, r, p, tk, h, fin⟩ := h
  simp only [wE] at h
  exact fin d S v H r p (rp H) h
theorem d_glo (C : XOw Γ nm N k X) {x : Str} {pos : Pos} (hg : glB nm x = true) (hd : (x == ("__debug__" : Str)) = false) : dE X (.Name x pos) (wE Γ (.glo x)) := by
  refine ⟨fun pins s σ H Q I h => ?_⟩
  obtain ⟨ρ, S, Φ, K, E, r, p, tk, h, fin⟩ := h
  simp only [wE] at h
  split at h
  · rename_i d e
    obtain ⟨u, v, e1, rv, rp⟩ := C.g.val x d e
    exact ld_glob I (C.n.gl hg) e1 ⟨v, H, I, rv, fin d S v H r p (rp H) h⟩ hd
  · exact h.elim

/-! ### argument lists -/
theorem d_nil : dEs X [] (wEs Γ []) := by
  refine pa_nil.imp fun σ H Q h => ?_
  obtain ⟨ρ, S, Φ, K, E, r, p, tk, h, fin⟩ := h
  simp only [wEs] at h
  exact fin [] S [] H r p Reps.nil h
theorem d_cons {e : Expr} {es : List Expr} {c : Ex} {cs : List Ex} (ha : dE X e (wE Γ c)) (hr : dEs X es (wEs Γ cs)) (hs : starEach (e :: es) X.env = (false, eval e X.env) :: starEach es X.env) : dEs X (e :: es) (wEs Γ (c :: cs)) := by
  refine (pa_cons ha hr hs).imp fun σ H Q h => ?_
  obtain ⟨ρ, S, Φ, K, E, r, p, tk, h, fin⟩ := h
  simp only [wEs] at h
  refine lE.go r p tk h fun d S1 v H1 r1 p1 rp1 tk1 p1' k1 => ?_
  refine lEs.go (Φ := Φ.holdV d v) r1 p1' tk1 k1 fun ds S2 vs H2 r2 p2 rp2 k2 => ?_
  exact fin (d :: ds) S2 (v :: vs) H2 r2 p2.1 (Reps.cons p2.2 rp2) k2

/-! ### displays -/
theorem d_tup {es : List Expr} {cs : List Ex} {x1 : Nat} {pos : Pos} (h : dEs X es (wEs Γ cs)) : dE X (.Tuple es x1 pos) (wE Γ (.tup cs)) := by
  refine (pe_tup h).imp fun σ H Q h => ?_
  obtain ⟨ρ, S, Φ, K, E, r, p, tk, h, fin⟩ := h
  simp only [wE] at h
  refine lEs.go r p tk h fun ds S1 vs H1 r1 p1 rp1 k1 => ?_
  obtain ⟨hz, k1⟩ := k1
  refine ⟨by rw [← rp1.length]; exact hz, fun q hq => ?_⟩
  have t : Tm H1 (upd H1 q (.tup vs)) := Tm.upd_new hq
  exact fin (.tup ds) S1 (.ref q) _ (r1.mono t (r1.st.newTup hq)) (Φ.mono t p1) (by simp only [Rep]; exact ⟨q, vs, rfl, upd_same, rp1.mono t⟩) k1
theorem new_lst {ρ : Env'} {S : Sto} {σ : L2.St} {H : Hp} {ds : List D} {vs : List V} {q : Addr} (r : Rr ρ S σ H) (rp : Reps H ds vs) (hq : H q = none) : Rr ρ (put S q (.lst ds)) σ (upd H q (.lst vs)) ∧ Tm H (upd H q (.lst vs)) := by
  have t : Tm H (upd H q (.lst vs)) := Tm.upd_new hq
  exact ⟨r.mono t (r.st.new hq ⟨vs, upd_same, rp.mono t⟩), t⟩
theorem fin_new {ρ : Env'} {S : Sto} {σ : L2.St} {H : Hp} {Φ : TP} {K : Kt} {Q : VK} {ds : List D} {vs : List V} (r : Rr ρ S σ H) (p : Φ.p H) (rp : Reps H ds vs) (h : wNew (.lst ds) S K)
    (fin : ∀ d S' v H', Rr ρ S' σ H' → Φ.p H' → Rep H' d v → K d S' → Q v H') {q : Addr} (hq : H q = none) : Q (.ref q) (upd H q (.lst vs)) := by
  obtain ⟨r2, t⟩ := new_lst r rp hq
  exact fin (.ref q) _ (.ref q) _ r2 (Φ.mono t p) (by simp only [Rep]) (h q (r.st.free hq))
theorem d_lst {es : List Expr} {cs : List Ex} {pos : Pos} (h : dEs X es (wEs Γ cs)) : dE X (.List es pos) (wE Γ (.lst cs)) := by
  refine (pe_lst h).imp fun σ H Q h => ?_
  obtain ⟨ρ, S, Φ, K, E, r, p, tk, h, fin⟩ := h
  simp only [wE] at h
  refine lEs.go r p tk h fun ds S1 vs H1 r1 p1 rp1 k1 => ?_
  obtain ⟨hz, k1⟩ := k1
  exact ⟨by rw [← rp1.length]; exact hz, fun q hq => fin_new r1 p1 rp1 k1 fin hq⟩

/-! ### operators -/
/-- a rule by values serves a data rule -/
def Serves (X : Cx) (r : R2) (w : D → D → Sto → Kt → Prop) : Prop := ∀ (ρ : Env') (S : Sto) (σ : L2.St) (H : Hp) (Φ : TP) (K : Kt) (Q : VK) (x y : D) (v u : V), Rr ρ S σ H → Φ.p H → Rep H x v → Rep H y u → w x y S K →
  (∀ d S' v H', Rr ρ S' σ H' → Φ.p H' → Rep H' d v → K d S' → Q v H') → r v u H Q
theorem d_op {a b : Expr} {ca cb : Ex} {op : Operator} {pos : Pos} {r : R2} (ho : OpR X (binaryOp op) r) (sv : Serves X r (wBin op)) (ha : dE X a (wE Γ ca)) (hb : dE X b (wE Γ cb)) : dE X (.BinOp a op b pos) (wE Γ (.bin op ca cb)) := by
  refine (pe_op ho ha hb).imp fun σ H Q h => ?_
  obtain ⟨ρ, S, Φ, K, E, r, p, tk, h, fin⟩ := h
  simp only [wE] at h
  refine lE.go r p tk h fun d S1 v H1 r1 p1 rp1 tk1 p1' k1 => ?_
  refine lE.go (Φ := Φ.holdV d v) r1 p1' tk1 k1 fun d2 S2 v2 H2 r2 p2 rp2 tk2 p2' k2 => ?_
  exact sv ρ S2 σ H2 Φ K Q d d2 v v2 r2 p2.1 p2.2 rp2 k2 fin
/-- a false rule -/
theorem opNo {f : Value → Value → Sem Value} : OpR X f (fun _ _ _ _ => False) := fun _ _ _ _ _ _ _ _ _ _ _ _ h => h.elim

def rAddD (K : PySem.W.Frag) : R2 := fun x y H Q => rI0 (fun i j => .int (i + j)) x y H Q ∨ (∃ i j, x = .str i ∧ y = .str j ∧ i.length + j.length ≤ sizeLine ∧ Q (.str (i ++ j)) H) ∨ rCat x y H Q ∨ rCatT K x y H Q
theorem op_addD : OpR X (binaryOp .Add) (rAddD X.K) := op_add.or (op_add_str.or (op_cat.or op_catT))
theorem sv_add {KK : PySem.W.Frag} : Serves X (rAddD KK) (wBin .Add) := by
  intro ρ S σ H Φ K Q x y v u r p rx ry h fin
  unfold wBin at h
  split at h <;> first | (exact h.elim) | (rename_i e; cases e) | skip
  all_goals simp only [Rep] at rx ry
  · subst rx; subst ry
    exact .inl ⟨_, _, rfl, rfl, fin _ S _ H r p (by simp only [Rep]) h⟩
  · subst rx; subst ry
    exact .inr (.inl ⟨_, _, rfl, rfl, h.1, fin _ S _ H r p (by simp only [Rep]) h.2⟩)
  · obtain ⟨a, vs, rfl, h1, r1⟩ := rx
    obtain ⟨b, ws, rfl, h2, r2⟩ := ry
    obtain ⟨n1, n2, hz, h⟩ := h
    have m1 : vs ≠ [] := fun z => n1 (List.eq_nil_of_length_eq_zero (by rw [r1.length, z]; rfl))
    have m2 : ws ≠ [] := fun z => n2 (List.eq_nil_of_length_eq_zero (by rw [r2.length, z]; rfl))
    refine .inr (.inr (.inr ⟨a, b, vs, ws, rfl, rfl, SqT.of h1, SqT.of h2, m1, by rw [← r1.length, ← r2.length]; exact hz, fun z => absurd z m2, fun _ q hq => ?_⟩))
    have t : Tm H (upd H q (.tup (vs ++ ws))) := Tm.upd_new hq
    exact fin _ S (.ref q) _ (r.mono t (r.st.newTup hq)) (Φ.mono t p) (by simp only [Rep]; exact ⟨q, _, rfl, upd_same, (r1.append r2).mono t⟩) h
  · subst rx; subst ry
    split at h
    · rename_i xs ys e1 e2
      obtain ⟨vs, h1, r1⟩ := r.st _ _ e1
      obtain ⟨ws, h2, r2⟩ := r.st _ _ e2
      refine .inr (.inr (.inl ⟨_, _, vs, ws, rfl, rfl, h1, h2, by rw [← r1.length, ← r2.length]; exact h.1, fun q hq => fin_new r p (r1.append r2) h.2 fin hq⟩))
    · exact h.elim
/-! ### integer operators -/
theorem sv_int {op : Operator} {C : Int → Int → Prop} {g : Int → Int → Int} (h : ∀ x y S K, wBin op x y S K → ∃ i j, x = .int i ∧ y = .int j ∧ C i j ∧ K (.int (g i j)) S) : Serves X (rI C fun i j => .int (g i j)) (wBin op) := by
  intro ρ S σ H Φ K Q x y v u r p rx ry hw fin
  obtain ⟨i, j, rfl, rfl, hc, hk⟩ := h x y S K hw
  simp only [Rep] at rx ry
  subst rx; subst ry
  exact ⟨i, j, rfl, rfl, hc, fin _ S _ H r p (by simp only [Rep]) hk⟩
theorem sv_int0 {op : Operator} {g : Int → Int → Int} (h : ∀ x y S K, wBin op x y S K → ∃ i j, x = .int i ∧ y = .int j ∧ K (.int (g i j)) S) : Serves X (rI0 fun i j => .int (g i j)) (wBin op) := by
  intro ρ S σ H Φ K Q x y v u r p rx ry hw fin
  obtain ⟨i, j, rfl, rfl, hk⟩ := h x y S K hw
  simp only [Rep] at rx ry
  subst rx; subst ry
  exact ⟨i, j, rfl, rfl, fin _ S _ H r p (by simp only [Rep]) hk⟩
theorem sv_sub : Serves X (rI0 fun i j => .int (i - j)) (wBin .Sub) := sv_int0 fun x y S K h => by
  unfold wBin at h; split at h <;> first | (exact h.elim) | (rename_i e; cases e) | skip
  exact ⟨_, _, rfl, rfl, h⟩
theorem sv_fdiv : Serves X (rI CDivW fun i j => .int (i / j)) (wBin .FloorDiv) := sv_int fun x y S K h => by
  unfold wBin at h; split at h <;> first | (exact h.elim) | (rename_i e; cases e) | skip
  exact ⟨_, _, rfl, rfl, h.1, h.2⟩
theorem sv_mod : Serves X (rI (fun _ j => 0 < j) fun i j => .int (i % j)) (wBin .Mod) := sv_int fun x y S K h => by
  unfold wBin at h; split at h <;> first | (exact h.elim) | (rename_i e; cases e) | skip
  exact ⟨_, _, rfl, rfl, h.1, h.2⟩
theorem sv_pow : Serves X (rI CPow fun i j => .int (i ^ j.toNat)) (wBin .Pow) := sv_int fun x y S K h => by
  unfold wBin at h; split at h <;> first | (exact h.elim) | (rename_i e; cases e) | skip
  exact ⟨_, _, rfl, rfl, h.1, h.2⟩
theorem sv_shl : Serves X (rI CPow fun i j => .int (i * 2 ^ j.toNat)) (wBin .LShift) := sv_int fun x y S K h => by
  unfold wBin at h; split at h <;> first | (exact h.elim) | (rename_i e; cases e) | skip
  exact ⟨_, _, rfl, rfl, h.1, h.2⟩
theorem sv_shr : Serves X (rI (fun _ j => 0 ≤ j) fun i j => .int (i / 2 ^ j.toNat)) (wBin .RShift) := sv_int fun x y S K h => by
  unfold wBin at h; split at h <;> first | (exact h.elim) | (rename_i e; cases e) | skip
  exact ⟨_, _, rfl, rfl, h.1, h.2⟩
theorem sv_and : Serves X (rI0 fun i j => .int (Builtin.bitAnd i j)) (wBin .BitAnd) := sv_int0 fun x y S K h => by
  unfold wBin at h; split at h <;> first | (exact h.elim) | (rename_i e; cases e) | skip
  exact ⟨_, _, rfl, rfl, h⟩
theorem sv_or : Serves X (rI0 fun i j => .int (Builtin.bitOr i j)) (wBin .BitOr) := sv_int0 fun x y S K h => by
  unfold wBin at h; split at h <;> first | (exact h.elim) | (rename_i e; cases e) | skip
  exact ⟨_, _, rfl, rfl, h⟩
def rMulS : R2 := fun x y H Q => ∃ z n, x = .str z ∧ y = .int n ∧ 0 ≤ n ∧ n ≤ 1000000 ∧ z.length * n.toNat ≤ 1000000 ∧ (strMul z n).length ≤ 1000000 ∧ Q (.str (strMul z n)) H
def rMulD : R2 := fun x y H Q => rI CMul (fun i j => .int (i * j)) x y H Q ∨ rI CMulW (fun i j => .int (i * j)) x y H Q ∨ rRep x y H Q ∨ rMulS x y H Q
theorem op_mulD : OpR X (binaryOp .Mult) rMulD := op_mul.or (op_mulW.or (op_rep.or op_mulS))
theorem Reps.flat {H : Hp} {ds : List D} {vs : List V} (h : Reps H ds vs) : ∀ n : Nat, Reps H (List.replicate n ds).flatten (List.replicate n vs).flatten
  | 0 => by simpa using Reps.nil
  | n + 1 => by
    rw [List.replicate_succ, List.replicate_succ, List.flatten_cons, List.flatten_cons]
    exact h.append (Reps.flat h n)
theorem sv_mul : Serves X rMulD (wBin .Mult) := by
  intro ρ S σ H Φ K Q x y v u r p rx ry h fin
  unfold wBin at h
  split at h <;> first | (exact h.elim) | (rename_i e; cases e) | skip
  all_goals simp only [Rep] at rx ry
  · subst rx; subst ry
    rcases h.1 with c | c
    · exact .inl ⟨_, _, rfl, rfl, c, fin _ S _ H r p (by simp only [Rep]) h.2⟩
    · exact .inr (.inl ⟨_, _, rfl, rfl, c, fin _ S _ H r p (by simp only [Rep]) h.2⟩)
  · subst rx; subst ry
    obtain ⟨k1, k2, k3, k4, k5⟩ := h
    exact .inr (.inr (.inr ⟨_, _, rfl, rfl, k1, k2, k3, k4, fin _ S _ H r p (by simp only [Rep]) k5⟩))
  · subst rx; subst ry
    split at h
    · rename_i xs e1
      obtain ⟨vs, h1, r1⟩ := r.st _ _ e1
      obtain ⟨k1, k2, k3, k4⟩ := h
      exact .inr (.inr (.inl ⟨_, _, vs, rfl, rfl, h1, k1, k2, by rw [← r1.length]; exact k3, fun q hq => fin_new r p (r1.flat _) k4 fin hq⟩))
    · exact h.elim

/-! ### fields -/
theorem RepF.lookup {H : Hp} {f : Str} {d : D} : ∀ {fs : List (Str × D)} {gs : List (Str × V)}, RepF H fs gs → fs.lookup f = some d → ∃ v, gs.lookup f = some v ∧ Rep H d v
  | _, _, .nil, e => by simp at e
  | (g, x) :: fs, (g', v) :: gs, .cons h t, e => by
    obtain ⟨h1, h2⟩ := h
    simp only at h1 h2
    subst h1
    rw [List.lookup_cons] at e ⊢
    cases q : f == g with
    | true => rw [q] at e; cases e; exact ⟨v, rfl, h2⟩
    | false => rw [q] at e; exact RepF.lookup t e
theorem RepF.none_ {H : Hp} {f : Str} : ∀ {fs : List (Str × D)} {gs : List (Str × V)}, RepF H fs gs → fs.lookup f = none → gs.lookup f = none
  | _, _, .nil, _ => rfl
  | (g, x) :: fs, (g', v) :: gs, .cons h t, e => by
    obtain ⟨h1, h2⟩ := h
    simp only at h1 h2
    subst h1
    rw [List.lookup_cons] at e ⊢
    cases q : f == g with
    | true => rw [q] at e; cases e
    | false => rw [q] at e; exact RepF.none_ t e
theorem RepF.length {H : Hp} {fs : List (Str × D)} {gs : List (Str × V)} (h : RepF H fs gs) : fs.length = gs.length := Paired.length h
theorem RepF.put {H : Hp} {f : Str} {d : D} {v : V} (hv : Rep H d v) : ∀ {fs : List (Str × D)} {gs : List (Str × V)}, RepF H fs gs → RepF H (putD f d fs) (putF f v gs)
  | _, _, .nil => .cons ⟨rfl, hv⟩ .nil
  | (g, x) :: fs, (g', w) :: gs, .cons h t => by
    obtain ⟨h1, h2⟩ := h
    simp only at h1 h2
    subst h1
    unfold putD putF
    by_cases q : g = f
    · rw [if_pos q, if_pos q]; exact .cons ⟨rfl, hv⟩ t
    · rw [if_neg q, if_neg q]; exact .cons ⟨rfl, h2⟩ (RepF.put hv t)
theorem d_fld (C : XOw Γ nm N k X) {e : Expr} {c : Ex} {f : Str} {pos : Pos} (he : dE X e (wE Γ c)) (hb : attributeBase e f X.env (eval e X.env) = eval e X.env) : dE X (.Attribute e f pos) (wE Γ (.fld c f)) := by
  refine (pe_fld he hb).imp fun σ H Q h => ?_
  obtain ⟨ρ, S, Φ, K, E, r, p, tk, h, fin⟩ := h
  simp only [wE] at h
  refine lE.go r p tk h fun d S1 v H1 r1 p1 rp1 tk1 p1' k1 => ?_
  split at k1
  · rename_i a
    split at k1
    · rename_i D fs e1
      obtain ⟨ha, k1⟩ := k1
      split at k1
      · rename_i y e2
        obtain ⟨dx, gs, h1, r2⟩ := r1.st _ _ e1
        obtain ⟨v2, e3, rp2⟩ := r2.lookup e2
        obtain ⟨c1, c2⟩ := C.g.att D f ha
        simp only [Rep] at rp1
        subst rp1
        exact ⟨a, D, dx, gs, v2, rfl, h1, c1, c2, e3, fin y S1 v2 H1 r1 p1 rp2 k1⟩
      · exact k1.elim
    · exact k1.elim
  · exact k1.elim

/-! ### unary -/
theorem d_neg {a : Expr} {c : Ex} {pos : Pos} (ha : dE X a (wE Γ c)) : dE X (.UnaryOp .USub a pos) (wE Γ (.neg c)) := by
  refine (pe_un un_neg ha).imp fun σ H Q h => ?_
  obtain ⟨ρ, S, Φ, K, E, r, p, tk, h, fin⟩ := h
  simp only [wE] at h
  refine lE.go r p tk h fun d S1 v H1 r1 p1 rp1 tk1 p1' k1 => ?_
  split at k1
  · simp only [Rep] at rp1; subst rp1
    exact ⟨_, rfl, fin _ S1 _ H1 r1 p1 (by simp only [Rep]) k1⟩
  · exact k1.elim
theorem d_inv {a : Expr} {c : Ex} {pos : Pos} (ha : dE X a (wE Γ c)) : dE X (.UnaryOp .Invert a pos) (wE Γ (.inv c)) := by
  refine (pe_un un_inv ha).imp fun σ H Q h => ?_
  obtain ⟨ρ, S, Φ, K, E, r, p, tk, h, fin⟩ := h
  simp only [wE] at h
  refine lE.go r p tk h fun d S1 v H1 r1 p1 rp1 tk1 p1' k1 => ?_
  split at k1
  · simp only [Rep] at rp1; subst rp1
    exact ⟨_, rfl, fin _ S1 _ H1 r1 p1 (by simp only [Rep]) k1⟩
  · exact k1.elim

/-! ### data -/
mutual
theorem pd_rep {K : PySem.W.Frag} {S : Sto} {H : Hp} (s : SRep S H) : ∀ (n : Nat) (d : D) (v : V) (q : PyData), Rep H d v → pd n S d = some q → Dp K H v q
  | 0, _, _, _, _, e => by simp [pd] at e
  | n + 1, d, v, q, h, e => by
    unfold pd at e
    cases d with
    | non => simp only [Rep] at h; subst h; simp only [Option.some.injEq] at e; subst e; exact .non
    | bl b => simp only [Rep] at h; subst h; simp only [Option.some.injEq] at e; subst e; exact .bl b
    | int i => simp only [Rep] at h; subst h; simp only [Option.some.injEq] at e; subst e; exact .int i
    | str x => simp only [Rep] at h; subst h; simp only [Option.some.injEq] at e; subst e; exact .str x
    | ty x => simp at e
    | tup ds =>
      simp only [Rep] at h
      obtain ⟨a, vs, rfl, ha, hr⟩ := h
      obtain ⟨qs, e1, rfl⟩ := Option.map_eq_some_iff.mp e
      exact .tup (SqT.of ha) (pdl_rep s n ds vs qs hr e1)
    | ref a =>
      simp only [Rep] at h; subst h
      simp only at e
      cases e0 : lstAt S a with
      | none => rw [e0] at e; cases e
      | some ds =>
        rw [e0] at e
        obtain ⟨qs, e1, rfl⟩ := Option.map_eq_some_iff.mp e
        unfold lstAt at e0
        split at e0
        · rename_i ds' e2
          cases e0
          obtain ⟨vs, h1, hr⟩ := s _ _ e2
          exact .lst (SqL.of h1) (pdl_rep s n ds vs qs hr e1)
        · rename_i ds' e2
          cases e0
          obtain ⟨o, vs, h1, hr⟩ := s _ _ e2
          exact .lst (.inl (.inr ⟨o, h1⟩)) (pdl_rep s n ds vs qs hr e1)
        · cases e0
theorem pdl_rep {K : PySem.W.Frag} {S : Sto} {H : Hp} (s : SRep S H) : ∀ (n : Nat) (ds : List D) (vs : List V) (qs : List PyData), Reps H ds vs → pdl (pd n S) ds = some qs → DpAll K H vs qs
  | n, [], vs, qs, h, e => by
    rw [h.nil_inv]; simp only [pdl, Option.some.injEq] at e; subst e; exact .nil
  | n, d :: ds, vs, qs, h, e => by
    obtain ⟨v, w, rfl, h1, h2⟩ := h.cons_inv
    unfold pdl at e
    cases e1 : pd n S d with
    | none => rw [e1] at e; cases e
    | some q =>
      rw [e1] at e
      cases e2 : pdl (pd n S) ds with
      | none => rw [e2] at e; cases e
      | some qs' =>
        rw [e2] at e
        cases e
        exact .cons (pd_rep s n d v q h1 e1) (pdl_rep s n ds w qs' h2 e2)
end
theorem lstAt_rep {K : PySem.W.Frag} {S : Sto} {H : Hp} (s : SRep S H) {a : Addr} {ds : List D} (e : lstAt S a = some ds) : ∃ vs, SqL K H a vs ∧ Reps H ds vs := by
  unfold lstAt at e
  split at e
  · rename_i ds' e2
    cases e
    obtain ⟨vs, h1, hr⟩ := s _ _ e2
    exact ⟨vs, SqL.of h1, hr⟩
  · rename_i ds' e2
    cases e
    obtain ⟨o, vs, h1, hr⟩ := s _ _ e2
    exact ⟨vs, .inl (.inr ⟨o, h1⟩), hr⟩
  · cases e
end
end DL

/-! DL4: comparisons, truth, subscripts, slices. -/
namespace DL
open PySem PySem.Spec PyProof.Rows L2

/-! ### keys -/
theorem keyK_rep {H : Hp} {d : D} {v : V} {k : Key} (h : Rep H d v) (e : keyK d = some k) : v = kV k ∧ d = kD k := by
  cases d <;> simp only [keyK, Option.some.injEq] at e <;> (try cases e)
  · simp only [Rep] at h; exact ⟨h, rfl⟩
  · simp only [Rep] at h; exact ⟨h, rfl⟩
theorem keyKs_rep {H : Hp} : ∀ {ds : List D} {vs : List V} {ks : List Key}, Reps H ds vs → keyKs ds = some ks → vs = ks.map kV ∧ ds = ks.map kD
  | [], vs, ks, h, e => by
    rw [h.nil_inv]; simp only [keyKs, Option.some.injEq] at e; subst e; exact ⟨rfl, rfl⟩
  | d :: ds, vs, ks, h, e => by
    obtain ⟨v, w, rfl, h1, h2⟩ := h.cons_inv
    unfold keyKs at e
    cases e1 : keyK d with
    | none => rw [e1] at e; cases e
    | some k =>
      rw [e1] at e
      cases e2 : keyKs ds with
      | none => rw [e2] at e; cases e
      | some ks' =>
        rw [e2] at e
        cases e
        obtain ⟨a, b⟩ := keyK_rep h1 e1
        obtain ⟨c, d'⟩ := keyKs_rep h2 e2
        exact ⟨by rw [a, c]; rfl, by rw [b, d']; rfl⟩
theorem kD_inj {a b : Key} (h : kD a = kD b) : a = b := by
  cases a <;> cases b <;> simp only [kD, D.int.injEq, D.str.injEq, reduceCtorEq] at h
  · rw [h]
  · rw [h]
theorem kDs_inj {a b : List Key} (h : kDs a = kDs b) : a = b := by
  unfold kDs at h
  simp only [D.tup.injEq] at h
  exact (List.map_inj_right fun x y e => kD_inj e).mp h
def RelD (H : Hp) : Option D → Option V → Prop
  | some d, some v => Rep H d v
  | none, none => True
  | _, _ => False
theorem dget_T {H : Hp} {k : List Key} : ∀ {kvs : List (D × D)} {kts : List (List Key × V)}, RepT H kvs kts → RelD H (dget kvs (kDs k)) (valV kts k)
  | _, _, .nil => trivial
  | (x, d) :: kvs, (q, v) :: kts, .cons h t => by
    obtain ⟨h1, h2⟩ := h
    simp only at h1 h2
    subst h1
    by_cases e : q = k
    · subst e
      rw [valV_pos (by rfl)]
      unfold dget
      rw [List.find?_cons_of_pos (by simp)]
      exact h2
    · rw [valV_neg (p := (q, v)) (k := k) e]
      have ne : ¬ kDs q = kDs k := fun z => e (kDs_inj z)
      unfold dget
      rw [List.find?_cons_of_neg (by simpa using ne)]
      exact dget_T t
theorem dget_K {H : Hp} {k : Key} : ∀ {kvs : List (D × D)} {kts : List (Key × V)}, RepK H kvs kts → RelD H (dget kvs (kD k)) (valV kts k)
  | _, _, .nil => trivial
  | (x, d) :: kvs, (q, v) :: kts, .cons h t => by
    obtain ⟨h1, h2⟩ := h
    simp only at h1 h2
    subst h1
    by_cases e : q = k
    · subst e
      rw [valV_pos (by rfl)]
      unfold dget
      rw [List.find?_cons_of_pos (by simp)]
      exact h2
    · rw [valV_neg (p := (q, v)) (k := k) e]
      have ne : ¬ kD q = kD k := fun z => e (kD_inj z)
      unfold dget
      rw [List.find?_cons_of_neg (by simpa using ne)]
      exact dget_K t
theorem RelD.some_ {H : Hp} {d : D} {o : Option V} (h : RelD H (some d) o) : ∃ v, o = some v ∧ Rep H d v := by
  cases o with
  | none => exact h.elim
  | some v => exact ⟨v, rfl, h⟩
theorem RelD.is {H : Hp} {x : Option D} {o : Option V} (h : RelD H x o) : o.isSome = x.isSome := by
  cases x <;> cases o <;> first | rfl | exact h.elim
/-- a look into a dict -/
theorem dget_at {S : Sto} {H : Hp} (s : SRep S H) {a : Addr} {lk tk : Bool} {kvs : List (D × D)} (e : S a = some (.dct lk tk kvs)) {x : D} {v : V} (rx : Rep H x v) (hk : keyOk tk x = true) :
    ∃ o, DGet H a v o ∧ RelD H (dget kvs x) o := by
  have m := s _ _ e
  unfold keyOk at hk
  cases tk with
  | true =>
    rw [if_pos rfl] at hk
    obtain ⟨ks, ek⟩ := Option.isSome_iff_exists.mp hk
    obtain ⟨kts, h1, h2⟩ := m
    cases x <;> simp only [keyT] at ek <;> (try cases ek)
    rename_i ds
    simp only [Rep] at rx
    obtain ⟨b, vs, rfl, hb, hr⟩ := rx
    obtain ⟨e1, e2⟩ := keyKs_rep hr ek
    have rd : Rd H a (.dT kts) := by
      cases lk with
      | false => exact .inl h1
      | true => exact .inr h1
    refine ⟨valV kts ks, .inr ⟨kts, ks, b, rd, rfl, by rw [hb, e1], rfl⟩, ?_⟩
    rw [show D.tup ds = kDs ks from by rw [e2]; rfl]
    exact dget_T h2
  | false =>
    rw [if_neg Bool.false_ne_true] at hk
    obtain ⟨ks, ek⟩ := Option.isSome_iff_exists.mp hk
    obtain ⟨kts, h1, h2⟩ := m
    obtain ⟨e1, e2⟩ := keyK_rep rx ek
    have rd : Rd H a (.dK kts) := by
      cases lk with
      | false => exact .inl h1
      | true => exact .inr h1
    refine ⟨valV kts ks, .inl ⟨kts, ks, rd, e1, rfl⟩, ?_⟩
    rw [e2]
    exact dget_K h2

section
variable {Γ : GE} {nm : List (Str × NameKind)} {N : List Str} {k : Nat} {X : Cx}
/-! ### comparisons -/
def ServesC (X : Cx) (r : R2) (w : D → D → Sto → (Bool → Prop) → Prop) : Prop := ∀ (S : Sto) (H : Hp) (Kb : Bool → Prop) (Q : VK) (x y : D) (v u : V), SRep S H → Rep H x v → Rep H y u → w x y S Kb →
  (∀ t, Kb t → Q (.bl t) H) → r v u H Q
def rEqA (K : PySem.W.Frag) : R2 := fun x y H Q => rEq x y H Q ∨ rEqD K x y H Q
def rNeA (K : PySem.W.Frag) : R2 := fun x y H Q => rNe x y H Q ∨ rNeD K x y H Q
theorem sv_eq : ServesC X (rEqA X.K) wEq := by
  intro S H Kb Q x y v u s rx ry h fin
  unfold wEq at h
  split at h
  case h_9 =>
    obtain ⟨p, q, e1, e2, s1, s2, h⟩ := h
    exact .inr ⟨p, q, pd_rep s 8 _ _ _ rx e1, pd_rep s 8 _ _ _ ry e2, s1, s2, fin _ h⟩
  all_goals
    simp only [Rep] at rx ry
    subst rx; subst ry
    refine .inl ⟨rfl, ?_⟩
    first
      | exact fin _ (by simpa using h)
      | (have q := fin _ h; simpa using q)
theorem sv_ne : ServesC X (rNeA X.K) (fun x y S Kb => wEq x y S fun b => Kb (!b)) := by
  intro S H Kb Q x y v u s rx ry h fin
  try simp only at h
  unfold wEq at h
  split at h
  case h_9 =>
    obtain ⟨p, q, e1, e2, s1, s2, h⟩ := h
    exact .inr ⟨p, q, pd_rep s 8 _ _ _ rx e1, pd_rep s 8 _ _ _ ry e2, s1, s2, fin _ h⟩
  all_goals
    simp only [Rep] at rx ry
    subst rx; subst ry
    refine .inl ⟨rfl, ?_⟩
    first
      | exact fin _ (by simpa using h)
      | (have q := fin _ h; simpa using q)
def rLtA (K : PySem.W.Frag) : R2 := fun x y H Q => rI0 (fun i j => .bl (decide (i < j))) x y H Q ∨ rLtT K x y H Q
theorem Reps.ints {H : Hp} : ∀ {ns : List Int} {vs : List V}, Reps H (ns.map D.int) vs → vs = ns.map V.int
  | [], vs, h => h.nil_inv
  | n :: ns, vs, h => by
    obtain ⟨v, w, rfl, h1, h2⟩ := Reps.cons_inv (d := .int n) (ds := ns.map D.int) h
    simp only [Rep] at h1
    rw [h1, Reps.ints h2]; rfl
theorem Reps.strs {H : Hp} : ∀ {ns : List Str} {vs : List V}, Reps H (ns.map D.str) vs → vs = ns.map V.str
  | [], vs, h => h.nil_inv
  | n :: ns, vs, h => by
    obtain ⟨v, w, rfl, h1, h2⟩ := Reps.cons_inv (d := .str n) (ds := ns.map D.str) h
    simp only [Rep] at h1
    rw [h1, Reps.strs h2]; rfl
theorem Reps.bls {H : Hp} : ∀ {ns : List Bool} {vs : List V}, Reps H (ns.map D.bl) vs → vs = ns.map V.bl
  | [], vs, h => h.nil_inv
  | n :: ns, vs, h => by
    obtain ⟨v, w, rfl, h1, h2⟩ := Reps.cons_inv (d := .bl n) (ds := ns.map D.bl) h
    simp only [Rep] at h1
    rw [h1, Reps.bls h2]; rfl
theorem sv_lt : ServesC X (rLtA X.K) (fun x y _ Kb => wLt x y Kb) := by
  intro S H Kb Q x y v u s rx ry h fin
  try simp only at h
  unfold wLt at h
  split at h
  · simp only [Rep] at rx ry
    subst rx; subst ry
    exact .inl ⟨_, _, rfl, rfl, fin _ h⟩
  · obtain ⟨ns, ms, rfl, rfl, h⟩ := h
    simp only [Rep] at rx ry
    obtain ⟨a, vs, rfl, h1, r1⟩ := rx
    obtain ⟨b, ws, rfl, h2, r2⟩ := ry
    rw [r1.ints] at h1
    rw [r2.ints] at h2
    exact .inr ⟨a, b, ns, ms, rfl, rfl, SqT.of h1, SqT.of h2, fin _ h⟩
  · exact h.elim
theorem sv_le : ServesC X (rI0 fun i j => .bl (decide (i ≤ j))) (fun x y _ Kb => wLe x y Kb) := by
  intro S H Kb Q x y v u s rx ry h fin
  try simp only at h
  unfold wLe at h
  split at h
  · simp only [Rep] at rx ry
    subst rx; subst ry
    exact ⟨_, _, rfl, rfl, fin _ h⟩
  · exact h.elim
theorem sv_gt' : ServesC X (rI0 fun i j => .bl (decide (j < i))) (fun x y _ Kb => wGt x y Kb) := by
  intro S H Kb Q x y v u s rx ry h fin
  try simp only at h
  unfold wGt at h
  split at h
  · simp only [Rep] at rx ry
    subst rx; subst ry
    exact ⟨_, _, rfl, rfl, fin _ h⟩
  · exact h.elim
theorem sv_ge : ServesC X (rI0 fun i j => .bl (decide (j ≤ i))) (fun x y _ Kb => wLe y x Kb) := by
  intro S H Kb Q x y v u s rx ry h fin
  try simp only at h
  unfold wLe at h
  split at h
  · simp only [Rep] at rx ry
    subst rx; subst ry
    exact ⟨_, _, rfl, rfl, fin _ h⟩
  · exact h.elim
def rIsNo : R2 := fun x y H Q => y = .non ∧ Q (.bl (decide (x = .non))) H
def rNotNo : R2 := fun x y H Q => y = .non ∧ Q (.bl (!decide (x = .non))) H
theorem non_iff {H : Hp} {x : D} {v : V} (h : Rep H x v) : (v = .non) ↔ (x = .non) := by
  cases x <;> simp only [Rep] at h <;> first | (subst h; simp) | (obtain ⟨a, vs, rfl, _⟩ := h; simp)
theorem sv_is : ServesC X rIsNo (fun x y _ Kb => y = .non ∧ Kb (decide (x = .non))) := by
  intro S H Kb Q x y v u s rx ry h fin
  obtain ⟨rfl, h⟩ := h
  simp only [Rep] at ry
  subst ry
  refine ⟨rfl, ?_⟩
  have e : decide (v = V.non) = decide (x = D.non) := decide_eq_decide.mpr (non_iff rx)
  rw [e]
  exact fin _ h
theorem sv_isnot : ServesC X rNotNo (fun x y _ Kb => y = .non ∧ Kb (!decide (x = .non))) := by
  intro S H Kb Q x y v u s rx ry h fin
  obtain ⟨rfl, h⟩ := h
  simp only [Rep] at ry
  subst ry
  refine ⟨rfl, ?_⟩
  have e : decide (v = V.non) = decide (x = D.non) := decide_eq_decide.mpr (non_iff rx)
  rw [e]
  exact fin _ h
/-! in -/
def rInK' (neg : Bool) : R2 := fun x y H Q => ∃ a o, y = .ref a ∧ DGet H a x o ∧ Q (.bl (if neg then !o.isSome else o.isSome)) H
theorem op_inK (hu : X.A.units + 1 < cLine) : OpR X (compareOp .In) (rInK' false) := by
  intro pins s σ H x y v u Q I rx ry h
  obtain ⟨a, o, rfl, g, q⟩ := h
  cases ry
  exact d_in hu I g rx fun s' I' => ⟨.bl o.isSome, H, I', rfl, q⟩
theorem op_notInK (hu : X.A.units + 1 < cLine) : OpR X (compareOp .NotIn) (rInK' true) := by
  intro pins s σ H x y v u Q I rx ry h
  obtain ⟨a, o, rfl, g, q⟩ := h
  cases ry
  exact d_notIn hu I g rx fun s' I' => ⟨.bl (!o.isSome), H, I', rfl, q⟩
def rSign (neg : Bool) : R2 := fun x y H Q => ∃ (c : Nat) (z : Str), x = .str ⟨#[c]⟩ ∧ y = .str z ∧ Q (.bl (if neg then !decide (c ∈ z.cps.toList) else decide (c ∈ z.cps.toList))) H
def rInX (K : PySem.W.Frag) (neg : Bool) : R2 := fun x y H Q => ∃ d ds, Dp K H x d ∧ Dp K H y (.list ds) ∧ SeqAt.shaped d = true ∧ SeqAt.shaped (.list ds) = true ∧ Q (.bl (if neg then !ds.any (fun z => PyData.eqv z d) else ds.any fun z => PyData.eqv z d)) H
def rInA (K : PySem.W.Frag) (neg : Bool) : R2 := fun x y H Q => rIn K neg x y H Q ∨ rInX K neg x y H Q ∨ rInK' neg x y H Q ∨ rSign neg x y H Q
theorem op_inA (hr : L2H.RoomH k X.A) : OpR X (compareOp .In) (rInA X.K false) := by
  have h1 := hr.un
  exact op_in_seq.or ((op_inD (by omega)).or ((op_inK (by omega)).or op_in_sign))
theorem op_notInA (hr : L2H.RoomH k X.A) : OpR X (compareOp .NotIn) (rInA X.K true) := by
  have h1 := hr.un
  exact op_notIn_seq.or ((op_notInD (by omega)).or ((op_notInK (by omega)).or op_notIn_sign))
theorem flat_rep {H : Hp} {d : D} {v : V} (h : Rep H d v) (f : flatD d = true) : flatV v = true := by
  cases d <;> simp only [flatD] at f <;> (try cases f) <;> simp only [Rep] at h <;> subst h <;> rfl
theorem flats_rep {H : Hp} : ∀ {ds : List D} {vs : List V}, Reps H ds vs → ds.all flatD = true → vs.all flatV = true
  | [], _, h, _ => by rw [h.nil_inv]; rfl
  | d :: ds, _, h, f => by
    obtain ⟨v, w, rfl, h1, h2⟩ := h.cons_inv
    rw [List.all_cons, Bool.and_eq_true] at f ⊢
    exact ⟨flat_rep h1 f.1, flats_rep h2 f.2⟩
theorem eqF_rep {H : Hp} {d e : D} {v u : V} (h : Rep H d v) (h' : Rep H e u) (f : flatD d = true) (f' : flatD e = true) : eqV v u = eqF d e := by
  cases d <;> simp only [flatD] at f <;> (try cases f) <;> cases e <;> simp only [flatD] at f' <;> (try cases f') <;> simp only [Rep] at h h' <;> subst h <;> subst h' <;> rfl
theorem inF_rep {H : Hp} {x : D} {v : V} (hx : Rep H x v) (fx : flatD x = true) : ∀ {ds : List D} {vs : List V}, Reps H ds vs → ds.all flatD = true → inV v vs = ds.any fun y => eqF y x
  | [], _, h, _ => by rw [h.nil_inv]; rfl
  | d :: ds, _, h, f => by
    obtain ⟨w, r, rfl, h1, h2⟩ := h.cons_inv
    rw [List.all_cons, Bool.and_eq_true] at f
    show (eqV w v || inV v r) = (eqF d x || ds.any fun y => eqF y x)
    rw [eqF_rep h1 hx f.1 fx, inF_rep hx fx h2 f.2]
theorem sv_in {neg : Bool} : ServesC X (rInA X.K neg) (fun x y S Kb => wIn x y S fun b => Kb (if neg then !b else b)) := by
  intro S H Kb Q x y v u s rx ry h fin
  try simp only at h
  unfold wIn at h
  split at h
  · obtain ⟨c, rfl, h⟩ := h
    simp only [Rep] at rx ry
    subst rx; subst ry
    refine .inr (.inr (.inr ⟨c, _, rfl, rfl, ?_⟩))
    have q := fin _ h
    cases neg <;> exact q
  · rename_i ds
    obtain ⟨f1, f2, h⟩ := h
    simp only [Rep] at ry
    obtain ⟨a, vs, rfl, h1, r1⟩ := ry
    refine .inl ⟨a, vs, rfl, .inr (SqT.of h1), flat_rep rx f1, flats_rep r1 f2, ?_⟩
    have q := fin _ h
    rw [inF_rep rx f1 r1 f2]
    cases neg <;> exact q
  · rename_i a
    simp only [Rep] at ry
    subst ry
    split at h
    · rename_i lk tk kvs e1
      obtain ⟨hk, h⟩ := h
      obtain ⟨o, g, ro⟩ := dget_at s e1 rx hk
      refine .inr (.inr (.inl ⟨a, o, rfl, g, ?_⟩))
      have q := fin _ h
      rw [← RelD.is ro] at q
      cases neg <;> exact q
    · split at h
      · rename_i ds e1
        obtain ⟨vs, h1, r1⟩ := lstAt_rep (K := X.K) s e1
        rcases h with ⟨f1, f2, h⟩ | ⟨p, qs, e2, e3, s1, s2, h⟩
        · refine .inl ⟨a, vs, rfl, .inl h1, flat_rep rx f1, flats_rep r1 f2, ?_⟩
          have q := fin _ h
          rw [inF_rep rx f1 r1 f2]
          cases neg <;> exact q
        · refine .inr (.inl ⟨p, qs, pd_rep s 8 _ _ _ rx e2, .lst h1 (pdl_rep s 7 _ _ _ r1 e3), s1, s2, ?_⟩)
          have q := fin _ h
          cases neg <;> exact q
      · exact h.elim
  · exact h.elim

/-- any comparison -/
def rCmp (K : PySem.W.Frag) : CmpOp → R2
  | .Eq => rEqA K
  | .NotEq => rNeA K
  | .Lt => rLtA K
  | .LtE => rI0 fun i j => .bl (decide (i ≤ j))
  | .Gt => rI0 fun i j => .bl (decide (j < i))
  | .GtE => rI0 fun i j => .bl (decide (j ≤ i))
  | .Is => rIsNo
  | .IsNot => rNotNo
  | .In => rInA K false
  | .NotIn => rInA K true
theorem op_cmp (hr : L2H.RoomH k X.A) (op : CmpOp) : OpR X (compareOp op) (rCmp X.K op) := by
  cases op with
  | Eq => exact op_eq.or (op_eqD hr.units)
  | NotEq => exact op_ne.or (op_neD hr.units)
  | Lt => exact op_lt.or (op_ltT hr.units0)
  | LtE => exact op_le
  | Gt => exact op_gt
  | GtE => exact op_ge
  | Is => exact op_isN
  | IsNot => exact op_notN
  | In => exact op_inA hr
  | NotIn => exact op_notInA hr
theorem sv_cmp (op : CmpOp) : ServesC X (rCmp X.K op) (wCmp op) := by
  cases op with
  | Eq => exact sv_eq
  | NotEq => exact sv_ne
  | Lt => exact sv_lt
  | LtE => exact sv_le
  | Gt => exact sv_gt'
  | GtE => exact sv_ge
  | Is => exact sv_is
  | IsNot => exact sv_isnot
  | In => exact fun S H Kb Q x y v u s rx ry h fin => sv_in (neg := false) S H Kb Q x y v u s rx ry h fin
  | NotIn => exact fun S H Kb Q x y v u s rx ry h fin => sv_in (neg := true) S H Kb Q x y v u s rx ry h fin
end
end DL

/-! DL5: tests, and/or/not, subscripts, slices. -/
namespace DL
open PySem PySem.Spec PyProof.Rows L2
section
variable {Γ : GE} {nm : List (Str × NameKind)} {N : List Str} {k : Nat} {X : Cx}

theorem d_cmp (C : XOw Γ nm N k X) {a b : Expr} {ca cb : Ex} {op : CmpOp} {pos : Pos} (ha : dE X a (wE Γ ca)) (hb : dE X b (wE Γ cb)) (hm : behindInMarks op b = false) : dE X (.Compare a [op] [b] pos) (wE Γ (.cmp op ca cb)) := by
  refine (pe_cmpR (op_cmp C.rh op) ha hb hm).imp fun σ H Q h => ?_
  obtain ⟨ρ, S, Φ, K, E, r, p, tk, h, fin⟩ := h
  simp only [wE] at h
  refine lE.go r p tk h fun d S1 v H1 r1 p1 rp1 tk1 p1' k1 => ?_
  refine lE.go (Φ := Φ.holdV d v) r1 p1' tk1 k1 fun d2 S2 v2 H2 r2 p2 rp2 tk2 p2' k2 => ?_
  exact sv_cmp op S2 H2 (fun t => K (.bl t) S2) Q d d2 v v2 r2.st p2.2 rp2 k2 fun t kt => fin (.bl t) S2 (.bl t) H2 r2 p2.1 (by simp only [Rep]) kt
theorem d_cmp2 (C : XOw Γ nm N k X) {a b c : Expr} {ca cb cc : Ex} {op op' : CmpOp} {pos : Pos} (ha : dE X a (wE Γ ca)) (hb : dE X b (wE Γ cb)) (hc : dE X c (wE Γ cc)) (hm : lastMarks [op, op'] [b, c] = false) : dE X (.Compare a [op, op'] [b, c] pos) (wE Γ (.cmp2 op op' ca cb cc)) := by
  refine (pe_chain (op_cmp C.rh op) (op_cmp C.rh op') ha hb hc hm).imp fun σ H Q h => ?_
  obtain ⟨ρ, S, Φ, K, E, r, p, tk, h, fin⟩ := h
  simp only [wE] at h
  refine lE.go r p tk h fun d S1 v H1 r1 p1 rp1 tk1 p1' k1 => ?_
  refine lE.go (Φ := Φ.holdV d v) r1 p1' tk1 k1 fun d2 S2 v2 H2 r2 p2 rp2 tk2 p2' k2 => ?_
  refine sv_cmp op S2 H2 _ _ d d2 v v2 r2.st p2.2 rp2 k2 fun t kt => ⟨t, rfl, ?_⟩
  cases t with
  | false => exact fin (.bl false) S2 (.bl false) H2 r2 p2.1 (by simp only [Rep]) kt
  | true =>
    refine lE.go (Φ := (Φ.holdV d v).holdV d2 v2) r2 p2' tk2 kt fun d3 S3 v3 H3 r3 p3 rp3 tk3 p3' k3 => ?_
    exact sv_cmp op' S3 H3 (fun t => K (.bl t) S3) Q d2 d3 v2 v3 r3.st p3.2 rp3 k3 fun t kt => fin (.bl t) S3 (.bl t) H3 r3 p3.1.1 (by simp only [Rep]) kt

/-! ### truth -/
theorem tv_rep {K : PySem.W.Frag} {S : Sto} {H : Hp} (s : SRep S H) {d : D} {v : V} {t : Bool} (h : Rep H d v) (e : tv d S = some t) : TruV K v H t := by
  unfold tv at e
  split at e
  · simp only [Rep] at h; subst h; cases e; exact rfl
  · simp only [Rep] at h; subst h; cases e; exact rfl
  · simp only [Rep] at h; subst h; cases e; exact rfl
  · simp only [Rep] at h; subst h
    split at e
    · rename_i hz; cases e; exact ⟨hz, rfl⟩
    · cases e
  · simp only [Rep] at h
    obtain ⟨a, vs, rfl, ha, hr⟩ := h
    cases e
    refine .inr (.inl ⟨vs, SqT.of ha, ?_⟩)
    have := hr.length
    rename_i ds
    cases ds <;> cases vs <;> first | rfl | simp at this
  · simp only [Rep] at h; subst h
    obtain ⟨ds, e1, rfl⟩ := Option.map_eq_some_iff.mp e
    obtain ⟨vs, h1, hr⟩ := lstAt_rep (K := K) s e1
    refine .inl ⟨vs, h1, ?_⟩
    have := hr.length
    cases ds <;> cases vs <;> first | rfl | simp at this
  · cases e
theorem wTru_of {d : D} {S : Sto} {Kb : Bool → Prop} (h : wTru d S Kb) : ∃ t, tv d S = some t ∧ Kb t := by
  unfold wTru at h
  cases e : tv d S with
  | none => rw [e] at h; exact h.elim
  | some t => rw [e] at h; exact ⟨t, rfl, h⟩
abbrev WT' := Env' → Sto → (Bool → Sto → Prop) → KtE → Prop
def lT (X : Cx) (τ : WT') : TT := fun σ H Q => ∃ ρ S Φ K E, Rr ρ S σ H ∧ Φ.p H ∧ TakesD X Φ ρ σ E ∧ τ ρ S K E ∧ ∀ t S' H', Rr ρ S' σ H' → Φ.p H' → K t S' → Q t H'
abbrev dT (X : Cx) (e : Expr) (τ : WT') : Prop := PT X e (lT X τ)
def wT (Γ : GE) (c : Ex) : WT' := fun ρ S Kb E => wE Γ c ρ S (fun d S1 => wTru d S1 fun t => Kb t S1) E
theorem lT.go {X : Cx} {τ : WT'} {ρ : Env'} {S : Sto} {Φ : TP} {σ : L2.St} {H : Hp} {K : Bool → Sto → Prop} {E : KtE} {Q : Bool → Hp → Prop} (r : Rr ρ S σ H) (p : Φ.p H) (tk : TakesD X Φ ρ σ E) (h : τ ρ S K E)
    (fin : ∀ t S' H', Rr ρ S' σ H' → Φ.p H' → K t S' → Q t H') : lT X τ σ H Q := ⟨ρ, S, Φ, K, E, r, p, tk, h, fin⟩
theorem t_val {e : Expr} {c : Ex} (ha : dE X e (wE Γ c)) (he : ∀ whole, isTrue e X.env whole = (do let v ← whole; standAt e.pos; holding [v] (truthy v))) : dT X e (wT Γ c) := by
  refine (pt_truth ha he).imp fun σ H Q h => ?_
  obtain ⟨ρ, S, Φ, K, E, r, p, tk, h, fin⟩ := h
  unfold wT at h
  refine lE.go r p tk h fun d S1 v H1 r1 p1 rp1 tk1 p1' k1 => ?_
  obtain ⟨t, e1, kt⟩ := wTru_of k1
  exact ⟨t, tv_rep r1.st rp1 e1, fin t S1 H1 r1 p1 kt⟩
theorem t_cmp (C : XOw Γ nm N k X) {a b : Expr} {ca cb : Ex} {op : CmpOp} {pos : Pos} (ha : dE X a (wE Γ ca)) (hb : dE X b (wE Γ cb)) (hm : behindInMarks op b = false) : dT X (.Compare a [op] [b] pos) (wT Γ (.cmp op ca cb)) := by
  refine (pt_cmpR (op_cmp C.rh op) ha hb hm).imp fun σ H Q h => ?_
  obtain ⟨ρ, S, Φ, K, E, r, p, tk, h, fin⟩ := h
  simp only [wT, wE] at h
  refine lE.go r p tk h fun d S1 v H1 r1 p1 rp1 tk1 p1' k1 => ?_
  refine lE.go (Φ := Φ.holdV d v) r1 p1' tk1 k1 fun d2 S2 v2 H2 r2 p2 rp2 tk2 p2' k2 => ?_
  exact sv_cmp op S2 H2 _ _ d d2 v v2 r2.st p2.2 rp2 k2 fun t kt => ⟨t, rfl, fin t S2 H2 r2 p2.1 kt⟩
theorem t_cmp2 (C : XOw Γ nm N k X) {a b c : Expr} {ca cb cc : Ex} {op op' : CmpOp} {pos : Pos} (ha : dE X a (wE Γ ca)) (hb : dE X b (wE Γ cb)) (hc : dE X c (wE Γ cc)) (hm : lastMarks [op, op'] [b, c] = false) : dT X (.Compare a [op, op'] [b, c] pos) (wT Γ (.cmp2 op op' ca cb cc)) := by
  refine (pt_chain (op_cmp C.rh op) (op_cmp C.rh op') ha hb hc hm).imp fun σ H Q h => ?_
  obtain ⟨ρ, S, Φ, K, E, r, p, tk, h, fin⟩ := h
  simp only [wT, wE] at h
  refine lE.go r p tk h fun d S1 v H1 r1 p1 rp1 tk1 p1' k1 => ?_
  refine lE.go (Φ := Φ.holdV d v) r1 p1' tk1 k1 fun d2 S2 v2 H2 r2 p2 rp2 tk2 p2' k2 => ?_
  refine sv_cmp op S2 H2 _ _ d d2 v v2 r2.st p2.2 rp2 k2 fun t kt => ⟨t, rfl, ?_⟩
  cases t with
  | false => exact ⟨false, rfl, fin false S2 H2 r2 p2.1 kt⟩
  | true =>
    refine lE.go (Φ := (Φ.holdV d v).holdV d2 v2) r2 p2' tk2 kt fun d3 S3 v3 H3 r3 p3 rp3 tk3 p3' k3 => ?_
    exact sv_cmp op' S3 H3 _ _ d2 d3 v2 v3 r3.st p3.2 rp3 k3 fun t kt => ⟨t, rfl, fin t S3 H3 r3 p3.1.1 kt⟩
theorem t_not {a : Expr} {c : Ex} {pos : Pos} (ha : dT X a (wT Γ c)) : dT X (.UnaryOp .Not a pos) (wT Γ (.notE c)) := by
  refine (pt_not ha).imp fun σ H Q h => ?_
  obtain ⟨ρ, S, Φ, K, E, r, p, tk, h, fin⟩ := h
  simp only [wT, wE] at h
  refine lT.go (K := fun t S1 => K (!t) S1) r p tk ?_ fun t S1 H1 r1 p1 kt => fin (!t) S1 H1 r1 p1 kt
  exact h
/-- the words of and, or are pure in the first's truth -/
theorem wTru_idem {d : D} {S : Sto} {t : Bool} {K : Bool → Prop} (e : tv d S = some t) (h : wTru d S K) : K t := by
  unfold wTru at h; rw [e] at h; exact h
theorem t_and {a b : Expr} {rest : List Expr} {ca cb : Ex} {pos : Pos} (ha : dT X a (wT Γ ca)) (hb : PW X (.BoolOp .And (b :: rest) pos) (lT X (wT Γ cb))) : PW X (.BoolOp .And (a :: b :: rest) pos) (lT X (wT Γ (.andE ca cb))) := by
  refine ⟨fun whole pins s σ H Q I h => ?_⟩
  refine (pw_and ha hb).run whole pins s σ H Q I ?_
  obtain ⟨ρ, S, Φ, K, E, r, p, tk, h, fin⟩ := h
  simp only [wT, wE] at h
  refine lT.go (K := fun t S1 => if t = true then wT Γ cb ρ S1 K E else K false S1) r p tk ?_ fun t S1 H1 r1 p1 kt => ?_
  · have e : (fun (x : D) (S1 : Sto) => wTru x S1 fun t => if t = true then wT Γ cb ρ S1 K E else K false S1) = fun x S1 => wTru x S1 fun t => if t = true then wE Γ cb ρ S1 (fun d S1 => wTru d S1 fun t => K t S1) E else wTru x S1 fun t => K t S1 := by
      funext x S1
      unfold wTru
      cases tv x S1 with
      | none => rfl
      | some t => cases t <;> simp [wT, wTru]
    unfold wT
    unfold wT at e
    rw [e]
    exact h
  · cases t with
    | true => exact lT.go r1 p1 tk kt fin
    | false => exact fin false S1 H1 r1 p1 kt
theorem t_or {a b : Expr} {rest : List Expr} {ca cb : Ex} {pos : Pos} (ha : dT X a (wT Γ ca)) (hb : PW X (.BoolOp .Or (b :: rest) pos) (lT X (wT Γ cb))) : PW X (.BoolOp .Or (a :: b :: rest) pos) (lT X (wT Γ (.orE ca cb))) := by
  refine ⟨fun whole pins s σ H Q I h => ?_⟩
  refine (pw_or ha hb).run whole pins s σ H Q I ?_
  obtain ⟨ρ, S, Φ, K, E, r, p, tk, h, fin⟩ := h
  simp only [wT, wE] at h
  refine lT.go (K := fun t S1 => if t = true then K true S1 else wT Γ cb ρ S1 K E) r p tk ?_ fun t S1 H1 r1 p1 kt => ?_
  · have e : (fun (x : D) (S1 : Sto) => wTru x S1 fun t => if t = true then K true S1 else wT Γ cb ρ S1 K E) = fun x S1 => wTru x S1 fun t => if t = true then (wTru x S1 fun t => K t S1) else wE Γ cb ρ S1 (fun d S1 => wTru d S1 fun t => K t S1) E := by
      funext x S1
      unfold wTru
      cases tv x S1 with
      | none => rfl
      | some t => cases t <;> simp [wT, wTru]
    unfold wT
    unfold wT at e
    rw [e]
    exact h
  · cases t with
    | true => exact fin true S1 H1 r1 p1 kt
    | false => exact lT.go r1 p1 tk kt fin

/-! ### and, or, not as values -/
theorem d_and {a b : Expr} {rest : List Expr} {ca cb : Ex} {pos : Pos} (ha : dE X a (wE Γ ca)) (hb : dE X (.BoolOp .And (b :: rest) pos) (wE Γ cb)) : dE X (.BoolOp .And (a :: b :: rest) pos) (wE Γ (.andE ca cb)) := by
  refine (pe_andT ha hb).imp fun σ H Q h => ?_
  obtain ⟨ρ, S, Φ, K, E, r, p, tk, h, fin⟩ := h
  simp only [wE] at h
  refine lE.go r p tk h fun d S1 v H1 r1 p1 rp1 tk1 p1' k1 => ?_
  obtain ⟨t, e1, kt⟩ := wTru_of k1
  refine ⟨t, tv_rep r1.st rp1 e1, ?_⟩
  cases t with
  | true => exact lE.go r1 p1 tk kt fun d2 S2 v2 H2 r2 p2 rp2 _ _ k2 => fin d2 S2 v2 H2 r2 p2 rp2 k2
  | false => exact fin d S1 v H1 r1 p1 rp1 kt
theorem d_or {a b : Expr} {rest : List Expr} {ca cb : Ex} {pos : Pos} (ha : dE X a (wE Γ ca)) (hb : dE X (.BoolOp .Or (b :: rest) pos) (wE Γ cb)) : dE X (.BoolOp .Or (a :: b :: rest) pos) (wE Γ (.orE ca cb)) := by
  refine (pe_orT ha hb).imp fun σ H Q h => ?_
  obtain ⟨ρ, S, Φ, K, E, r, p, tk, h, fin⟩ := h
  simp only [wE] at h
  refine lE.go r p tk h fun d S1 v H1 r1 p1 rp1 tk1 p1' k1 => ?_
  obtain ⟨t, e1, kt⟩ := wTru_of k1
  refine ⟨t, tv_rep r1.st rp1 e1, ?_⟩
  cases t with
  | true => exact fin d S1 v H1 r1 p1 rp1 kt
  | false => exact lE.go r1 p1 tk kt fun d2 S2 v2 H2 r2 p2 rp2 _ _ k2 => fin d2 S2 v2 H2 r2 p2 rp2 k2
theorem d_not {a : Expr} {ca : Ex} {pos : Pos} (ha : dE X a (wE Γ ca)) : dE X (.UnaryOp .Not a pos) (wE Γ (.notE ca)) := by
  refine (pe_notT ha).imp fun σ H Q h => ?_
  obtain ⟨ρ, S, Φ, K, E, r, p, tk, h, fin⟩ := h
  simp only [wE] at h
  refine lE.go r p tk h fun d S1 v H1 r1 p1 rp1 tk1 p1' k1 => ?_
  obtain ⟨t, e1, kt⟩ := wTru_of k1
  exact ⟨t, tv_rep r1.st rp1 e1, fin (.bl (!t)) S1 (.bl (!t)) H1 r1 p1 (by simp only [Rep]) kt⟩
theorem d_ite {a b c : Expr} {ca cb cc : Ex} {pos : Pos} (hc : dT X c (wT Γ cc)) (ha : dE X a (wE Γ ca)) (hb : dE X b (wE Γ cb)) : dE X (.IfExp c a b pos) (wE Γ (.ite cc ca cb)) := by
  refine (pe_ifExp hc ha hb).imp fun σ H Q h => ?_
  obtain ⟨ρ, S, Φ, K, E, r, p, tk, h, fin⟩ := h
  simp only [wE] at h
  refine lT.go (K := fun t S1 => if t = true then wE Γ ca ρ S1 K E else wE Γ cb ρ S1 K E) r p tk h fun t S1 H1 r1 p1 kt => ?_
  cases t with
  | true => exact lE.go r1 p1 tk kt fun d2 S2 v2 H2 r2 p2 rp2 _ _ k2 => fin d2 S2 v2 H2 r2 p2 rp2 k2
  | false => exact lE.go r1 p1 tk kt fun d2 S2 v2 H2 r2 p2 rp2 _ _ k2 => fin d2 S2 v2 H2 r2 p2 rp2 k2

/-! ### subscripts -/
def rIxD : R2 := fun x y H Q => ∃ a v, x = .ref a ∧ DGet H a y (some v) ∧ Q v H
theorem ix_dict (hu : X.A.units + 1 < cLine) : IxR X rIxD := by
  intro value slice pins s σ H x y v u Q I rx ry h hs
  obtain ⟨a, w', rfl, g, q⟩ := h
  cases rx
  exact tail_any (dict_typeIs I g) PySem.F.slot_dict_getitem.lookup (d_getItem hu I g ry fun z s3 I3 rz => ⟨w', H, I3, rz, q⟩) hs
def rIxA (K : PySem.W.Frag) : R2 := fun x y H Q => rIxL K x y H Q ∨ rIxT K x y H Q ∨ rIxS x y H Q ∨ rIxD x y H Q
theorem ix_all (hu : X.A.units + 1 < cLine) : IxR X (rIxA X.K) := ix_list.or (ix_tup.or (ix_str.or (ix_dict hu)))
theorem atI_rep {H : Hp} {ds : List D} {vs : List V} {i : Int} {d : D} (h : Reps H ds vs) (e : atI ds i = some d) : ∃ v, atI vs i = some v ∧ Rep H d v := by
  unfold atI at e ⊢
  rw [← h.length]
  cases q : ixN ds.length i with
  | none => rw [q] at e; cases e
  | some j => rw [q] at e; exact h.get e
theorem d_sub (C : XOw Γ nm N k X) {a b : Expr} {ca cb : Ex} {pos : Pos} (ha : dE X a (wE Γ ca)) (hb : dE X b (wE Γ cb)) (hs : PlainIx b) : dE X (.Subscript a b pos) (wE Γ (.sub ca cb)) := by
  refine (pe_ix (ix_all C.rh.units1) ha hb hs).imp fun σ H Q h => ?_
  obtain ⟨ρ, S, Φ, K, E, r, p, tk, h, fin⟩ := h
  simp only [wE] at h
  refine lE.go r p tk h fun d S1 v H1 r1 p1 rp1 tk1 p1' k1 => ?_
  refine lE.go (Φ := Φ.holdV d v) r1 p1' tk1 k1 fun d2 S2 v2 H2 r2 p2 rp2 tk2 p2' k2 => ?_
  obtain ⟨pΦ, rx⟩ := p2
  unfold wSub at k2
  split at k2
  · obtain ⟨i, z, rfl, e, kz⟩ := k2
    simp only [Rep] at rx rp2
    obtain ⟨b', vs, rfl, hb', hr⟩ := rx
    subst rp2
    obtain ⟨w', e2, rw'⟩ := atI_rep hr e
    exact .inr (.inl ⟨b', vs, i, w', rfl, rfl, SqT.of hb', e2, fin z S2 w' H2 r2 pΦ rw' kz⟩)
  · obtain ⟨i, c, rfl, hz, e, kz⟩ := k2
    simp only [Rep] at rx rp2
    subst rx; subst rp2
    exact .inr (.inr (.inl ⟨_, i, c, rfl, rfl, hz, e, fin _ S2 _ H2 r2 pΦ (by simp only [Rep]) kz⟩))
  · rename_i b'
    simp only [Rep] at rx
    subst rx
    split at k2
    · rename_i lk tk kvs e1
      obtain ⟨hk, z, e, kz⟩ := k2
      obtain ⟨o, g, ro⟩ := dget_at r2.st e1 rp2 hk
      rw [e] at ro
      obtain ⟨w', rfl, rw'⟩ := ro.some_
      exact .inr (.inr (.inr ⟨b', w', rfl, g, fin z S2 w' H2 r2 pΦ rw' kz⟩))
    · obtain ⟨ds, i, z, e1, rfl, e, kz⟩ := k2
      simp only [Rep] at rp2
      subst rp2
      obtain ⟨vs, h1, hr⟩ := lstAt_rep (K := X.K) r2.st e1
      obtain ⟨w', e2, rw'⟩ := atI_rep hr e
      exact .inl ⟨b', vs, i, w', rfl, rfl, h1, e2, fin z S2 w' H2 r2 pΦ rw' kz⟩
  · exact k2.elim

/-! ### slices -/
theorem cut_rep {H : Hp} {ds : List D} {vs : List V} (lo hi : Option Int) (h : Reps H ds vs) : Reps H (cutD ds lo hi) (cutV vs lo hi) := by
  unfold cutD cutV
  rw [← h.length]
  exact (h.drop _).take _
def rSlA (K : PySem.W.Frag) : V → Option Int → Option Int → Hp → VK → Prop := fun x lo hi H Q => rSlL K x lo hi H Q ∨ (∃ z, x = .str z ∧ z.length ≤ sizeLine ∧ Q (.str (cutS z lo hi)) H) ∨ rSlT K x lo hi H Q
abbrev WO' := Env' → Sto → (Option Int → Sto → Prop) → KtE → Prop
/-- a part of a slice -/
def lO (X : Cx) (τ : WO') : TO := fun σ H Q => ∃ ρ S Φ K E, Rr ρ S σ H ∧ Φ.p H ∧ TakesD X Φ ρ σ E ∧ τ ρ S K E ∧ ∀ l S' H', Rr ρ S' σ H' → Φ.p H' → K l S' → Q l H'
theorem o_none : PO X none (lO X (wO Γ none)) := by
  refine ⟨fun pins s σ H Q I h => ?_⟩
  obtain ⟨ρ, S, Φ, K, E, r, p, tk, h, fin⟩ := h
  simp only [wO] at h
  exact po_none.run pins s σ H Q I (fin none S H r p h)
theorem o_some {e : Expr} {c : Ex} (he : dE X e (wE Γ c)) : PO X (some e) (lO X (wO Γ (some c))) := by
  refine ⟨fun pins s σ H Q I h => ?_⟩
  refine (po_some he).run pins s σ H Q I ?_
  obtain ⟨ρ, S, Φ, K, E, r, p, tk, h, fin⟩ := h
  simp only [wO] at h
  refine lE.go r p tk h fun d S1 v H1 r1 p1 rp1 tk1 p1' k1 => ?_
  split at k1
  · rename_i i
    simp only [Rep] at rp1
    exact ⟨i, rp1, fin _ S1 H1 r1 p1 k1⟩
  · exact k1.elim
theorem sl_all : SlR X (fun x lo hi H Q => rSlL X.K x lo hi H Q ∨ rSlS x lo hi H Q ∨ rSlT X.K x lo hi H Q) := sl_list.or (sl_str.or sl_tup)
theorem d_slc {a : Expr} {lo hi : Option Expr} {ca : Ex} {clo chi : Option Ex} {pos p2 : Pos} (ha : dE X a (wE Γ ca)) (hl : PO X lo (lO X (wO Γ clo))) (hh : PO X hi (lO X (wO Γ chi))) : dE X (.Subscript a (.Slice lo hi none p2) pos) (wE Γ (.slc ca clo chi)) := by
  refine (pe_slice sl_all ha hl hh).imp fun σ H Q h => ?_
  obtain ⟨ρ, S, Φ, K, E, r, p, tk, h, fin⟩ := h
  simp only [wE] at h
  refine lE.go r p tk h fun d S1 v H1 r1 p1 rp1 tk1 p1' k1 => ?_
  refine ⟨ρ, S1, Φ.holdV d v, _, E, r1, p1', tk1, k1, fun l S2 H2 r2 p2 k2 => ?_⟩
  refine ⟨ρ, S2, Φ.holdV d v, _, E, r2, p2, tk1, k2, fun u S3 H3 r3 p3 k3 => ?_⟩
  obtain ⟨pΦ, rx⟩ := p3
  unfold wSlc at k3
  split at k3
  · simp only [Rep] at rx
    subst rx
    split at k3
    · rename_i ds e1
      obtain ⟨vs, h1, hr⟩ := lstAt_rep (K := X.K) r3.st e1
      exact .inl ⟨_, vs, rfl, h1, fun q hq => fin_new r3 pΦ (cut_rep l u hr) k3 fin hq⟩
    · exact k3.elim
  · simp only [Rep] at rx
    subst rx
    exact .inr (.inl ⟨_, rfl, k3.1, fin _ S3 _ H3 r3 pΦ (by simp only [Rep]) k3.2⟩)
  · rename_i ds
    simp only [Rep] at rx
    obtain ⟨b', vs, rfl, hb', hr⟩ := rx
    have rc := cut_rep l u hr
    refine .inr (.inr ⟨b', vs, rfl, SqT.of hb', ?_, fun q hq => ?_⟩)
    · intro z
      apply k3.1
      rw [rc.length]
      unfold cutV
      rw [z.1, z.2]
      simp [hr.length]
    · have t : Tm H3 (upd H3 q (.tup (cutV vs l u))) := Tm.upd_new hq
      exact fin _ S3 (.ref q) _ (r3.mono t (r3.st.newTup hq)) (Φ.mono t pΦ) (by simp only [Rep]; exact ⟨q, _, rfl, upd_same, rc.mono t⟩) k3.2
  · exact k3.elim
end
end DL

/-! DL6: calls of the program's own defs, methods and classes. -/
namespace DL
open PySem PySem.Spec PyProof.Rows L2

/-! ### argument trees -/
def noStar : Expr → Bool
  | .Starred _ _ => false
  | _ => true
theorem star_cons {e : Expr} {es : List Expr} {env : Env} (h : noStar e = true) : starEach (e :: es) env = (false, eval e env) :: starEach es env := by
  cases e <;> first | rfl | cases h
theorem star_plain {pos : Pos} {env : Env} : ∀ {es : List Expr}, es.all noStar = true → (backTo pos (starEach es env)).any (·.1) = false
  | [], _ => rfl
  | e :: es, h => by
    rw [List.all_cons, Bool.and_eq_true] at h
    rw [star_cons h.1]
    show (false || (backTo pos (starEach es env)).any (·.1)) = false
    rw [star_plain h.2]; rfl
theorem star_all {pos : Pos} {env : Env} : ∀ {es : List Expr}, es.all noStar = true → (backTo pos (starEach es env)).all (fun x => !x.1) = true
  | [], _ => rfl
  | e :: es, h => by
    rw [List.all_cons, Bool.and_eq_true] at h
    rw [star_cons h.1]
    show (true && (backTo pos (starEach es env)).all (fun x => !x.1)) = true
    rw [star_all h.2]; rfl
theorem star_len {pos : Pos} {env : Env} : ∀ {es : List Expr}, es.all noStar = true → (backTo pos (starEach es env)).length = es.length
  | [], _ => rfl
  | e :: es, h => by
    rw [List.all_cons, Bool.and_eq_true] at h
    rw [star_cons h.1]
    show (backTo pos (starEach es env)).length + 1 = es.length + 1
    rw [star_len h.2]

section
variable {Γ : GE} {nm : List (Str × NameKind)} {N : List Str} {k : Nat} {X : Cx}
/-- the callee runs; E: what is wished at this call -/
theorem run_fnG {j : Nat} {f : Addr} {fd : FuncData} {ps : List Str} {sp : Sp} {dvs : List V} {ds : List Value} {pins : List (Addr × Obj)} {σ : L2.St} {H : Hp} {s : Shared} {Q : VK} {us : List Value} {vs : List V}
    (F : FnOk X.prog X.w X.K X.mg X.base (L2.CX X.prog X.w) j f fd ps sp) (hr : Room j X.A) (hb : Binds X.K fd ps ds) (hd : Vals dvs ds) {E : XK} (hx : PassesAt (L2.CX X.prog X.w) X σ E)
    (I : Inv X pins σ H s) (r : Vals vs us) (h : sp (vs ++ dvs) H Q E) : wpAny (model X.prog X.w) X.A (call (.ref f) us) (EP X pins σ Q) X.xe s := by
  have r2 : Vals (vs ++ dvs) (us ++ ds) := r.append hd
  have hl : (us ++ ds).length = ps.length := by rw [← r2.length]; exact F.len _ _ _ _ h
  refine wpAny_call (codeAny_mono (F.run X.A X.stack s H ⟨us, []⟩ (us ++ ds) (vs ++ dvs) Q E hr I.env0 (hb s us I.kIn hl) r2 h) fun r s' hq => ?_)
  cases r with
  | error e => exact hx pins H s e s' I hq
  | ok fl =>
    cases fl with
    | ret u => exact I.after hq
    | next => exact False.elim hq
    | brk => exact False.elim hq
    | cont => exact False.elim hq
theorem passD {Φ : TP} {ρ : Env'} {σ : L2.St} {E : KtE} (tk : TakesD X Φ ρ σ E) {E' : XK} (h : ∀ cls d H, E' cls d H → wXe X.K Φ ρ σ E cls d σ H) : PassesAt (L2.CX X.prog X.w) X σ E' :=
  fun _ _ _ e s' I c => tk e s' (XE.of_call I (fun cls d H' q => h cls d H' q) c)
/-- a call by the data rule: what the callee's promise asks -/
theorem call_sp {fe : FE} {ρ : Env'} {S S2 : Sto} {σ : L2.St} {H : Hp} {Φ : TP} {K : Kt} {E : KtE} {Q : VK} {ds : List D} {vs dvs : List V} {es : List D} (r : Rr ρ S σ H) (p : Φ.p H) (tk : TakesD X Φ ρ σ E)
    (rp : Reps H ds vs) (hlen : fe.np = (vs ++ dvs).length) (hd : Reps H es dvs) (h : fe.sp (ds ++ es) S K E)
    (fin : ∀ d S' v H', Rr ρ S' σ H' → Φ.p H' → Rep H' d v → K d S' → Q v H') : toSp X.K fe (vs ++ dvs) H Q (fun cls d H' => wXe X.K Φ ρ σ E cls d σ H') := by
  refine ⟨hlen.symm, ds ++ es, S, K, E, rp.append hd, r.st, h, fun d S' v H' k1 rv s' t => ?_, fun x S' H' k1 s' t => ?_⟩
  · exact fin d S' v H' (r.mono t s') (Φ.mono t p) rv k1
  · exact ⟨x, S', rfl, rfl, rfl, r.mono t s', Φ.mono t p, k1⟩
theorem fill_of {fe : FE} {ds es : List D} (h : fill fe ds = some es) : ds.length ≤ fe.np ∧ fe.np - ds.length ≤ fe.df.length ∧ es = ds ++ fe.df.drop (fe.df.length - (fe.np - ds.length)) := by
  unfold fill at h
  split at h
  · rename_i c; cases h; exact ⟨c.1, c.2, rfl⟩
  · cases h
theorem wCall_of {fe : FE} {ds : List D} {S : Sto} {K : Kt} {E : KtE} (h : wCall fe ds S K E) : ∃ es, fill fe ds = some es ∧ fe.sp es S K E := by
  unfold wCall at h
  cases e : fill fe ds with
  | none => rw [e] at h; exact h.elim
  | some es => rw [e] at h; exact ⟨es, rfl, h⟩
/-- the value called with values -/
theorem run_call {fe : FE} {j : Nat} {f : Addr} (F : FnK X.prog X.w X.K X.mg X.base j fe f) (hr : Room j X.A) {ρ : Env'} {S : Sto} {σ : L2.St} {H : Hp} {Φ : TP} {K : Kt} {E : KtE} {Q : VK} {pins : List (Addr × Obj)} {s : Shared} {ds : List D} {vs : List V} {us : List Value} {es : List D}
    (I : Inv X pins σ H s) (ru : Vals vs us) (r : Rr ρ S σ H) (p : Φ.p H) (tk : TakesD X Φ ρ σ E) (rp : Reps H ds vs) (e : fill fe ds = some es) (h : fe.sp es S K E)
    (fin : ∀ d S' v H', Rr ρ S' σ H' → Φ.p H' → Rep H' d v → K d S' → Q v H') : wpAny (model X.prog X.w) X.A (call (.ref f) us) (EP X pins σ Q) X.xe s := by
  obtain ⟨fd, ps, ok, hps, hbd⟩ := F.ok
  obtain ⟨h1, h2, rfl⟩ := fill_of e
  obtain ⟨dvs, dus, rd, rr, hb⟩ := hbd ds.length h1 h2
  have hl : fe.np = (vs ++ dvs).length := by
    have a := (rr H).length
    rw [List.length_append, ← rp.length, ← a, List.length_drop]
    omega
  exact run_fnG ok hr hb rd (passD tk fun cls d H' q => q) I ru (call_sp (S2 := S) r p tk rp hl (rr H) h fin)

theorem d_call0 (C : XOk Γ nm N k X) {x : Str} {pp pos : Pos} (hg : glB nm x = true) (hd : (x == ("__debug__" : Str)) = false) : dE X (.Call (.Name x pp) [] [] pos) (wE Γ (.call x [])) := by
  refine ⟨fun pins s σ H Q I h => ?_⟩
  obtain ⟨ρ, S, Φ, K, E, r, p, tk, h, fin⟩ := h
  simp only [wE] at h
  split at h
  · rename_i fe hfn
    simp only [wEs] at h
    obtain ⟨f, hm, F⟩ := C.g.fn x fe hfn
    obtain ⟨es', e2, hw⟩ := wCall_of h
    refine wpAny_Call_Name_kw (ld_glob I (C.n.gl hg) hm ?_ hd)
    exact PySem.W.callWith_K0 I.kIn F.kp (run_call (us := []) F C.hr I .nil r p tk Reps.nil e2 hw fin)
  · exact h.elim
theorem d_call (C : XOk Γ nm N k X) {x : Str} {e : Expr} {es : List Expr} {cs : List Ex} {pp pos : Pos} (hg : glB nm x = true) (hd : (x == ("__debug__" : Str)) = false) (hs : (e :: es).all noStar = true) (ha : dEs X (e :: es) (wEs Γ cs)) :
    dE X (.Call (.Name x pp) (e :: es) [] pos) (wE Γ (.call x cs)) := by
  refine ⟨fun pins s σ H Q I h => ?_⟩
  obtain ⟨ρ, S, Φ, K, E, r, p, tk, h, fin⟩ := h
  simp only [wE] at h
  split at h
  · rename_i fe hfn
    obtain ⟨f, hm, F⟩ := C.g.fn x fe hfn
    refine wpAny_Call_Name_kw (ld_glob I (C.n.gl hg) hm ?_ hd)
    have q : lEs X (wEs Γ cs) σ H (fun vs H' => ∃ ds S', Rr ρ S' σ H' ∧ Φ.p H' ∧ Reps H' ds vs ∧ wCall fe ds S' K E) := lEs.go r p tk h fun ds S' vs H' r' p' rp' k' => ⟨ds, S', r', p', rp', k'⟩
    rw [List.all_cons, Bool.and_eq_true] at hs
    refine PySem.W.callWith_K (h₀ := X.base) I.ok.mod.kin F.kp (thn (ha.run pos pins s σ H _ I q) fun us s1 ⟨vs, H1, I1, ru, ds, S', r', p', rp', hw⟩ => ⟨I1.kIn, ?_⟩) (star_cons hs.1) (star_plain hs.2)
    obtain ⟨es', e2, hw⟩ := wCall_of hw
    exact run_call F C.hr I1 ru r' p' tk rp' e2 hw fin
  · exact h.elim

/-! ### methods -/
/-- the tree of a method call on one line -/
theorem meth_tree {o : Expr} {m : Str} {apos pos : Pos} {args : List Expr} {env : Env} (hb : attributeBase o m env (eval o env) = eval o env) (hs : args.all noStar = true) (hf : args.length < 30) (hl : (apos.endLine == pos.line) = true) :
    eval (.Call (.Attribute o m apos) args [] pos) env = (do
      let ov ← eval o env
      standAt apos.atName
      let (f, first) ← holding [ov] (getMethod ov m (plainOf o env))
      callWith pos f first (backTo pos (starEach args env)) (backToKw pos (keywordEach [] env))) := by
  have hform : methodCallForm (args.length + ([] : List Keyword).length) (backTo pos (starEach args env)) (backToKw pos (keywordEach [] env)) = true := by
    unfold methodCallForm
    rw [star_all hs]
    show (true && true && decide (args.length + 0 + 0 < 30)) = true
    simpa using hf
  rw [arm_eval_Call, hb]
  first
    | (simp only [mcall_line hform hl]; done)
    | (simp only [mcall_line hform hl]; rfl)
    | skip
end
end DL

/-! DL7: methods, instances, built-in functions and methods. -/
namespace DL
open PySem PySem.Spec PyProof.Rows L2
section
variable {Γ : GE} {nm : List (Str × NameKind)} {N : List Str} {k : Nat} {X : Cx}

theorem meth_of {d : D} {S1 : Sto} {m : Str} {P : Addr → Addr → List (Str × D) → FE → Prop} (h : match d with
    | .ref a => match S1 a with
      | some (.ins C fs) => match Γ.mth C m with
        | some fe => P a C fs fe
        | none => False
      | _ => False
    | _ => False) : ∃ a C fs fe, d = .ref a ∧ S1 a = some (.ins C fs) ∧ Γ.mth C m = some fe ∧ P a C fs fe := by
  split at h
  · split at h
    · split at h
      · rename_i a _ C fs e1 _ fe e2
        exact ⟨a, C, fs, fe, rfl, e1, e2, h⟩
      · exact h.elim
    · exact h.elim
  · exact h.elim
theorem d_meth0 (C : XOk Γ nm N k X) {o : Expr} {c : Ex} {m : Str} {apos pos : Pos} (ho : dE X o (wE Γ c)) (hb : attributeBase o m X.env (eval o X.env) = eval o X.env) (hl : (apos.endLine == pos.line) = true) :
    dE X (.Call (.Attribute o m apos) [] [] pos) (wE Γ (.meth c m [])) := by
  refine ⟨fun pins s σ H Q I h => ?_⟩
  obtain ⟨ρ, S, Φ, K, E, r, p, tk, h, fin⟩ := h
  simp only [wE] at h
  have q : lE X (wE Γ c) σ H (fun v H1 => ∃ a D fs fe S1, v = .ref a ∧ Rr ρ S1 σ H1 ∧ Φ.p H1 ∧ S1 a = some (.ins D fs) ∧ Γ.mth D m = some fe ∧ fs.lookup m = none ∧ wCall fe [.ref a] S1 K E) := by
    refine lE.go r p tk h fun d S1 v H1 r1 p1 rp1 tk1 p1' k1 => ?_
    obtain ⟨a, D, fs, fe, rfl, e1, e2, e3, k1⟩ := meth_of (P := fun a D fs fe => fs.lookup m = none ∧ wEs Γ [] ρ S1 (fun ds S2 => wCall fe (d :: ds) S2 K E) E) k1
    simp only [wEs] at k1
    simp only [Rep] at rp1
    exact ⟨a, D, fs, fe, S1, rp1, r1, p1, e1, e2, e3, k1⟩
  refine PySem.W.methodCall_KW (pl := plainOf o X.env) (thn (ho.run pins s σ H _ I q) fun u s1 ⟨v, H1, I1, rv, a, D, fs, fe, S1, ev, r1, p1, e1, e2, e3, hw⟩ => ?_) (meth_tree hb rfl (by decide) hl)
  subst ev
  obtain rfl : u = Value.ref a := rv
  obtain ⟨c1, f, hm, F⟩ := C.g.mth D m fe e2
  obtain ⟨dx, gs, h1, rf⟩ := r1.st _ _ e1
  refine getmeth_ok I1 h1 c1 hm (rf.none_ e3) ?_
  obtain ⟨es', e4, hw⟩ := wCall_of hw
  exact PySem.W.callWith_K0 (first := [.ref a]) I1.kIn F.kp (run_call (us := [.ref a]) (vs := [.ref a]) F C.hr I1 (.cons rfl .nil) r1 p1 tk (Reps.cons (by simp only [Rep]) Reps.nil) e4 hw fin)
theorem d_meth (C : XOk Γ nm N k X) {o e : Expr} {es : List Expr} {c : Ex} {cs : List Ex} {m : Str} {apos pos : Pos} (ho : dE X o (wE Γ c)) (hb : attributeBase o m X.env (eval o X.env) = eval o X.env) (hl : (apos.endLine == pos.line) = true) (hs : (e :: es).all noStar = true) (hf : (e :: es).length < 30) (ha : dEs X (e :: es) (wEs Γ cs)) :
    dE X (.Call (.Attribute o m apos) (e :: es) [] pos) (wE Γ (.meth c m cs)) := by
  refine ⟨fun pins s σ H Q I h => ?_⟩
  obtain ⟨ρ, S, Φ, K, E, r, p, tk, h, fin⟩ := h
  simp only [wE] at h
  have q : lE X (wE Γ c) σ H (fun v H1 => ∃ a D fs fe S1, v = .ref a ∧ Rr ρ S1 σ H1 ∧ Φ.p H1 ∧ S1 a = some (.ins D fs) ∧ Γ.mth D m = some fe ∧ fs.lookup m = none ∧ wEs Γ cs ρ S1 (fun ds S2 => wCall fe (.ref a :: ds) S2 K E) E) := by
    refine lE.go r p tk h fun d S1 v H1 r1 p1 rp1 tk1 p1' k1 => ?_
    obtain ⟨a, D, fs, fe, rfl, e1, e2, e3, k1⟩ := meth_of (P := fun a D fs fe => fs.lookup m = none ∧ wEs Γ cs ρ S1 (fun ds S2 => wCall fe (d :: ds) S2 K E) E) k1
    simp only [Rep] at rp1
    exact ⟨a, D, fs, fe, S1, rp1, r1, p1, e1, e2, e3, k1⟩
  refine PySem.W.methodCall_KW (pl := plainOf o X.env) (thn (ho.run pins s σ H _ I q) fun u s1 ⟨v, H1, I1, rv, a, D, fs, fe, S1, ev, r1, p1, e1, e2, e3, hw⟩ => ?_) (meth_tree hb hs hf hl)
  subst ev
  obtain rfl : u = Value.ref a := rv
  obtain ⟨c1, f, hm, F⟩ := C.g.mth D m fe e2
  obtain ⟨dx, gs, h1, rf⟩ := r1.st _ _ e1
  refine getmeth_ok I1 h1 c1 hm (rf.none_ e3) ?_
  have q2 : lEs X (wEs Γ cs) σ H1 (fun vs H' => ∃ ds S', Rr ρ S' σ H' ∧ Φ.p H' ∧ Reps H' ds vs ∧ wCall fe (.ref a :: ds) S' K E) := lEs.go r1 p1 tk hw fun ds S' vs H' r' p' rp' k' => ⟨ds, S', r', p', rp', k'⟩
  rw [List.all_cons, Bool.and_eq_true] at hs
  refine PySem.W.callWith_K (first := [.ref a]) (h₀ := X.base) I.ok.mod.kin F.kp (thn (ha.run pos pins s1 σ H1 _ I1 q2) fun us s2 ⟨vs, H2, I2, ru, ds, S', r', p', rp', hw⟩ => ⟨I2.kIn, ?_⟩) (star_cons hs.1) (star_plain hs.2)
  obtain ⟨es', e4, hw⟩ := wCall_of hw
  exact run_call (us := .ref a :: us) (vs := .ref a :: vs) F C.hr I2 (.cons rfl ru) r' p' tk (Reps.cons (by simp only [Rep]) rp') e4 hw fin

/-! ### new instances -/
theorem Room.ofLe {j : Nat} {A : Around} (h : j ≤ k) (r : Room k A) : Room j A := r.mono h
theorem run_mk {fe : FE} {j : Nat} {f D : Addr} (hj : j + 1 ≤ k) (M : Mk X.K D f) (F : FnK X.prog X.w X.K X.mg X.base j fe f) (hr : Room k X.A) {ρ : Env'} {S : Sto} {σ : L2.St} {H : Hp} {Φ : TP} {K : Kt} {E : KtE} {Q : VK} {pins : List (Addr × Obj)} {s : Shared} {ds : List DL.D} {vs : List V} {us : List Value}
    (I : Inv X pins σ H s) (ru : Vals vs us) (r : Rr ρ S σ H) (p : Φ.p H) (tk : TakesD X Φ ρ σ E) (rp : Reps H ds vs)
    (h : ∀ p, S p = none → wCall fe (.ref p :: ds) (put S p (.ins D [])) (fun v S2 => v = .non ∧ K (.ref p) S2) E)
    (fin : ∀ d S' v H', Rr ρ S' σ H' → Φ.p H' → Rep H' d v → K d S' → Q v H') : wpAny (model X.prog X.w) X.A (call (.ref D) us) (EP X pins σ Q) X.xe s := by
  obtain ⟨fd, ps, ok, hps, hbd⟩ := F.ok
  have nx : H (s.heap.objs.size + 1) = none := I.hok.fresh (Nat.le_succ _)
  have ndx : H s.heap.objs.size = none := I.hok.fresh (Nat.le_refl _)
  have nex : s.heap.objs.size ≠ s.heap.objs.size + 1 := Nat.ne_of_lt (Nat.lt_succ_self _)
  have hq := h (s.heap.objs.size + 1) (r.st.free nx)
  obtain ⟨es', e4, hw⟩ := wCall_of hq
  obtain ⟨h1, h2, rfl⟩ := fill_of e4
  obtain ⟨dvs, dus, rd, rr, hb⟩ := hbd (DL.D.ref (s.heap.objs.size + 1) :: ds).length h1 h2
  have I2 := Inv.made (C := D) I
  have t1 : Tm H (upd H s.heap.objs.size (.own (s.heap.objs.size + 1))) := Tm.upd_new ndx
  have nx2 : (upd H s.heap.objs.size (.own (s.heap.objs.size + 1))) (s.heap.objs.size + 1) = none := by rw [upd_ne (Ne.symm nex)]; exact nx
  have t2 : Tm H (upd (upd H s.heap.objs.size (.own (s.heap.objs.size + 1))) (s.heap.objs.size + 1) (.ins D s.heap.objs.size [])) := t1.trans (Tm.upd_new nx2)
  have s1 : SRep S (upd H s.heap.objs.size (.own (s.heap.objs.size + 1))) := r.st.same (Same.upd ndx)
  have s2 : SRep (put S (s.heap.objs.size + 1) (.ins D [])) (upd (upd H s.heap.objs.size (.own (s.heap.objs.size + 1))) (s.heap.objs.size + 1) (.ins D s.heap.objs.size [])) := s1.new nx2 ⟨s.heap.objs.size, [], upd_same, .nil⟩
  have r2 := r.mono t2 s2
  have hl : fe.np = ((V.ref (s.heap.objs.size + 1) :: vs) ++ dvs).length := by
    have a := (rr H).length
    rw [List.length_append, List.length_cons, ← rp.length, ← a, List.length_drop]
    rw [List.length_cons] at h1 h2 ⊢
    omega
  have hsp := call_sp (S2 := S) (Q := fun v H2 => v = .non ∧ Q (.ref (s.heap.objs.size + 1)) H2) (K := fun v S2 => v = .non ∧ K (.ref (s.heap.objs.size + 1)) S2) r2 (Φ.mono t2 p) tk (Reps.cons (d := .ref (s.heap.objs.size + 1)) (by simp only [Rep]) (rp.mono t2)) hl (rr _) hw fun d S' v H' r' p' rv kd => by
    obtain ⟨rfl, kd⟩ := kd
    simp only [Rep] at rv
    exact ⟨rv, fin _ S' _ H' r' p' (by simp only [Rep]) kd⟩
  have rV : Vals (V.ref (s.heap.objs.size + 1) :: (vs ++ dvs)) (Value.ref (s.heap.objs.size + 1) :: (us ++ dus)) := .cons rfl (ru.append rd)
  have hlen : (Value.ref (s.heap.objs.size + 1) :: us ++ dus).length = ps.length := by
    have e := rV.length
    have e2 := ok.len _ _ _ _ hsp
    rw [← e2]
    exact e.symm
  refine wpAny_call (make_map (f := f) I.kIn M.makes M.init (beq_iff_eq.mp M.fn) (codeAny_mono (ok.run _ X.stack _ _ ⟨Value.ref (s.heap.objs.size + 1) :: us, []⟩ (Value.ref (s.heap.objs.size + 1) :: (us ++ dus)) _ _ _ ((hr.mono hj).make D us [])
    (I2.env0.make D us []) (hb _ (Value.ref (s.heap.objs.size + 1) :: us) I2.kIn hlen) rV hsp) fun r s' hq' => ?_))
  cases r with
  | error e => exact passD tk (fun cls d H' q => q) pins _ _ e s' I2 hq'
  | ok fl =>
    cases fl with
    | ret u =>
      obtain ⟨v, H', I3, rv, ev, q3⟩ := I2.after hq'
      subst ev
      exact ⟨rv, ⟨V.ref (s.heap.objs.size + 1), H', I3, rfl, q3⟩⟩
    | next => exact False.elim hq'
    | brk => exact False.elim hq'
    | cont => exact False.elim hq'
theorem mk_of' {o : Option (Addr × Option FE)} {P : Addr → FE → Prop} (h : match o with
    | some (C, some fe) => P C fe
    | _ => False) : ∃ C fe, o = some (C, some fe) ∧ P C fe := by
  split at h
  · exact ⟨_, _, rfl, h⟩
  · exact h.elim
theorem d_mk0 (C : XOk Γ nm N k X) {x : Str} {pp pos : Pos} (hg : glB nm x = true) (hd : (x == ("__debug__" : Str)) = false) : dE X (.Call (.Name x pp) [] [] pos) (wE Γ (.mk x [])) := by
  refine ⟨fun pins s σ H Q I h => ?_⟩
  obtain ⟨ρ, S, Φ, K, E, r, p, tk, h, fin⟩ := h
  simp only [wE] at h
  obtain ⟨D, fe, e0, h⟩ := mk_of' h
  simp only [wEs] at h
  obtain ⟨hm, f, j, hj, M, F⟩ := C.g.cls x D fe e0
  refine wpAny_Call_Name_kw (ld_glob I (C.n.gl hg) hm ?_ hd)
  exact PySem.W.callWith_K0 I.kIn M.kp (run_mk (us := []) hj M F C.hr I .nil r p tk Reps.nil h fin)
theorem d_mk (C : XOk Γ nm N k X) {x : Str} {e : Expr} {es : List Expr} {cs : List Ex} {pp pos : Pos} (hg : glB nm x = true) (hd : (x == ("__debug__" : Str)) = false) (hs : (e :: es).all noStar = true) (ha : dEs X (e :: es) (wEs Γ cs)) :
    dE X (.Call (.Name x pp) (e :: es) [] pos) (wE Γ (.mk x cs)) := by
  refine ⟨fun pins s σ H Q I h => ?_⟩
  obtain ⟨ρ, S, Φ, K, E, r, p, tk, h, fin⟩ := h
  simp only [wE] at h
  obtain ⟨D, fe, e0, h⟩ := mk_of' (P := fun D fe => wEs Γ cs ρ S (fun ds S1 => ∀ p, S1 p = none → wCall fe (.ref p :: ds) (put S1 p (.ins D [])) (fun v S2 => v = .non ∧ K (.ref p) S2) E) E) h
  obtain ⟨hm, f, j, hj, M, F⟩ := C.g.cls x D fe e0
  refine wpAny_Call_Name_kw (ld_glob I (C.n.gl hg) hm ?_ hd)
  have q : lEs X (wEs Γ cs) σ H (fun vs H' => ∃ ds S', Rr ρ S' σ H' ∧ Φ.p H' ∧ Reps H' ds vs ∧ ∀ p, S' p = none → wCall fe (.ref p :: ds) (put S' p (.ins D [])) (fun v S2 => v = .non ∧ K (.ref p) S2) E) := lEs.go r p tk h fun ds S' vs H' r' p' rp' k' => ⟨ds, S', r', p', rp', k'⟩
  rw [List.all_cons, Bool.and_eq_true] at hs
  refine PySem.W.callWith_K (h₀ := X.base) I.ok.mod.kin M.kp (thn (ha.run pos pins s σ H _ I q) fun us s1 ⟨vs, H1, I1, ru, ds, S', r', p', rp', hw⟩ => ⟨I1.kIn, ?_⟩) (star_cons hs.1) (star_plain hs.2)
  exact run_mk hj M F C.hr I1 ru r' p' tk rp' hw fin
end
end DL

/-! DL8: built-in functions. -/
namespace DL
open PySem PySem.Spec PyProof.Rows L2

/-! ### sorted of data -/
theorem vals_each {xs : List V} {us : List Value} {ps : List PyData} (h : Vals xs us) (hl : xs.length = ps.length) : PySem.W.EachIs (fun (u : Value) (b : V × PyData) => RelV b.1 u) us (xs.zip ps) := by
  induction h generalizing ps with
  | nil => cases ps with
    | nil => exact .nil
    | cons p ps => simp at hl
  | cons r t ih => cases ps with
    | nil => simp at hl
    | cons p ps => exact .cons r (ih (by simpa using hl))
theorem each_vals {us : List Value} {bs : List (V × PyData)} (h : PySem.W.EachIs (fun (u : Value) (b : V × PyData) => RelV b.1 u) us bs) : Vals (bs.map (·.1)) us := by
  induction h with
  | nil => exact .nil
  | cons r _ ih => exact .cons r ih
theorem dpAll_zip {K : PySem.W.Frag} {H : Hp} : ∀ {xs : List V} {ps : List PyData}, DpAll K H xs ps → xs.length = ps.length ∧ ∀ b ∈ xs.zip ps, Dp K H b.1 b.2
  | _, _, .nil => ⟨rfl, fun b h => by simp at h⟩
  | _, _, .cons h t => by
    obtain ⟨h1, h2⟩ := dpAll_zip t
    refine ⟨by simp [h1], fun b hb => ?_⟩
    rw [List.zip_cons_cons] at hb
    rcases List.mem_cons.mp hb with e | hb
    · subst e; exact h
    · exact h2 b hb
theorem zip_snd {α β : Type} : ∀ {xs : List α} {ps : List β}, xs.length = ps.length → (xs.zip ps).map (·.2) = ps
  | [], [], _ => rfl
  | [], _ :: _, h => by simp at h
  | _ :: _, [], h => by simp at h
  | x :: xs, p :: ps, h => by simp [zip_snd (xs := xs) (ps := ps) (by simpa using h)]
theorem zip_fst {α β : Type} : ∀ {xs : List α} {ps : List β}, xs.length = ps.length → (xs.zip ps).map (·.1) = xs
  | [], [], _ => rfl
  | [], _ :: _, h => by simp at h
  | _ :: _, [], h => by simp at h
  | x :: xs, p :: ps, h => by simp [zip_fst (xs := xs) (ps := ps) (by simpa using h)]
def rSortedA (K : PySem.W.Frag) : List V → Hp → VK → Prop := fun vs H Q => ∃ (a : Addr) (xs : List V) (ps : List PyData), vs = [V.ref a] ∧ SqL K H a xs ∧ DpAll K H xs ps ∧ PySem.W.AllAlike ps ∧ PySem.W.Sortable ps ∧ ps.length ≤ sizeLine ∧ (∀ p ∈ ps, p.depth ≤ 16) ∧
  ∀ q, H q = none → Q (.ref q) (upd H q (.lst (((xs.zip ps).mergeSort (PySem.W.dataLe false (·.2))).map (·.1))))
section
variable {Γ : GE} {nm : List (Str × NameKind)} {N : List Str} {k : Nat} {X : Cx}
theorem cr_sortedA (hu : X.A.units + 64 < cLine) : CallR X (.builtin "sorted") (rSortedA X.K) := by
  intro pins s σ H vs us Q I r h
  obtain ⟨a, xs, ps, rfl, hs, hd, al, so, hL, hdep, q⟩ := h
  obtain ⟨its, rv, hl, _⟩ := I.list hs
  obtain ⟨hlen, hz⟩ := dpAll_zip hd
  rw [Vals.ref1 r]
  have e := vals_each rv hlen
  have hsz : (xs.zip ps).length = ps.length := by rw [List.length_zip]; omega
  refine PySem.W.sorted_data (enc := (·.2)) (bs := xs.zip ps) (R := fun u b => RelV b.1 u) hl.isList e ?_ (by rw [zip_snd hlen]; exact al) (by rw [zip_snd hlen]; exact so) (by rw [hsz]; exact hL) (fun b hb => ?_) fun out ho eo => ?_
  · refine (PySem.W.each_mem e).mono fun u b ⟨hr, hb⟩ => ?_
    exact Dp.reads I b.2 b.1 u (hz b hb) hr
  · have h1 := hdep b.2 (by rw [← zip_snd hlen]; exact List.mem_map.mpr ⟨b, hb, rfl⟩)
    show X.A.units + 2 + b.2.depth < cLine
    omega
  · obtain ⟨ep, he'⟩ := PyProof.Rows.sortedAll_at s.heap its out.toArray
    have hlen2 : (((xs.zip ps).mergeSort (PySem.W.dataLe false (·.2))).map (·.1)).length ≤ sizeLine := by
      rw [List.length_map, List.length_mergeSort, hsz]; exact hL
    exact ⟨.ref _, upd H (s.heap.objs.size + 1) (.lst (((xs.zip ps).mergeSort (PySem.W.dataLe false (·.2))).map (·.1))), I.laid (t' := s.toks) (fun _ _ => PyProof.Rows.sortedAll_old) (Nat.le_succ _) ⟨hlen2, out, ep, each_vals eo, he'⟩, rfl, q _ (I.hok.fresh (Nat.le_succ _))⟩
end
/-- sorting things by their data is sorting the pairs -/
theorem pdl_len {f : D → Option PyData} : ∀ {ds : List D} {ps : List PyData}, pdl f ds = some ps → ds.length = ps.length
  | [], ps, e => by simp only [pdl, Option.some.injEq] at e; subst e; rfl
  | d :: ds, ps, e => by
    unfold pdl at e
    cases e1 : f d with
    | none => rw [e1] at e; cases e
    | some q =>
      rw [e1] at e
      cases e2 : pdl f ds with
      | none => rw [e2] at e; cases e
      | some qs =>
        rw [e2] at e
        cases e
        simp [pdl_len e2]
theorem pdl_mem {f : D → Option PyData} : ∀ {ds : List D} {ps : List PyData}, pdl f ds = some ps → ∀ b ∈ ds.zip ps, f b.1 = some b.2
  | [], ps, e, b, h => by simp at h
  | d :: ds, ps, e, b, h => by
    unfold pdl at e
    cases e1 : f d with
    | none => rw [e1] at e; cases e
    | some q =>
      rw [e1] at e
      cases e2 : pdl f ds with
      | none => rw [e2] at e; cases e
      | some qs =>
        rw [e2] at e
        cases e
        rw [List.zip_cons_cons] at h
        rcases List.mem_cons.mp h with z | h
        · subst z; exact e1
        · exact pdl_mem e2 b h
theorem sort_pairs {S : Sto} {ds : List D} {ps : List PyData} (e : pdl (pd 8 S) ds = some ps) : ((ds.zip ps).mergeSort (PySem.W.dataLe false (·.2))).map (·.1) = ds.mergeSort (leS S) := by
  have hl := pdl_len e
  have hm := pdl_mem e
  rw [List.map_mergeSort (r := PySem.W.dataLe false (·.2)) (s := leS S) (f := (·.1)) (l := ds.zip ps) ?_]
  · rw [zip_fst hl]
  · intro a ha b hb
    unfold leS
    rw [hm a ha, hm b hb]
    rfl
/-- three lists in step -/
theorem sort_rep {H : Hp} {ds : List D} {vs : List V} {ps : List PyData} (h : Reps H ds vs) (hl : ds.length = ps.length) : Reps H (((ds.zip ps).mergeSort (PySem.W.dataLe false (·.2))).map (·.1)) (((vs.zip ps).mergeSort (PySem.W.dataLe false (·.2))).map (·.1)) := by
  have key : ∀ {ds : List D} {vs : List V} {ps : List PyData}, Reps H ds vs → ds.length = ps.length → ∃ ts : List (D × V × PyData), ds.zip ps = ts.map (fun t => (t.1, t.2.2)) ∧ vs.zip ps = ts.map (fun t => (t.2.1, t.2.2)) ∧ ∀ t ∈ ts, Rep H t.1 t.2.1 := by
    intro ds
    induction ds with
    | nil => intro vs ps h _; rw [h.nil_inv]; exact ⟨[], rfl, rfl, fun t ht => by simp at ht⟩
    | cons d ds ih =>
      intro vs ps h hl
      obtain ⟨v, w, rfl, h1, h2⟩ := h.cons_inv
      cases ps with
      | nil => simp at hl
      | cons p ps =>
        obtain ⟨ts, a, b, c⟩ := ih h2 (by simpa using hl)
        refine ⟨(d, v, p) :: ts, by rw [List.zip_cons_cons, a]; rfl, by rw [List.zip_cons_cons, b]; rfl, fun t ht => ?_⟩
        rcases List.mem_cons.mp ht with rfl | ht
        · exact h1
        · exact c t ht
  obtain ⟨ts, a, b, c⟩ := key h hl
  rw [a, b]
  rw [← List.map_mergeSort (r := fun x y => PySem.W.dataLe false (fun t : D × V × PyData => t.2.2) x y) (s := PySem.W.dataLe false (·.2)) (f := fun t : D × V × PyData => (t.1, t.2.2)) (l := ts) (fun _ _ _ _ => rfl)]
  rw [← List.map_mergeSort (r := fun x y => PySem.W.dataLe false (fun t : D × V × PyData => t.2.2) x y) (s := PySem.W.dataLe false (·.2)) (f := fun t : D × V × PyData => (t.2.1, t.2.2)) (l := ts) (fun _ _ _ _ => rfl)]
  have perm := List.mergeSort_perm ts (fun x y => PySem.W.dataLe false (fun t : D × V × PyData => t.2.2) x y)
  have all : ∀ t ∈ ts.mergeSort (fun x y => PySem.W.dataLe false (fun t : D × V × PyData => t.2.2) x y), Rep H t.1 t.2.1 := fun t ht => c t (perm.mem_iff.mp ht)
  rw [List.map_map, List.map_map]
  generalize ts.mergeSort (fun x y => PySem.W.dataLe false (fun t : D × V × PyData => t.2.2) x y) = us at all
  induction us with
  | nil => exact Reps.nil
  | cons t us ih => exact Reps.cons (all t List.mem_cons_self) (ih fun t ht => all t (List.mem_cons_of_mem _ ht))

section
variable {Γ : GE} {nm : List (Str × NameKind)} {N : List Str} {k : Nat} {X : Cx}
/-- a rule of a call by values serves a data rule -/
def ServesB (X : Cx) (r : List V → Hp → VK → Prop) (w : List D → Sto → Kt → Prop) : Prop := ∀ (ρ : Env') (S : Sto) (σ : L2.St) (H : Hp) (Φ : TP) (K : Kt) (Q : VK) (ds : List D) (vs : List V), Rr ρ S σ H → Φ.p H → Reps H ds vs → w ds S K →
  (∀ d S' v H', Rr ρ S' σ H' → Φ.p H' → Rep H' d v → K d S' → Q v H') → r vs H Q
theorem rep1 {H : Hp} {d : D} {vs : List V} (h : Reps H [d] vs) : ∃ v, vs = [v] ∧ Rep H d v := by
  obtain ⟨v, w, rfl, h1, h2⟩ := h.cons_inv
  rw [h2.nil_inv]; exact ⟨v, rfl, h1⟩
theorem rep2 {H : Hp} {d e : D} {vs : List V} (h : Reps H [d, e] vs) : ∃ v u, vs = [v, u] ∧ Rep H d v ∧ Rep H e u := by
  obtain ⟨v, w, rfl, h1, h2⟩ := h.cons_inv
  obtain ⟨u, rfl, h3⟩ := rep1 h2
  exact ⟨v, u, rfl, h1, h3⟩
theorem repInt {H : Hp} {i : Int} {v : V} (h : Rep H (.int i) v) : v = .int i := by simpa only [Rep] using h
theorem repRef {H : Hp} {a : Addr} {v : V} (h : Rep H (.ref a) v) : v = .ref a := by simpa only [Rep] using h
theorem repBl {H : Hp} {b : Bool} {v : V} (h : Rep H (.bl b) v) : v = .bl b := by simpa only [Rep] using h
theorem repStr {H : Hp} {x : Str} {v : V} (h : Rep H (.str x) v) : v = .str x := by simpa only [Rep] using h
theorem repTup {H : Hp} {ds : List D} {v : V} (h : Rep H (.tup ds) v) : ∃ a vs, v = .ref a ∧ H a = some (.tup vs) ∧ Reps H ds vs := by simpa only [Rep] using h
section
variable {X : Cx}
/-- sorted(d), d with tuple keys -/
def rSortedD (K : PySem.W.Frag) : List V → Hp → VK → Prop := fun vs H Q => ∃ (a : Addr) (kvs : List (List Key × V)), vs = [V.ref a] ∧ Rd H a (.dT kvs) ∧ ∀ bs, IsKeys H kvs bs → ∃ ps : List PyData, DpAll K H (bs.map V.ref) ps ∧ PySem.W.AllAlike ps ∧ PySem.W.Sortable ps ∧ (∀ p ∈ ps, p.depth ≤ 16) ∧
  ∀ q, H q = none → Q (.ref q) (upd H q (.lst ((((bs.map V.ref).zip ps).mergeSort (PySem.W.dataLe false (·.2))).map (·.1))))
theorem reads_alive {h : Heap} {v : Value} {d : PyData} {as : List Addr} (r : Reads h v d as) : ∀ a ∈ as, a < h.objs.size := by
  refine Reads.rec (h := h) (motive_1 := fun _ _ as _ => ∀ a ∈ as, a < h.objs.size) (motive_2 := fun _ _ as _ => ∀ a ∈ as, a < h.objs.size) ?_ ?_ ?_ ?_ ?_ ?_ ?_ ?_ ?_ r
  · intro a ha; cases ha
  · intro b a ha; cases ha
  · intro b c a ha; cases ha
  · intro b c a ha; cases ha
  · intro a o vs n xs as ho h1 h2 hr ih b hb
    rcases List.mem_cons.mp hb with rfl | hb
    · exact Heap.lt_size ho
    · exact ih b hb
  · intro a o vs n xs as ho h1 h2 hr ih b hb
    exact ih b hb
  · intro a o es n kvs as bs ho h1 h2 hr hq ih ih2 b hb
    simp only [List.cons_append, List.mem_cons, List.mem_append] at hb
    rcases hb with rfl | hb | hb
    · exact Heap.lt_size ho
    · exact ih b hb
    · exact ih2 b hb
  · intro a ha; cases ha
  · intro v vs d ds as bs hr hq ih ih2 a ha
    rcases List.mem_append.mp ha with ha | ha
    · exact ih a ha
    · exact ih2 a ha
/-- the keys, out of what a walk of the dict gave -/
theorem keys_got : ∀ {ks : List (List Key × Addr × Value)} {us : List Value}, us.length = ks.length → (∀ (j : Nat) (v : Value), us[j]? = some v → ∃ x, ks[j]? = some x ∧ v = Value.ref x.2.1) → us = (ks.map fun x => x.2.1).map Value.ref
  | [], [], _, _ => rfl
  | [], _ :: _, h, _ => by simp at h
  | _ :: _, [], h, _ => by simp at h
  | x :: ks, u :: us, h, f => by
    obtain ⟨y, h1, h2⟩ := f 0 u rfl
    cases h1
    rw [List.map_cons, List.map_cons, ← h2, keys_got (ks := ks) (us := us) (by simpa using h) fun j v e => f (j + 1) v e]
open PySem.W PySem.Calls in
theorem cr_sortedD (hc : X.calm = true) (hu : X.A.units + 64 < cLine) : CallR X (.builtin "sorted") (rSortedD X.K) := by
  intro pins s σ H vs us Q I r h
  obtain ⟨d, kvs, rfl, hd, q⟩ := h
  rw [Vals.ref1 r]
  obtain ⟨z, hs, ks, pr, o, es, ep, ho, hx, hdt, he, hn⟩ := (show ObjOk X.prog X.w H s.heap d (.dT kvs) from hd.ok I.hok)
  have l1 : es.size = ks.length := size_of_entries he
  have l2 : kvs.length = ks.length := Paired.length pr
  obtain ⟨ps, hdp, al, so, hdep, q⟩ := q _ (isKeys_of pr)
  obtain ⟨hlen, hz⟩ := dpAll_zip hdp
  rw [List.length_map] at hlen
  have hbl : (ks.map fun x => x.2.1).length = ks.length := List.length_map ..
  refine call_function_entry kind_sorted plain_sorted entry_sorted (args_sorted1 _) ?_
  unfold Builtin.«sorted»
  refine wpAny_bind (m := checkCount "sorted" 1 1 _) (wpAny_pure ?_)
  refine wpAny_bind (kdu_collect (A := X.A.in1) (kdl_raw hs hx hdt) (I.ok.hd hc) ho (by omega) fun h' tk acc kp it => ?_)
  have ea : acc.toList = (ks.map fun x => x.2.1).map Value.ref := by
    refine keys_got (by rw [Array.length_toList, it.1]; exact l1) fun j v e => ?_
    obtain ⟨en, hen, hv⟩ := it.2 j v (by rw [← Array.getElem?_toList]; exact e)
    have qe := entry_at he j
    rw [hen] at qe
    cases hb : ks[j]? with
    | none => rw [hb] at qe; exact nomatch (show some en = none from qe)
    | some b =>
      rw [hb] at qe
      have e2 : en = entryOfKey (tupleKind (mixKind X.prog X.w)) b := Option.some.inj qe
      exact ⟨b, rfl, by rw [hv, e2]; rfl⟩
  have rv : Vals ((ks.map fun x => x.2.1).map V.ref) acc.toList := by rw [ea]; exact vals_refs _
  have hal : acc.toList.length = ks.length := by rw [ea, List.length_map, List.length_map]
  have e := vals_each rv (by rw [List.length_map]; exact hlen)
  have hsz : (((ks.map fun x => x.2.1).map V.ref).zip ps).length = ps.length := by rw [List.length_zip, List.length_map]; omega
  have hpl : ps.length = ks.length := by omega
  refine wpAny_bind (wpAny_newList ?_ (by omega))
  have kp2 : ∀ b u, s.heap.get? b = some u → (h'.push { cls := .type "list", data := .seq acc.toList.toArray }).get? b = some u := fun b u e => Heap.get?_push_of_some _ (kp b u e)
  have er : EachIs (fun v (b : V × PyData) => ∃ as, Reads (h'.push { cls := .type "list", data := .seq acc.toList.toArray }) v b.2 as ∧ h'.objs.size ∉ as) acc.toList (((ks.map fun x => x.2.1).map V.ref).zip ps) := by
    refine (PySem.W.each_mem e).mono fun u b ⟨hr, hb⟩ => ?_
    obtain ⟨as, hR⟩ := Dp.reads I b.2 b.1 u (hz b hb) hr
    refine ⟨as, PyProof.Rows.Reads.keeps kp2 hR, fun hm => ?_⟩
    exact absurd (reads_alive (PyProof.Rows.Reads.keeps kp hR) _ hm) (Nat.lt_irrefl _)
  refine wpAny_bind (wpAny_holding (wpAny_mono (list_sort_data (enc := (·.2)) (bs := ((ks.map fun x => x.2.1).map V.ref).zip ps) (R := fun u b => RelV b.1 u) (Heap.get?_push_size _ rfl) e er (by rw [zip_snd (by rw [List.length_map]; exact hlen)]; exact al) (by rw [zip_snd (by rw [List.length_map]; exact hlen)]; exact so) (by rw [hsz]; omega) (fun b hb => ?_) fun out ho2 eo => ?_) (fun _ s' x => x) fun _ _ x => x))
  · have h1 := hdep b.2 (by rw [← zip_snd (xs := (ks.map fun x => x.2.1).map V.ref) (ps := ps) (by rw [List.length_map]; exact hlen)]; exact List.mem_map.mpr ⟨b, hb, rfl⟩)
    show X.A.units + 1 + 1 + b.2.depth < cLine
    omega
  · have I2 : Inv X pins σ H { s with heap := h', toks := tk } := I.kept kp
    obtain ⟨ep2, hat⟩ := PyProof.Rows.sortedHeap_at (h := h'.push { cls := .type "list", data := .seq acc.toList.toArray }) (a := h'.objs.size) (vs := acc.toList) (n := 0) (out := out.toArray) (Heap.get?_push_size _ rfl)
    have hl2 : (((((ks.map fun x => x.2.1).map V.ref).zip ps).mergeSort (PySem.W.dataLe false (·.2))).map (·.1)).length ≤ sizeLine := by
      rw [List.length_map, List.length_mergeSort, hsz]; omega
    refine wpAny_pure ⟨_, rfl, .ref h'.objs.size, upd H h'.objs.size (.lst (((((ks.map fun x => x.2.1).map V.ref).zip ps).mergeSort (PySem.W.dataLe false (·.2))).map (·.1))), ?_, rfl, q _ (I2.hok.fresh (Nat.le_refl _))⟩
    refine I2.laid (t' := tk) (fun b u e => ?_) (Nat.le_refl _) ⟨hl2, out, ep2, each_vals eo, hat⟩
    have hlt := Heap.lt_size e
    rw [PyProof.Rows.sortedHeap_old (Nat.ne_of_lt hlt) (by rw [Heap.size_push]; exact Nat.lt_succ_of_lt hlt)]
    exact Heap.get?_push_of_some _ e
end
/-- which call serves which -/
inductive BfC (X : Cx) : Bf → (Value × Str) → (List V → Hp → VK → Prop) → Prop where
  | len : BfC X .len (.builtin "len", "len") (fun xs H Q => ∃ x n, xs = [x] ∧ LenV X.K x H n ∧ Q (.int n) H)
  | abs : BfC X .abs (.builtin "abs", "abs") (fun xs H Q => ∃ i, xs = [.int i] ∧ Q (.int (if i < 0 then -i else i)) H)
  | min2 : BfC X .min2 (.builtin "min", "min") (fun xs H Q => ∃ i j, xs = [.int i, .int j] ∧ Q (.int (if j < i then j else i)) H)
  | max2 : BfC X .max2 (.builtin "max", "max") (fun xs H Q => ∃ i j, xs = [.int i, .int j] ∧ Q (.int (if j > i then j else i)) H)
  | divmod : BfC X .divmod (.builtin "divmod", "divmod") (fun xs H Q => ∃ i j, xs = [.int i, .int j] ∧ CDiv i j ∧ ∀ p, H p = none → Q (.ref p) (upd H p (.tup [.int (i / j), .int (i % j)])))
  | all : BfC X .all (.builtin "all", "all") (rAll X.K)
  | any : BfC X .any (.builtin "any", "any") (rAny X.K)
  | sorted : BfC X .sorted (.builtin "sorted", "sorted") (fun xs H Q => rSortedA X.K xs H Q ∨ rSortedD X.K xs H Q)
  | int : BfC X .int (.type "int", "int") (fun xs H Q => ((∃ i, xs = [.int i] ∧ Q (.int i) H) ∨ ∃ k, xs = [.bl k] ∧ Q (.int (if k then 1 else 0)) H) ∨ ∃ a n, xs = [.str a] ∧ PySem.intText? a = some n ∧ a.length ≤ 640 ∧ Q (.int n) H)
  | str : BfC X .str (.type "str", "str") (fun xs H Q => ∃ i, xs = [.int i] ∧ i.natAbs.log2 < 1920 ∧ Q (.str (toString i)) H)
  | list : BfC X .list (.type "list", "list") (fun xs H Q => ∃ p ys, xs = [.ref p] ∧ (SqL X.K H p ys ∨ SqT X.K H p ys) ∧ ∀ l, H l = none → Q (.ref l) (upd H l (.lst ys)))
  | tuple : BfC X .tuple (.type "tuple", "tuple") (fun xs H Q => ∃ p ys, xs = [.ref p] ∧ ((SqL X.K H p ys ∧ ∀ l, H l = none → Q (.ref l) (upd H l (.tup ys))) ∨ (SqT X.K H p ys ∧ Q (.ref p) H)))
theorem CallR.or' {f : Value} {r r' : List V → Hp → VK → Prop} (h : CallR X f r) (h' : CallR X f r') : CallR X f (fun xs H Q => r xs H Q ∨ r' xs H Q) := by
  intro pins s σ H xs us Q I ru q
  rcases q with q | q
  · exact h pins s σ H xs us Q I ru q
  · exact h' pins s σ H xs us Q I ru q
theorem bf_call (hc : X.calm = true) (hr : Room k X.A) {f : Bf} {c : Value × Str} {r : List V → Hp → VK → Prop} (h : BfC X f c r) : CallR X c.1 r ∧ bootBuiltins c.2 = some c.1 ∧ bltB c.2 = true ∧ c.2 ≠ "__name__" ∧ (c.2 == ("__debug__" : Str)) = false ∧ ((∃ id, c.1 = .builtin id) ∨ ∃ T, c.1 = .type T) := by
  cases h with
  | len => exact ⟨call_len, by decide +kernel, by decide +kernel, by decide +kernel, by decide +kernel, .inl ⟨_, rfl⟩⟩
  | abs => exact ⟨call_abs, by decide +kernel, by decide +kernel, by decide +kernel, by decide +kernel, .inl ⟨_, rfl⟩⟩
  | min2 => exact ⟨call_min2 hc, by decide +kernel, by decide +kernel, by decide +kernel, by decide +kernel, .inl ⟨_, rfl⟩⟩
  | max2 => exact ⟨call_max2 hc, by decide +kernel, by decide +kernel, by decide +kernel, by decide +kernel, .inl ⟨_, rfl⟩⟩
  | divmod => exact ⟨call_divmod, by decide +kernel, by decide +kernel, by decide +kernel, by decide +kernel, .inl ⟨_, rfl⟩⟩
  | all => exact ⟨cr_all hc, by decide +kernel, by decide +kernel, by decide +kernel, by decide +kernel, .inl ⟨_, rfl⟩⟩
  | any => exact ⟨cr_any hc, by decide +kernel, by decide +kernel, by decide +kernel, by decide +kernel, .inl ⟨_, rfl⟩⟩
  | sorted => exact ⟨CallR.or' (cr_sortedA hr.units) (cr_sortedD hc hr.units), by decide +kernel, by decide +kernel, by decide +kernel, by decide +kernel, .inl ⟨_, rfl⟩⟩
  | int => exact ⟨CallR.or' call_int1 call_int_str, by decide +kernel, by decide +kernel, by decide +kernel, by decide +kernel, .inr ⟨_, rfl⟩⟩
  | str => exact ⟨call_str_int, by decide +kernel, by decide +kernel, by decide +kernel, by decide +kernel, .inr ⟨_, rfl⟩⟩
  | list => exact ⟨call_list_of, by decide +kernel, by decide +kernel, by decide +kernel, by decide +kernel, .inr ⟨_, rfl⟩⟩
  | tuple => exact ⟨call_tuple_of, by decide +kernel, by decide +kernel, by decide +kernel, by decide +kernel, .inr ⟨_, rfl⟩⟩
theorem bf_serves {f : Bf} {c : Value × Str} {r : List V → Hp → VK → Prop} (hb : BfC X f c r) : ServesB X r (wBf f) := by
  intro ρ S σ H Φ K Q ds vs r p rp h fin
  unfold wBf at h
  cases hb with
  | len =>
    split at h <;> first | (rename_i e _; cases e; done) | (rename_i e; cases e; done) | skip
    · obtain ⟨v, rfl, h1⟩ := rep1 rp
      obtain ⟨a, ws, rfl, ha, hr⟩ := repTup h1
      exact ⟨_, _, rfl, .inr ⟨ws, SqT.of ha, hr.length⟩, fin _ S _ H r p (by simp only [Rep]) h⟩
    · obtain ⟨v, rfl, h1⟩ := rep1 rp
      cases repStr h1
      exact ⟨_, _, rfl, ⟨h.1, rfl⟩, fin _ S _ H r p (by simp only [Rep]) h.2⟩
    · obtain ⟨v, rfl, h1⟩ := rep1 rp
      cases repRef h1
      split at h
      · rename_i ds e1
        obtain ⟨ws, h2, hr⟩ := lstAt_rep (K := X.K) r.st e1
        exact ⟨_, _, rfl, .inl ⟨ws, h2, hr.length⟩, fin _ S _ H r p (by simp only [Rep]) h⟩
      · exact h.elim
    · exact h.elim
  | abs =>
    split at h <;> first | (rename_i e _; cases e; done) | (rename_i e; cases e; done) | skip
    · obtain ⟨v, rfl, h1⟩ := rep1 rp
      cases repInt h1
      exact ⟨_, rfl, fin _ S _ H r p (by simp only [Rep]) h⟩
    · exact h.elim
  | min2 =>
    split at h <;> first | (rename_i e _; cases e; done) | (rename_i e; cases e; done) | skip
    · obtain ⟨v, u, rfl, h1, h2⟩ := rep2 rp
      cases repInt h1
      cases repInt h2
      exact ⟨_, _, rfl, fin _ S _ H r p (by simp only [Rep]) h⟩
    · exact h.elim
  | max2 =>
    split at h <;> first | (rename_i e _; cases e; done) | (rename_i e; cases e; done) | skip
    · obtain ⟨v, u, rfl, h1, h2⟩ := rep2 rp
      cases repInt h1
      cases repInt h2
      exact ⟨_, _, rfl, fin _ S _ H r p (by simp only [Rep]) h⟩
    · exact h.elim
  | divmod =>
    split at h <;> first | (rename_i e _; cases e; done) | (rename_i e; cases e; done) | skip
    · rename_i i j _
      obtain ⟨v, u, rfl, h1, h2⟩ := rep2 rp
      cases repInt h1
      cases repInt h2
      refine ⟨_, _, rfl, h.1, fun q hq => ?_⟩
      have t : Tm H (upd H q (.tup [V.int (i / j), V.int (i % j)])) := Tm.upd_new hq
      exact fin _ S (.ref q) _ (r.mono t (r.st.newTup hq)) (Φ.mono t p) (by simp only [Rep]; exact ⟨q, _, rfl, upd_same, Reps.cons (by simp only [Rep]) (Reps.cons (by simp only [Rep]) Reps.nil)⟩) h.2
    · exact h.elim
  | all =>
    split at h <;> first | (rename_i e _; cases e; done) | (rename_i e; cases e; done) | skip
    · obtain ⟨v, rfl, h1⟩ := rep1 rp
      cases repRef h1
      obtain ⟨bs, e1, h⟩ := h
      obtain ⟨ws, h2, hr⟩ := lstAt_rep (K := X.K) r.st e1
      rw [hr.bls] at h2
      exact ⟨_, bs, rfl, h2, fin _ S _ H r p (by simp only [Rep]) h⟩
    · exact h.elim
  | any =>
    split at h <;> first | (rename_i e _; cases e; done) | (rename_i e; cases e; done) | skip
    · obtain ⟨v, rfl, h1⟩ := rep1 rp
      cases repRef h1
      obtain ⟨bs, e1, h⟩ := h
      obtain ⟨ws, h2, hr⟩ := lstAt_rep (K := X.K) r.st e1
      rw [hr.bls] at h2
      exact ⟨_, bs, rfl, h2, fin _ S _ H r p (by simp only [Rep]) h⟩
    · exact h.elim
  | sorted =>
    split at h <;> first | (rename_i e _; cases e; done) | (rename_i e; cases e; done) | skip
    · obtain ⟨v, rfl, h1⟩ := rep1 rp
      cases repRef h1
      split at h
      · rename_i ds e1
        obtain ⟨ws, h2, hr⟩ := lstAt_rep (K := X.K) r.st e1
        obtain ⟨ps, e2, al, so, hL, hd, h⟩ := h
        have hl := pdl_len e2
        refine .inl ⟨_, ws, ps, rfl, h2, pdl_rep r.st 8 _ _ _ hr e2, al, so, by rw [← hl]; exact hL, hd, fun q hq => ?_⟩
        have hs := sort_rep hr hl
        rw [sort_pairs e2] at hs
        exact fin_new r p hs h fin hq
      · split at h
        · rename_i lk kvs e1
          have m := r.st _ _ e1
          obtain ⟨kts, h1', hr⟩ := m
          have hrd : ∀ {b : Addr}, At lk H b (.dT kts) → Rd H b (.dT kts) := fun {b} z => by
            cases lk with
            | false => exact .inl z
            | true => exact .inr z
          obtain ⟨ps, e2, al, so, hL, hd, h⟩ := h
          have hl := pdl_len e2
          have rk : ∀ {kvs : List (D × D)} {kts : List (List Key × V)} {bs : List Addr}, RepT H kvs kts → IsKeys H kts bs → Reps H (kvs.map (·.1)) (bs.map V.ref) := by
            intro kvs kts bs q
            induction q generalizing bs with
            | nil => intro q2; cases q2; exact Reps.nil
            | cons q0 _ ih =>
              intro q2
              cases q2 with
              | cons q3 q4 =>
                refine Reps.cons ?_ (ih q4)
                dsimp only
                rw [q0.1]
                unfold kDs
                simp only [Rep]
                have rks : ∀ ks : List Key, Reps H (ks.map kD) (ks.map kV) := by
                  intro ks
                  induction ks with
                  | nil => exact Reps.nil
                  | cons k ks ih2 => exact Reps.cons (by cases k <;> simp only [kD, kV, Rep]) ih2
                exact ⟨_, _, rfl, q3, rks _⟩
          refine .inr ⟨_, kts, rfl, hrd h1', fun bs hbs => ⟨ps, pdl_rep r.st 8 _ _ _ (rk hr hbs) e2, al, so, hd, fun q hq => ?_⟩⟩
          have hs := sort_rep (rk hr hbs) hl
          rw [sort_pairs e2] at hs
          exact fin_new r p hs h fin hq
        · exact h.elim
    · exact h.elim
  | int =>
    split at h <;> first | (rename_i e _; cases e; done) | (rename_i e; cases e; done) | skip
    · obtain ⟨v, rfl, h1⟩ := rep1 rp
      cases repInt h1
      exact .inl (.inl ⟨_, rfl, fin _ S _ H r p (by simp only [Rep]) h⟩)
    · obtain ⟨v, rfl, h1⟩ := rep1 rp
      cases repBl h1
      exact .inl (.inr ⟨_, rfl, fin _ S _ H r p (by simp only [Rep]) h⟩)
    · obtain ⟨v, rfl, h1⟩ := rep1 rp
      cases repStr h1
      obtain ⟨n, e1, e2, h⟩ := h
      exact .inr ⟨_, n, rfl, e1, e2, fin _ S _ H r p (by simp only [Rep]) h⟩
    · exact h.elim
  | str =>
    split at h <;> first | (rename_i e _; cases e; done) | (rename_i e; cases e; done) | skip
    · obtain ⟨v, rfl, h1⟩ := rep1 rp
      cases repInt h1
      exact ⟨_, rfl, h.1, fin _ S _ H r p (by simp only [Rep]) h.2⟩
    · exact h.elim
  | list =>
    split at h <;> first | (rename_i e _; cases e; done) | (rename_i e; cases e; done) | skip
    · obtain ⟨v, rfl, h1⟩ := rep1 rp
      obtain ⟨a, ws, rfl, ha, hr⟩ := repTup h1
      exact ⟨_, ws, rfl, .inr (SqT.of ha), fun q hq => fin_new r p hr h fin hq⟩
    · obtain ⟨v, rfl, h1⟩ := rep1 rp
      cases repRef h1
      split at h
      · rename_i ds e1
        obtain ⟨ws, h2, hr⟩ := lstAt_rep (K := X.K) r.st e1
        exact ⟨_, ws, rfl, .inl h2, fun q hq => fin_new r p hr h fin hq⟩
      · exact h.elim
    · exact h.elim
  | tuple =>
    split at h <;> first | (rename_i e _; cases e; done) | (rename_i e; cases e; done) | skip
    · obtain ⟨v, rfl, h1⟩ := rep1 rp
      obtain ⟨a, ws, rfl, ha, hr⟩ := repTup h1
      exact ⟨_, ws, rfl, .inr ⟨SqT.of ha, fin _ S _ H r p (by simp only [Rep]; exact ⟨a, ws, rfl, ha, hr⟩) h⟩⟩
    · obtain ⟨v, rfl, h1⟩ := rep1 rp
      cases repRef h1
      split at h
      · rename_i ds e1
        obtain ⟨ws, h2, hr⟩ := lstAt_rep (K := X.K) r.st e1
        refine ⟨_, ws, rfl, .inl ⟨h2, fun q hq => ?_⟩⟩
        have t : Tm H (upd H q (.tup ws)) := Tm.upd_new hq
        exact fin _ S (.ref q) _ (r.mono t (r.st.newTup hq)) (Φ.mono t p) (by simp only [Rep]; exact ⟨q, _, rfl, upd_same, hr.mono t⟩) h
      · exact h.elim
    · exact h.elim
theorem d_bf (C : XOk Γ nm N k X) {f : Bf} {c : Value × Str} {r : List V → Hp → VK → Prop} (hb : BfC X f c r) {e : Expr} {es : List Expr} {cs : List Ex} {pp pos : Pos} (hg : glB nm c.2 = true) (hs : (e :: es).all noStar = true) (ha : dEs X (e :: es) (wEs Γ cs)) :
    dE X (.Call (.Name c.2 pp) (e :: es) [] pos) (wE Γ (.bf f cs)) := by
  obtain ⟨hc, hboot, hbl, hn, hdb, hk⟩ := bf_call C.calm C.hr hb
  have hm := C.g.blt c.2 hbl
  rw [List.all_cons, Bool.and_eq_true] at hs
  have go : PE X (.Call (.Name c.2 pp) (e :: es) [] pos) (tCB r (lEs X (wEs Γ cs))) := by
    obtain ⟨cv, cn⟩ := c
    rcases hk with ⟨id, rfl⟩ | ⟨T, rfl⟩
    · exact pe_callB hc (C.n.gl hg) hm hboot ha hn hdb (star_cons hs.1) (star_plain hs.2)
    · exact pe_callTy hc (C.n.gl hg) hm hboot ha hn hdb (star_cons hs.1) (star_plain hs.2)
  refine go.imp fun σ H Q h => ?_
  obtain ⟨ρ, S, Φ, K, E, r0, p, tk, h, fin⟩ := h
  simp only [wE] at h
  exact lEs.go r0 p tk h fun ds S1 vs H1 r1 p1 rp1 k1 => bf_serves hb ρ S1 σ H1 Φ K Q ds vs r1 p1 rp1 k1 fin
end
end DL

/-! DL9: methods of built-in types. -/
namespace DL
open PySem PySem.Spec PyProof.Rows L2
section
variable {Γ : GE} {nm : List (Str × NameKind)} {N : List Str} {k : Nat} {X : Cx}
def ServesM (X : Cx) (r : V → List V → Hp → VK → Prop) (w : D → List D → Sto → Kt → Prop) : Prop := ∀ (ρ : Env') (S : Sto) (σ : L2.St) (H : Hp) (Φ : TP) (K : Kt) (Q : VK) (x : D) (v : V) (ds : List D) (vs : List V), Rr ρ S σ H → Φ.p H → Rep H x v → Reps H ds vs → w x ds S K →
  (∀ d S' v H', Rr ρ S' σ H' → Φ.p H' → Rep H' d v → K d S' → Q v H') → r v vs H Q
def tName : BT → String
  | .list => "list"
  | .dict => "dict"
  | .str => "str"
theorem bty_rep {d : D} {S : Sto} {H : Hp} {v : V} {T : BT} (s : SRep S H) (h : Rep H d v) (e : bty d S = some T) : tyV X.K (tName T) v H := by
  cases d with
  | str x =>
    simp only [bty, Option.some.injEq] at e
    subst e
    cases repStr h
    exact rfl
  | ref a =>
    cases repRef h
    simp only [bty] at e
    split at e
    · rename_i ds e1
      simp only [Option.some.injEq] at e
      subst e
      obtain ⟨vs, h1, _⟩ := s _ _ e1
      exact .inl ⟨rfl, vs, SqL.of h1⟩
    · rename_i ds e1
      simp only [Option.some.injEq] at e
      subst e
      obtain ⟨o, vs, h1, _⟩ := s _ _ e1
      exact .inl ⟨rfl, vs, .inl (.inr ⟨o, h1⟩)⟩
    · rename_i tk kvs e1
      simp only [Option.some.injEq] at e
      subst e
      have m := s _ _ e1
      cases tk with
      | true => obtain ⟨kts, h1, _⟩ := m; exact .inr (.inr (.inl ⟨rfl, .inr ⟨kts, h1⟩⟩))
      | false => obtain ⟨kts, h1, _⟩ := m; exact .inr (.inr (.inl ⟨rfl, .inl ⟨kts, h1⟩⟩))
    · cases e
  | non => simp [bty] at e
  | bl _ => simp [bty] at e
  | int _ => simp [bty] at e
  | tup _ => simp [bty] at e
  | ty _ => simp [bty] at e
/-- a list at a: written -/
theorem lst_of {S : Sto} {H : Hp} (s : SRep S H) {a : Addr} {ds : List D} (e : S a = some (.lst ds)) : ∃ vs, H a = some (.lst vs) ∧ Reps H ds vs := s _ _ e
/-- a list written anew -/
theorem fin_put {ρ : Env'} {S : Sto} {σ : L2.St} {H : Hp} {Φ : TP} {K : Kt} {Q : VK} {a : Addr} {es : List D} {vs ws : List V} {d : D} {v : V} (r : Rr ρ S σ H) (p : Φ.p H) (h1 : H a = some (.lst vs)) (rp : Reps H es ws) (rv : Rep H d v) (h : K d (put S a (.lst es)))
    (fin : ∀ d S' v H', Rr ρ S' σ H' → Φ.p H' → Rep H' d v → K d S' → Q v H') : Q v (upd H a (.lst ws)) := by
  have t : Tm H (upd H a (.lst ws)) := Tm.upd_mut h1 fun _ z => nomatch z
  exact fin d _ v _ (r.mono t (r.st.write h1 (fun _ z => nomatch z) (show MRep (L2.upd H a (.lst ws)) a (.lst es) from ⟨ws, upd_same, rp.mono t⟩))) (Φ.mono t p) (rv.mono t) h
theorem Reps.eraseIdx {H : Hp} : ∀ {ds : List D} {vs : List V} (i : Nat), Reps H ds vs → Reps H (ds.eraseIdx i) (vs.eraseIdx i)
  | [], _, _, h => by rw [h.nil_inv]; exact Reps.nil
  | d :: ds, _, 0, h => by
    obtain ⟨v, r, rfl, h1, h2⟩ := h.cons_inv
    exact h2
  | d :: ds, _, i + 1, h => by
    obtain ⟨v, r, rfl, h1, h2⟩ := h.cons_inv
    exact Reps.cons h1 (Reps.eraseIdx i h2)
theorem Reps.dropLast {H : Hp} {ds : List D} {vs : List V} (h : Reps H ds vs) : Reps H ds.dropLast vs.dropLast := by
  rw [List.dropLast_eq_take, List.dropLast_eq_take, h.length]
  exact h.take _
theorem repNon {H : Hp} : Rep H .non .non := by simp only [Rep]

inductive BmC (X : Cx) : Bm → (Str × String) → (V → List V → Hp → VK → Prop) → Prop where
  | append : BmC X .append ("append", "list.append") rAppend
  | extend : BmC X .extend ("extend", "list.extend") rExtend
  | popL : BmC X .popL ("pop", "list.pop") rPop
  | popAt : BmC X .popAt ("pop", "list.pop") rPopAt
  | insert : BmC X .insert ("insert", "list.insert") (fun x vs H Q => ∃ (l : Addr) (xs : List V) (i : Int) (y : V), x = .ref l ∧ vs = [.int i, y] ∧ H l = some (.lst xs) ∧ xs.length < sizeLine ∧ 0 ≤ i ∧ i < 2 ^ 63 ∧
      Q .non (upd H l (.lst (xs.take i.toNat ++ [y] ++ xs.drop i.toNat))))
  | index : BmC X .index ("index", "list.index") (rIndex X.K)
  | count : BmC X .count ("count", "list.count") (rCntF X.K)
  | reverse : BmC X .reverse ("reverse", "list.reverse") rReverse
  | clear : BmC X .clear ("clear", "list.clear") rClear
  | join : BmC X .join ("join", "str.join") (fun x xs H Q => ∃ a p, ∃ ys : List Str, x = .str a ∧ xs = [.ref p] ∧ (SqL X.K H p (ys.map V.str) ∨ SqT X.K H p (ys.map V.str)) ∧
      (ys.map (·.length)).sum + ys.length * a.length ≤ 16777216 ∧ Q (.str (Txt.join a ys)) H)
  | split : BmC X .split ("split", "str.split") (fun x xs H Q => ∃ a b, x = .str a ∧ xs = [.str b] ∧ (b.length == 0) = false ∧ a.length + 2 ≤ sizeLine ∧ rNewStrs (Txt.split a b) H Q)
  | strip : BmC X .strip ("strip", "str.strip") (fun x xs H Q => ∃ a b, x = .str a ∧ xs = [.str b] ∧ a.length ≤ sizeLine ∧ Q (.str (Txt.stripChars a b)) H)
  | startswith : BmC X .startswith ("startswith", "str.startswith") (fun x xs H Q => ∃ a b, x = .str a ∧ xs = [.str b] ∧ Q (.bl (Txt.startswith a b)) H)
  | endswith : BmC X .endswith ("endswith", "str.endswith") (fun x xs H Q => ∃ a b, x = .str a ∧ xs = [.str b] ∧ Q (.bl (Txt.endswith a b)) H)
theorem bm_rule {m : Bm} {c : Str × String} {r : V → List V → Hp → VK → Prop} (h : BmC X m c r) : MtR X c.2 r ∧ PlainAttrs (tName (mT m)) ∧ Slot (tName (mT m)) c.1 c.2 ∧ typeOf (.builtin c.2) = pure (.type "method_descriptor") := by
  cases h with
  | append => exact ⟨mt_append, PySem.F.plainAttrs_list, PySem.F.slot_list_append, PySem.F.type_list_append⟩
  | extend => exact ⟨mt_extend, PySem.F.plainAttrs_list, PySem.F.slot_list_extend, PySem.F.type_list_extend⟩
  | popL => exact ⟨mt_pop, PySem.F.plainAttrs_list, PySem.F.slot_list_pop, PySem.F.type_list_pop⟩
  | popAt => exact ⟨mt_popAt, PySem.F.plainAttrs_list, PySem.F.slot_list_pop, PySem.F.type_list_pop⟩
  | insert => exact ⟨mt_insert, PySem.F.plainAttrs_list, PySem.F.slot_list_insert, PySem.F.type_list_insert⟩
  | index => exact ⟨mt_index, PySem.F.plainAttrs_list, PySem.F.slot_list_index, PySem.F.type_list_index⟩
  | count => exact ⟨mt_countF, PySem.F.plainAttrs_list, PySem.F.slot_list_count, PySem.F.type_list_count⟩
  | reverse => exact ⟨mt_reverse, PySem.F.plainAttrs_list, PySem.F.slot_list_reverse, PySem.F.type_list_reverse⟩
  | clear => exact ⟨mt_clear, PySem.F.plainAttrs_list, PySem.F.slot_list_clear, PySem.F.type_list_clear⟩
  | join => exact ⟨mt_join, PySem.F.plainAttrs_str, PySem.F.slot_str_join, PySem.F.type_str_join⟩
  | split => exact ⟨mt_split, PySem.F.plainAttrs_str, PySem.F.slot_str_split, PySem.F.type_str_split⟩
  | strip => exact ⟨mt_stripChars, PySem.F.plainAttrs_str, PySem.F.slot_str_strip, PySem.F.type_str_strip⟩
  | startswith => exact ⟨mt_startswith, PySem.F.plainAttrs_str, PySem.F.slot_str_startswith, PySem.F.type_str_startswith⟩
  | endswith => exact ⟨mt_endswith, PySem.F.plainAttrs_str, PySem.F.slot_str_endswith, PySem.F.type_str_endswith⟩
theorem ixN_ok {n : Nat} {i : Int} {j : Nat} (h : ixN n i = some j) (hn : n ≤ sizeLine) : seqIndex? i n = some j ∧ -(2 ^ 63) ≤ i ∧ i < 2 ^ 63 := by
  obtain ⟨h1, h2, h3, h4⟩ := ixN_seq h
  rw [sizeLine_eq] at hn
  exact ⟨h1, by omega, by omega⟩
theorem bm_serves {m : Bm} {c : Str × String} {r : V → List V → Hp → VK → Prop} (hb : BmC X m c r) : ServesM X r (wBm m) := by
  intro ρ S σ H Φ K Q x v ds vs r p rx rp h fin
  unfold wBm at h
  cases hb with
  | append =>
    split at h <;> first | (rename_i e _ _; cases e; done) | (rename_i e _; cases e; done) | (rename_i e; cases e; done) | skip
    · obtain ⟨u, rfl, h1⟩ := rep1 rp
      cases repRef rx
      split at h
      · rename_i xs e1
        obtain ⟨ws, h2, hr⟩ := lst_of r.st e1
        exact ⟨_, ws, u, rfl, rfl, h2, by rw [← hr.length]; exact h.1, fin_put r p h2 (hr.append (Reps.cons h1 Reps.nil)) repNon h.2 fin⟩
      · exact h.elim
    · exact h.elim
  | extend =>
    split at h <;> first | (rename_i e _ _; cases e; done) | (rename_i e _; cases e; done) | (rename_i e; cases e; done) | skip
    · obtain ⟨u, rfl, h1⟩ := rep1 rp
      cases repRef rx
      cases repRef h1
      split at h
      · rename_i xs ys e1 e2
        obtain ⟨ws, h2, hr⟩ := lst_of r.st e1
        obtain ⟨zs, h3, hr2⟩ := lst_of r.st e2
        exact ⟨_, _, ws, zs, rfl, rfl, h2, h3, by rw [← hr.length, ← hr2.length]; exact h.1, fin_put r p h2 (hr.append hr2) repNon h.2 fin⟩
      · exact h.elim
    · exact h.elim
  | popL =>
    split at h <;> first | (rename_i e _ _; cases e; done) | (rename_i e _; cases e; done) | (rename_i e; cases e; done) | skip
    · cases rp.nil_inv
      cases repRef rx
      split at h
      · rename_i xs e1
        obtain ⟨ws, h2, hr⟩ := lst_of r.st e1
        obtain ⟨d, e2, h⟩ := h
        obtain ⟨u, e3, ru⟩ := hr.get e2
        rw [hr.length] at e3
        exact ⟨_, ws, u, rfl, rfl, h2, e3, fin_put r p h2 hr.dropLast ru h fin⟩
      · exact h.elim
    · exact h.elim
  | popAt =>
    split at h <;> first | (rename_i e _ _; cases e; done) | (rename_i e _; cases e; done) | (rename_i e; cases e; done) | skip
    · obtain ⟨u, rfl, h1⟩ := rep1 rp
      cases repRef rx
      cases repInt h1
      split at h
      · rename_i xs e1
        obtain ⟨ws, h2, hr⟩ := lst_of r.st e1
        obtain ⟨j, d, e2, hz, e3, h⟩ := h
        obtain ⟨u, e4, ru⟩ := hr.get e3
        rw [hr.length] at e2 hz
        obtain ⟨a1, a2, a3⟩ := ixN_ok e2 hz
        exact ⟨_, ws, _, j, u, rfl, rfl, h2, a2, a3, a1, e4, fin_put r p h2 (hr.eraseIdx j) ru h fin⟩
      · exact h.elim
    · exact h.elim
  | insert =>
    split at h <;> first | (rename_i e _ _; cases e; done) | (rename_i e _; cases e; done) | (rename_i e; cases e; done) | skip
    · obtain ⟨u, z, rfl, h1, h3⟩ := rep2 rp
      cases repRef rx
      cases repInt h1
      split at h
      · rename_i xs e1
        obtain ⟨ws, h2, hr⟩ := lst_of r.st e1
        obtain ⟨a1, a2, a3, h⟩ := h
        exact ⟨_, ws, _, z, rfl, rfl, h2, by rw [← hr.length]; exact a1, a2, a3, fin_put r p h2 (((hr.take _).append (Reps.cons h3 Reps.nil)).append (hr.drop _)) repNon h fin⟩
      · exact h.elim
    · exact h.elim
  | index =>
    split at h <;> first | (rename_i e _ _; cases e; done) | (rename_i e _; cases e; done) | (rename_i e; cases e; done) | skip
    · obtain ⟨u, rfl, h1⟩ := rep1 rp
      cases repRef rx
      split at h
      · rename_i xs e1
        obtain ⟨ws, h2, hr⟩ := lstAt_rep (K := X.K) r.st e1
        obtain ⟨f1, f2, j, z, e2, e3, hno, h⟩ := h
        obtain ⟨w', e4, rw'⟩ := hr.get e2
        have fz : flatD z = true := List.all_eq_true.mp f2 z (List.mem_of_getElem? e2)
        refine ⟨_, ws, u, j, w', rfl, rfl, h2, flat_rep h1 f1, flats_rep hr f2, e4, by rw [eqF_rep rw' h1 fz f1]; exact e3, fun m z' hm hz' => ?_, fin _ S _ H r p (by simp only [Rep]) h⟩
        obtain ⟨d', e5, rd'⟩ := hr.get' hz'
        have fd : flatD d' = true := List.all_eq_true.mp f2 d' (List.mem_of_getElem? e5)
        rw [eqF_rep rd' h1 fd f1]
        exact hno m d' hm e5
      · exact h.elim
    · exact h.elim
  | count =>
    split at h <;> first | (rename_i e _ _; cases e; done) | (rename_i e _; cases e; done) | (rename_i e; cases e; done) | skip
    · obtain ⟨u, rfl, h1⟩ := rep1 rp
      cases repRef rx
      split at h
      · rename_i xs e1
        obtain ⟨f1, f2, h⟩ := h
        obtain ⟨ws, h2, hr⟩ := lstAt_rep (K := X.K) r.st e1
        refine ⟨_, ws, u, rfl, rfl, h2, flat_rep h1 f1, flats_rep hr f2, ?_⟩
        have ec : ∀ {x : D}, Rep H x u → flatD x = true → ∀ {ds : List D} {vs : List V}, Reps H ds vs → ds.all flatD = true → vs.countP (fun z => eqV z u) = ds.countP fun z => eqF z x := by
          intro x h1 f1 ds
          induction ds with
          | nil => intro vs q _; rw [q.nil_inv]; rfl
          | cons d ds ih =>
            intro vs q f
            obtain ⟨v, rr, rfl, q1, q2⟩ := q.cons_inv
            rw [List.all_cons, Bool.and_eq_true] at f
            rw [List.countP_cons, List.countP_cons, ih q2 f.2, eqF_rep q1 h1 f.1 f1]
        rw [ec h1 f1 hr f2]
        exact fin _ S _ H r p (by simp only [Rep]) h
      · exact h.elim
    · exact h.elim
  | reverse =>
    split at h <;> first | (rename_i e _ _; cases e; done) | (rename_i e _; cases e; done) | (rename_i e; cases e; done) | skip
    · cases rp.nil_inv
      cases repRef rx
      split at h
      · rename_i xs e1
        obtain ⟨ws, h2, hr⟩ := lst_of r.st e1
        exact ⟨_, ws, rfl, rfl, h2, fin_put r p h2 hr.reverse repNon h fin⟩
      · exact h.elim
    · exact h.elim
  | clear =>
    split at h <;> first | (rename_i e _ _; cases e; done) | (rename_i e _; cases e; done) | (rename_i e; cases e; done) | skip
    · cases rp.nil_inv
      cases repRef rx
      split at h
      · rename_i xs e1
        obtain ⟨ws, h2, hr⟩ := lst_of r.st e1
        exact ⟨_, ws, rfl, rfl, h2, fin_put r p h2 Reps.nil repNon h fin⟩
      · exact h.elim
    · exact h.elim
  | join =>
    split at h <;> first | (rename_i e _ _; cases e; done) | (rename_i e _; cases e; done) | (rename_i e; cases e; done) | skip
    · obtain ⟨u, rfl, h1⟩ := rep1 rp
      cases repStr rx
      cases repRef h1
      obtain ⟨ys, e1, hz, h⟩ := h
      obtain ⟨ws, h2, hr⟩ := lstAt_rep (K := X.K) r.st e1
      rw [hr.strs] at h2
      exact ⟨_, _, ys, rfl, rfl, .inl h2, hz, fin _ S _ H r p (by simp only [Rep]) h⟩
    · exact h.elim
  | split =>
    split at h <;> first | (rename_i e _ _; cases e; done) | (rename_i e _; cases e; done) | (rename_i e; cases e; done) | skip
    · obtain ⟨u, rfl, h1⟩ := rep1 rp
      cases repStr rx
      cases repStr h1
      refine ⟨_, _, rfl, rfl, h.1, h.2.1, fun q hq => ?_⟩
      have rs : ∀ ys : List Str, Reps H (ys.map D.str) (ys.map V.str) := fun ys => by
        induction ys with
        | nil => exact Reps.nil
        | cons y ys ih => exact Reps.cons (d := .str y) (by simp only [Rep]) ih
      exact fin_new r p (rs _) h.2.2 fin hq
    · exact h.elim
  | strip =>
    split at h <;> first | (rename_i e _ _; cases e; done) | (rename_i e _; cases e; done) | (rename_i e; cases e; done) | skip
    · obtain ⟨u, rfl, h1⟩ := rep1 rp
      cases repStr rx
      cases repStr h1
      exact ⟨_, _, rfl, rfl, h.1, fin _ S _ H r p (by simp only [Rep]) h.2⟩
    · exact h.elim
  | startswith =>
    split at h <;> first | (rename_i e _ _; cases e; done) | (rename_i e _; cases e; done) | (rename_i e; cases e; done) | skip
    · obtain ⟨u, rfl, h1⟩ := rep1 rp
      cases repStr rx
      cases repStr h1
      exact ⟨_, _, rfl, rfl, fin _ S _ H r p (by simp only [Rep]) h⟩
    · exact h.elim
  | endswith =>
    split at h <;> first | (rename_i e _ _; cases e; done) | (rename_i e _; cases e; done) | (rename_i e; cases e; done) | skip
    · obtain ⟨u, rfl, h1⟩ := rep1 rp
      cases repStr rx
      cases repStr h1
      exact ⟨_, _, rfl, rfl, fin _ S _ H r p (by simp only [Rep]) h⟩
    · exact h.elim
theorem few_ok {es : List Expr} {cpos : Pos} {env : Env} (hs : es.all noStar = true) (hf : es.length < 30) : ((backTo cpos (starEach es env)).all (fun x => !x.1) && (backToKw cpos (keywordEach [] env)).all (fun x => x.1.isSome)
      && decide (es.length + ([] : List Keyword).length + (if ([] : List Keyword).isEmpty then 0 else 1) < 30)) = true := by
  rw [star_all hs]
  show (true && true && decide (es.length + 0 + 0 < 30)) = true
  simpa using hf
theorem d_bm0 {m : Bm} {c : Str × String} {r : V → List V → Hp → VK → Prop} (hb : BmC X m c r) {o : Expr} {co : Ex} {apos pos : Pos} (ho : dE X o (wE Γ co)) (hbase : attributeBase o c.1 X.env (eval o X.env) = eval o X.env) (hl : (apos.endLine == pos.line) = true) :
    dE X (.Call (.Attribute o c.1 apos) [] [] pos) (wE Γ (.bm m co [])) := by
  obtain ⟨h1, h2, h3, h4⟩ := bm_rule hb
  refine (pe_bm0 h2 h3 h4 h1 ho hbase hl).imp fun σ H Q h => ?_
  obtain ⟨ρ, S, Φ, K, E, r0, p, tk, h, fin⟩ := h
  simp only [wE, wEs] at h
  refine lE.go r0 p tk h fun d S1 v H1 r1 p1 rp1 tk1 p1' k1 => ?_
  exact ⟨bty_rep (X := X) r1.st rp1 k1.1, bm_serves hb ρ S1 σ H1 Φ K Q d v [] [] r1 p1 rp1 Reps.nil k1.2 fin⟩
theorem d_bm {m : Bm} {c : Str × String} {r : V → List V → Hp → VK → Prop} (hb : BmC X m c r) {o e : Expr} {es : List Expr} {co : Ex} {cs : List Ex} {apos pos : Pos} (ho : dE X o (wE Γ co)) (hbase : attributeBase o c.1 X.env (eval o X.env) = eval o X.env) (hl : (apos.endLine == pos.line) = true)
    (hs : (e :: es).all noStar = true) (hf : (e :: es).length < 30) (ha : dEs X (e :: es) (wEs Γ cs)) : dE X (.Call (.Attribute o c.1 apos) (e :: es) [] pos) (wE Γ (.bm m co cs)) := by
  obtain ⟨h1, h2, h3, h4⟩ := bm_rule hb
  have hs' := hs
  rw [List.all_cons, Bool.and_eq_true] at hs'
  refine (pe_bm h2 h3 h4 h1 ho ha hbase (few_ok hs hf) hl (star_cons hs'.1) (star_plain hs'.2)).imp fun σ H Q h => ?_
  obtain ⟨ρ, S, Φ, K, E, r0, p, tk, h, fin⟩ := h
  simp only [wE] at h
  refine lE.go r0 p tk h fun d S1 v H1 r1 p1 rp1 tk1 p1' k1 => ?_
  exact ⟨bty_rep (X := X) r1.st rp1 k1.1, lEs.go (Φ := Φ.holdV d v) r1 p1' tk1 k1.2 fun ds S2 vs H2 r2 p2 rp2 k2 => bm_serves hb ρ S2 σ H2 Φ K Q d v ds vs r2 p2.1 p2.2 rp2 k2 fin⟩
end
end DL

/-! DL10: isinstance; what is walked; targets; comprehensions. -/
namespace DL
open PySem PySem.Spec PyProof.Rows L2
section
variable {Γ : GE} {nm : List (Str × NameKind)} {N : List Str} {k : Nat} {X : Cx}
/-! ### isinstance -/
def tyName (n : String) : Bool := n == "int" || n == "bool" || n == "str" || n == "list" || n == "tuple" || n == "dict"
def oTy (t : String) : Bool := t == "NoneType" || t == "bool" || t == "int" || t == "str" || t == "tuple" || t == "list" || t == "dict"
theorem kit_all : ∀ t ∈ ["NoneType", "bool", "int", "str", "tuple", "list", "dict"], ∀ n ∈ ["int", "bool", "str", "list", "tuple", "dict"], kitB t n = some (isTy t n) := by decide +kernel
theorem tyOf_rep {d : D} {S : Sto} {H : Hp} {v : V} {t : String} (s : SRep S H) (h : Rep H d v) (e : tyOf d S = some t) : TyX X.K H v (.type t) ∧ t ∈ ["NoneType", "bool", "int", "str", "tuple", "list", "dict"] := by
  cases d with
  | non => simp only [tyOf, Option.some.injEq] at e; subst e; simp only [Rep] at h; subst h; exact ⟨.base .non, by decide⟩
  | bl b => simp only [tyOf, Option.some.injEq] at e; subst e; cases repBl h; exact ⟨.base (.bl b), by decide⟩
  | int b => simp only [tyOf, Option.some.injEq] at e; subst e; cases repInt h; exact ⟨.base (.int b), by decide⟩
  | str b => simp only [tyOf, Option.some.injEq] at e; subst e; cases repStr h; exact ⟨.base (.str b), by decide⟩
  | tup ds =>
    simp only [tyOf, Option.some.injEq] at e; subst e
    obtain ⟨a, vs, rfl, ha, _⟩ := repTup h
    exact ⟨.base (.tup ha), by decide⟩
  | ref a =>
    cases repRef h
    simp only [tyOf] at e
    split at e
    · rename_i ds e1
      simp only [Option.some.injEq] at e; subst e
      obtain ⟨vs, h1, _⟩ := s _ _ e1
      exact ⟨.base (.lst h1), by decide⟩
    · rename_i ds e1
      simp only [Option.some.injEq] at e; subst e
      obtain ⟨o, vs, h1, _⟩ := s _ _ e1
      exact ⟨.base (.frz h1), by decide⟩
    · rename_i tk kvs e1
      simp only [Option.some.injEq] at e; subst e
      have m := s _ _ e1
      cases tk with
      | true => obtain ⟨kts, h1, _⟩ := m; exact ⟨.base (.dT h1), by decide⟩
      | false => obtain ⟨kts, h1, _⟩ := m; exact ⟨.base (.dK h1), by decide⟩
    · cases e
  | ty n => simp [tyOf] at e
theorem tyName_mem {n : String} (h : tyName n = true) : n ∈ ["int", "bool", "str", "list", "tuple", "dict"] := by
  unfold tyName at h
  simpa [or_assoc] using h
theorem d_isi (C : XOw Γ nm N k X) {e : Expr} {c : Ex} {n : String} {x : Str} {pp p2 pos : Pos} (hg : glB nm "isinstance" = true) (hg2 : glB nm x = true) (hx : bootBuiltins x = some (.type n)) (hbl : bltB x = true) (hn2 : x ≠ "__name__") (hd2 : (x == ("__debug__" : Str)) = false)
    (hn : tyName n = true) (hs : noStar e = true) (he : dE X e (wE Γ c)) : dE X (.Call (.Name "isinstance" pp) [e, .Name x p2] [] pos) (wE Γ (.isi c n)) := by
  have hm := C.g.blt "isinstance" (by decide +kernel)
  have ht : PE X (.Name x p2) (tC (.ty n)) := pe_bltn (C.n.gl hg2) (C.g.blt x hbl) hx rfl hn2 hd2
  refine (pe_callB call_isi (C.n.gl hg) hm (by decide +kernel) (pa_cons he (pa_cons ht pa_nil rfl) (star_cons hs)) (by decide +kernel) (by decide +kernel) (star_cons hs) rfl).imp fun σ H Q h => ?_
  obtain ⟨ρ, S, Φ, K, E, r, p, tk, h, fin⟩ := h
  simp only [wE] at h
  refine lE.go r p tk h fun d S1 v H1 r1 p1 rp1 tk1 p1' k1 => ?_
  split at k1
  · rename_i t e1
    obtain ⟨h1, h2⟩ := tyOf_rep (X := X) r1.st rp1 e1
    exact ⟨v, .ty n, _, _, _, rfl, .ty n, h1, kit_ty (kit_all t h2 n (tyName_mem hn)), fin _ S1 _ H1 r1 p1 (by simp only [Rep]) k1⟩
  · exact k1.elim

/-! ### targets -/
mutual
def tgSlots : Tg → List Nat
  | .nm i => [i]
  | .tup ts => tgsSlots ts
def tgsSlots : List Tg → List Nat
  | [] => []
  | t :: ts => tgSlots t ++ tgsSlots ts
end
/-- only these slots differ -/
def Wiped (sl : List Nat) (σ σ' : L2.St) : Prop := ∀ vs : List Nat, (∀ i ∈ sl, i ∈ vs) → wipe σ' vs = wipe σ vs
theorem wipe_set {σ : L2.St} {i : Nat} {o : Option V} : ∀ {vs : List Nat}, i ∈ vs → wipe (σ.set i o) vs = wipe σ vs
  | v :: vs, h => by
    unfold wipe
    by_cases e : i ∈ vs
    · rw [wipe_set e]
    · have ei : i = v := by
        rcases List.mem_cons.mp h with q | q
        · exact q
        · exact absurd q e
      subst ei
      clear h
      have : ∀ (us : List Nat) (τ : L2.St), i ∉ us → wipe (τ.set i o) us = (wipe τ us).set i o := by
        intro us
        induction us with
        | nil => intro τ _; rfl
        | cons u us ih =>
          intro τ hn
          rw [List.mem_cons, not_or] at hn
          unfold wipe
          rw [ih τ hn.2, List.set_comm _ _ (by exact hn.1)]
      rw [this vs σ e, List.set_set]
abbrev dG (X : Cx) (t : Expr) (c : Tg) : Prop := PG X t (fun v σ H Q => ∃ ρ S Φ d K, Rr ρ S σ H ∧ TP.p Φ H ∧ Rep H d v ∧ wTg c d ρ K ∧ ∀ ρ' σ', Rr ρ' S σ' H → Wiped (tgSlots c) σ σ' → K ρ' → Q σ' H)
abbrev dGs (X : Cx) (ts : List Expr) (cs : List Tg) : Prop := PGs X ts (fun vs σ H Q => ∃ ρ S Φ ds K, Rr ρ S σ H ∧ TP.p Φ H ∧ Reps H ds vs ∧ wTgs cs ds ρ K ∧ ∀ ρ' σ', Rr ρ' S σ' H → Wiped (tgsSlots cs) σ σ' → K ρ' → Q σ' H)
theorem _root_.L2.PG.imp {X : Cx} {e : Expr} {t t' : TG} (h : PG X e t) (i : ∀ v σ H Q, t' v σ H Q → t v σ H Q) : PG X e t' := ⟨fun pins s σ H v u Q I r q => h.run pins s σ H v u Q I r (i _ _ _ _ q)⟩
theorem _root_.L2.PGs.imp {X : Cx} {e : List Expr} {t t' : TGs} (h : PGs X e t) (i : ∀ v σ H Q, t' v σ H Q → t v σ H Q) : PGs X e t' := ⟨fun pins s σ H v u Q I r q => h.run pins s σ H v u Q I r (i _ _ _ _ q)⟩
theorem g_nm (hN : NOk nm N X) {i : Nat} {x : Str} {pos : Pos} (hi : N[i]? = some x) (hl : locB nm x = true) : dG X (.Name x pos) (.nm i) := by
  obtain ⟨l1, l2⟩ := hN.loc hl
  refine (pg_name (i := i) (by rw [hN.n]; exact hN.nd) (by rw [hN.n]; exact hi) l1 l2).imp fun v σ H Q h => ?_
  obtain ⟨ρ, S, Φ, d, K, r, p, rp, h, fin⟩ := h
  simp only [wTg] at h
  exact fin _ _ (r.set i rp) (fun vs hv => wipe_set (hv i (by simp [tgSlots]))) h
theorem gs_nil : dGs X [] [] := by
  refine pgs_nil.imp fun v σ H Q h => ?_
  obtain ⟨ρ, S, Φ, d, K, r, p, rp, h, fin⟩ := h
  simp only [wTgs] at h
  obtain ⟨rfl, h⟩ := h
  exact ⟨rp.nil_inv, fin ρ σ r (fun _ _ => rfl) h⟩
theorem gs_cons {t : Expr} {ts : List Expr} {c : Tg} {cs : List Tg} (h1 : dG X t c) (h2 : dGs X ts cs) (hs : (assignEach (t :: ts) X.env).map (·.2) = assign t X.env :: (assignEach ts X.env).map (·.2)) : dGs X (t :: ts) (c :: cs) := by
  refine (pgs_cons h1 h2 hs).imp fun v σ H Q h => ?_
  obtain ⟨ρ, S, Φ, ds, K, r, p, rp, h, fin⟩ := h
  simp only [wTgs] at h
  split at h
  · rename_i d r'
    obtain ⟨v1, w1, rfl, q1, q2⟩ := rp.cons_inv
    exact ⟨v1, w1, rfl, ρ, S, Φ, d, _, r, p, q1, h, fun ρ' σ' r2 hl k2 => ⟨ρ', S, Φ, r', K, r2, p, q2, k2, fun ρ'' σ'' r3 hl2 k3 => fin ρ'' σ'' r3 (fun vs hv =>
      (hl2 vs fun i hi => hv i (by simp [tgsSlots, hi])).trans (hl vs fun i hi => hv i (by simp [tgsSlots, hi]))) k3⟩⟩
  · exact h.elim
theorem g_tup {ts : List Expr} {cs : List Tg} {kk : Nat} {pos : Pos} (hc : X.calm = true) (h : dGs X ts cs) (hl : ts.length = cs.length) (hn : (assignEach ts X.env).length = ts.length) (hst : (assignEach ts X.env).findIdx? (·.1) = none) : dG X (.Tuple ts kk pos) (.tup cs) := by
  refine (pg_tup (n := ts.length) hc h hn hst).imp fun v σ H Q h => ?_
  obtain ⟨ρ, S, Φ, d, K, r, p, rp, h, fin⟩ := h
  simp only [wTg] at h
  split at h
  · rename_i ds
    obtain ⟨a, vs, rfl, ha, hr⟩ := repTup rp
    exact ⟨a, vs, rfl, SqT.of ha, by rw [← hr.length, h.1, hl], ρ, S, Φ, ds, K, r, p, hr, h.2, fun ρ' σ' r' w k => fin ρ' σ' r' (by simpa only [tgSlots] using w) k⟩
  · exact h.elim
def tgOk : Expr → Bool
  | .Name _ _ => true
  | .Tuple _ _ _ => true
  | _ => false
theorem assignEach_cons {t : Expr} {ts : List Expr} {env : Env} (h : tgOk t = true) : (assignEach (t :: ts) env).map (·.2) = assign t env :: (assignEach ts env).map (·.2) := by
  cases t <;> first | rfl | cases h
theorem assignEach_len {env : Env} : ∀ {ts : List Expr}, ts.all tgOk = true → (assignEach ts env).length = ts.length ∧ (assignEach ts env).findIdx? (·.1) = none
  | [], _ => ⟨rfl, rfl⟩
  | t :: ts, h => by
    rw [List.all_cons, Bool.and_eq_true] at h
    obtain ⟨h1, h2⟩ := assignEach_len (env := env) h.2
    have : assignEach (t :: ts) env = (false, assign t env) :: assignEach ts env := by
      have h1 := h.1
      cases t <;> first | rfl | cases h1
    rw [this]
    refine ⟨by simp [h1], ?_⟩
    rw [List.findIdx?_cons, h2]
    rfl
end
end DL

/-! DL11: what is walked; for; comprehensions. -/
namespace DL
open PySem PySem.Spec PyProof.Rows L2

/-- an iterator gives just these items, while what has to stay stays -/
def ItOk (J : It) (items : List D) (stays : Sto → Prop) (Φ : TP) : Prop := ∀ (i : Nat) (ρ : Env') (S : Sto) (σ : L2.St) (H : Hp), Rr ρ S σ H → Φ.p H → stays S →
  (∀ d, items[i]? = some d → J.go i H ∧ ∀ x H', J.yld i H x H' → Rr ρ S σ H' ∧ Φ.p H' ∧ Rep H' d x) ∧ (i = items.length → J.stop i H)
abbrev WI' := Env' → Sto → KtI → KtE → Prop
def lI (X : Cx) (τ : WI') : TI := fun σ H R => ∃ ρ S Φ K E, Rr ρ S σ H ∧ TP.p Φ H ∧ TakesD X Φ ρ σ E ∧ τ ρ S K E ∧
  ∀ items stays S' J H' Φ', Rr ρ S' σ H' → TP.p Φ' H' → (∀ H, TP.p Φ' H → TP.p Φ H) → ItOk J items stays Φ' → K items stays S' → R J H'
abbrev dI (X : Cx) (tg e : Expr) (τ : WI') : Prop := PI X tg e (lI X τ)
theorem _root_.L2.PI.imp {X : Cx} {tg e : Expr} {t t' : TI} (h : PI X tg e t) (i : ∀ σ H Q, t' σ H Q → t σ H Q) : PI X tg e t' := ⟨fun pins s σ H R I q => h.run pins s σ H R I (i _ _ _ q)⟩

/-! ### a list, a tuple, a text -/
theorem it_list {K : PySem.W.Frag} {a : Addr} {ds : List D} {Φ : TP} : ItOk (Itl K a) ds (fun S' => lstAt S' a = some ds) Φ := by
  intro i ρ S σ H r p st
  obtain ⟨vs, h1, hr⟩ := lstAt_rep (K := K) r.st st
  refine ⟨fun d e => ?_, fun e => ⟨vs, h1, by rw [← hr.length]; omega⟩⟩
  obtain ⟨v, e2, rv⟩ := hr.get e
  refine ⟨⟨vs, v, h1, e2⟩, fun x H' ⟨e3, hx⟩ => ?_⟩
  have := hx vs h1
  rw [e2] at this
  cases this
  subst e3
  exact ⟨r, p, rv⟩
theorem it_tup {K : PySem.W.Frag} {a : Addr} {ds : List D} {Φ : TP} : ItOk (Itt K a) ds (fun _ => True) (Φ.holdV (.tup ds) (.ref a)) := by
  intro i ρ S σ H r p st
  obtain ⟨b, vs, eb, hb, hr⟩ := repTup p.2
  cases eb
  have h1 : SqT K H a vs := SqT.of hb
  refine ⟨fun d e => ?_, fun e => ⟨vs, h1, by rw [← hr.length]; omega⟩⟩
  obtain ⟨v, e2, rv⟩ := hr.get e
  refine ⟨⟨vs, v, h1, e2⟩, fun x H' ⟨e3, hx⟩ => ?_⟩
  have := hx vs h1
  rw [e2] at this
  cases this
  subst e3
  exact ⟨r, p, rv⟩
theorem it_str {z : Str} {Φ : TP} : ItOk (Its z) (z.cps.toList.map fun c => D.str ⟨#[c]⟩) (fun _ => True) Φ := by
  intro i ρ S σ H r p st
  refine ⟨fun d e => ?_, fun e => ?_⟩
  · rw [List.getElem?_map] at e
    obtain ⟨c, e1, rfl⟩ := Option.map_eq_some_iff.mp e
    have hi : i < z.cps.size := by
      have := (List.getElem?_eq_some_iff.mp e1).1
      simpa using this
    refine ⟨hi, fun x H' ⟨e3, c', e4, e5⟩ => ?_⟩
    have e6 : z.cps[i]? = some c := by simpa using e1
    rw [e6] at e4
    cases e4
    subst e3 e5
    exact ⟨r, p, by simp only [Rep]⟩
  · show z.cps.size ≤ i
    rw [e]; simp
theorem it_range {lo : Int} {n : Nat} {Φ : TP} : ItOk (Itr lo n) (rangeD lo n) (fun _ => True) Φ := by
  intro i ρ S σ H r p st
  unfold rangeD
  refine ⟨fun d e => ?_, fun e => ?_⟩
  · rw [List.getElem?_map] at e
    obtain ⟨c, e1, rfl⟩ := Option.map_eq_some_iff.mp e
    have hi : i < n := by
      have := (List.getElem?_eq_some_iff.mp e1).1
      simpa using this
    rw [List.getElem?_range hi] at e1
    cases e1
    refine ⟨hi, fun x H' ⟨e3, e4⟩ => ?_⟩
    subst e3 e4
    exact ⟨r, p, by simp only [Rep]⟩
  · show n ≤ i
    rw [e]; simp
theorem enumD_get : ∀ {n : Nat} {ds : List D} {i : Nat} {d : D}, (enumD n ds)[i]? = some d → ∃ e, ds[i]? = some e ∧ d = .tup [.int ((n + i : Nat) : Int), e]
  | n, [], i, d, h => by simp [enumD] at h
  | n, x :: ds, 0, d, h => by
    simp only [enumD, List.getElem?_cons_zero, Option.some.injEq] at h
    exact ⟨x, rfl, h.symm⟩
  | n, x :: ds, i + 1, d, h => by
    simp only [enumD, List.getElem?_cons_succ] at h
    obtain ⟨e, h1, h2⟩ := enumD_get h
    exact ⟨e, by simpa using h1, by rw [h2, show n + 1 + i = n + (i + 1) by omega]⟩
theorem enumD_len : ∀ {n : Nat} {ds : List D}, (enumD n ds).length = ds.length
  | _, [] => rfl
  | n, _ :: ds => by simp [enumD, enumD_len (n := n + 1) (ds := ds)]
theorem it_enum {K : PySem.W.Frag} {a : Addr} {ds : List D} {Φ : TP} : ItOk (Ite K a) (enumD 0 ds) (fun S' => lstAt S' a = some ds) Φ := by
  intro i ρ S σ H r p st
  obtain ⟨vs, h1, hr⟩ := lstAt_rep (K := K) r.st st
  refine ⟨fun d e => ?_, fun e => ⟨vs, h1, by rw [← hr.length]; rw [enumD_len] at e; omega⟩⟩
  obtain ⟨x, e1, rfl⟩ := enumD_get e
  obtain ⟨v, e2, rv⟩ := hr.get e1
  refine ⟨⟨vs, v, h1, e2⟩, fun y H' ⟨T, x', ey, hT, e3, hx⟩ => ?_⟩
  have := hx vs h1
  rw [e2] at this
  cases this
  subst e3 ey
  have t : Tm H (upd H T (.tup [.int (i : Nat), v])) := Tm.upd_new hT
  refine ⟨r.mono t (r.st.newTup hT), Φ.mono t p, ?_⟩
  simp only [Rep]
  refine ⟨T, _, rfl, upd_same, Reps.cons ?_ (Reps.cons (rv.mono t) Reps.nil)⟩
  simp only [Rep, Nat.zero_add]
theorem zipD_get : ∀ {as bs : List D} {i : Nat} {d : D}, (zipD as bs)[i]? = some d → ∃ a b, as[i]? = some a ∧ bs[i]? = some b ∧ d = .tup [a, b]
  | [], bs, i, d, h => by simp [zipD] at h
  | a :: as, [], i, d, h => by simp [zipD] at h
  | a :: as, b :: bs, 0, d, h => by
    simp only [zipD, List.getElem?_cons_zero, Option.some.injEq] at h
    exact ⟨a, b, rfl, rfl, h.symm⟩
  | a :: as, b :: bs, i + 1, d, h => by
    simp only [zipD, List.getElem?_cons_succ] at h
    obtain ⟨x, y, h1, h2, h3⟩ := zipD_get h
    exact ⟨x, y, by simpa using h1, by simpa using h2, h3⟩
theorem zipD_len : ∀ {as bs : List D}, (zipD as bs).length = min as.length bs.length
  | [], bs => by simp [zipD]
  | a :: as, [] => by simp [zipD]
  | a :: as, b :: bs => by simp only [zipD, List.length_cons, zipD_len (as := as) (bs := bs)]; omega
theorem it_zip {K : PySem.W.Frag} {a b : Addr} {ds es : List D} {Φ : TP} : ItOk (Itz K a b) (zipD ds es) (fun S' => lstAt S' a = some ds ∧ lstAt S' b = some es) Φ := by
  intro i ρ S σ H r p st
  obtain ⟨vs, h1, hr⟩ := lstAt_rep (K := K) r.st st.1
  obtain ⟨ws, h2, hr2⟩ := lstAt_rep (K := K) r.st st.2
  refine ⟨fun d e => ?_, fun e => ⟨vs, ws, h1, h2, by rw [← hr.length, ← hr2.length]; rw [zipD_len] at e; omega⟩⟩
  obtain ⟨x, y, e1, e2, rfl⟩ := zipD_get e
  obtain ⟨v, e3, rv⟩ := hr.get e1
  obtain ⟨w', e4, rw'⟩ := hr2.get e2
  refine ⟨⟨vs, ws, v, w', h1, h2, e3, e4⟩, fun z H' ⟨T, x', y', ez, hT, e5, hx, hy⟩ => ?_⟩
  have q1 := hx vs h1
  have q2 := hy ws h2
  rw [e3] at q1
  rw [e4] at q2
  cases q1
  cases q2
  subst e5 ez
  have t : Tm H (upd H T (.tup [v, w'])) := Tm.upd_new hT
  refine ⟨r.mono t (r.st.newTup hT), Φ.mono t p, ?_⟩
  simp only [Rep]
  exact ⟨T, _, rfl, upd_same, Reps.cons (rv.mono t) (Reps.cons (rw'.mono t) Reps.nil)⟩
theorem it_rev {K : PySem.W.Frag} {a : Addr} {ds : List D} {Φ : TP} : ItOk (Itv K a ds.length) ds.reverse (fun S' => lstAt S' a = some ds) Φ := by
  intro i ρ S σ H r p st
  obtain ⟨vs, h1, hr⟩ := lstAt_rep (K := K) r.st st
  refine ⟨fun d e => ?_, fun e => ?_⟩
  · have hi : i < ds.length := by
      have := (List.getElem?_eq_some_iff.mp e).1
      simpa using this
    rw [List.getElem?_reverse hi] at e
    obtain ⟨v, e2, rv⟩ := hr.get e
    refine ⟨⟨hi, vs, v, h1, e2⟩, fun x H' ⟨e3, hx⟩ => ?_⟩
    have := hx vs h1
    rw [e2] at this
    cases this
    subst e3
    exact ⟨r, p, rv⟩
  · show ds.length ≤ i
    rw [e]; simp

section
variable {Γ : GE} {nm : List (Str × NameKind)} {N : List Str} {k : Nat} {X : Cx} {tg : Expr}
/-- iter(..) of a list, a tuple, a text -/
def iAny (K : PySem.W.Frag) (tl : TE) : TI := fun σ H R => tl σ H fun x H1 => (∃ a, x = .ref a ∧ (∃ xs, SqL K H1 a xs) ∧ R (Itl K a) H1) ∨ (∃ a, x = .ref a ∧ (∃ xs, SqT K H1 a xs) ∧ R (Itt K a) H1) ∨ ∃ z, x = .str z ∧ R (Its z) H1
theorem pi_any {l : Expr} {tl : TE} (hl : PE X l tl) : PI X tg l (iAny X.K tl) := by
  refine ⟨fun pins s σ H R I h => ?_⟩
  refine thn (hl.run pins s σ H _ I h) fun v s1 ⟨x, H1, I1, r1, q1⟩ => ?_
  rcases q1 with ⟨a, e, ⟨xs, hq⟩, q⟩ | ⟨a, e, ⟨xs, hq⟩, q⟩ | ⟨z, e, q⟩
  · subst e
    cases r1
    obtain ⟨its, rv, p, hz⟩ := I1.list hq
    refine wpAny_pyIter_list p.isList ?_
    refine ⟨s1.heap.objs.size, [s1.heap.objs.size], _, _, H1, rfl, I1.kept (t' := s1.toks) fun b o e => Heap.get?_push_of_some _ e, turn_list a _, ⟨_, Heap.get?_push_size _ rfl, rfl, rfl⟩, fun b hb => ?_, q⟩
    have e : b = s1.heap.objs.size := by simpa using hb
    subst e
    exact I1.fpOk (Nat.le_refl _) (I1.hok.fresh (Nat.le_refl _))
  · subst e
    cases r1
    obtain ⟨its, rv, p, hz⟩ := I1.tuple hq
    refine wpAny_pyIter_tuple (show s1.heap.IsTuple a its.toArray from p) ?_
    refine ⟨s1.heap.objs.size, [s1.heap.objs.size], _, _, H1, rfl, I1.kept (t' := s1.toks) fun b o e => Heap.get?_push_of_some _ e, turn_tuple a _, ⟨_, Heap.get?_push_size _ rfl, rfl, rfl⟩, fun b hb => ?_, q⟩
    have e : b = s1.heap.objs.size := by simpa using hb
    subst e
    exact I1.fpOk (Nat.le_refl _) (I1.hok.fresh (Nat.le_refl _))
  · subst e
    obtain ⟨t, rfl⟩ := r1
    cases ha : z.cps.all (· < 128)
    · exact wpAny_pyIter_wide ha (pi_one (tk := s1.toks) I1 _ (turn_str _ z t "str_iterator" (.inr rfl)) ⟨_, Heap.get?_push_size _ rfl, rfl, rfl⟩ q)
    · exact wpAny_pyIter_ascii ha (pi_one (tk := s1.toks) I1 _ (turn_str _ z t "str_ascii_iterator" (.inl rfl)) ⟨_, Heap.get?_push_size _ rfl, rfl, rfl⟩ q)
theorem i_any {e : Expr} {c : Ex} (he : dE X e (wE Γ c)) : dI X tg e (fun ρ S K E => wE Γ c ρ S (fun x S1 => wIter x S1 K) E) := by
  refine (pi_any he).imp fun σ H Q h => ?_
  obtain ⟨ρ, S, Φ, K, E, r, p, tk, h, fin⟩ := h
  refine lE.go r p tk h fun d S1 v H1 r1 p1 rp1 tk1 p1' k1 => ?_
  unfold wIter at k1
  split at k1
  · rename_i ds
    have rp := rp1
    obtain ⟨a, vs, rfl, ha, hr⟩ := repTup rp1
    exact .inr (.inl ⟨a, rfl, ⟨vs, SqT.of ha⟩, fin _ _ S1 _ H1 (Φ.holdV (.tup ds) (.ref a)) r1 ⟨p1, rp⟩ (fun _ z => z.1) it_tup k1⟩)
  · cases repStr rp1
    exact .inr (.inr ⟨_, rfl, fin _ _ S1 _ H1 Φ r1 p1 (fun _ z => z) it_str k1⟩)
  · cases repRef rp1
    split at k1
    · rename_i ds e1
      obtain ⟨vs, h1, hr⟩ := lstAt_rep (K := X.K) r1.st e1
      exact .inl ⟨_, rfl, ⟨vs, h1⟩, fin _ _ S1 _ H1 Φ r1 p1 (fun _ z => z) it_list k1⟩
    · exact k1.elim
  · exact k1.elim
theorem i_range1 (C : XOk Γ nm N k X) {a : Expr} {c : Ex} {pp pos : Pos} (hg : glB nm "range" = true) (hs : noStar a = true) (ha : dE X a (wE Γ c)) : dI X tg (.Call (.Name "range" pp) [a] [] pos) (wI Γ (.range1 c)) := by
  have hpa : dEs X [a] (wEs Γ [c]) := d_cons ha d_nil (star_cons hs)
  refine (pi_range1 (C.n.gl hg) (C.g.blt "range" (by decide +kernel)) hpa (star_cons hs)).imp fun σ H Q h => ?_
  obtain ⟨ρ, S, Φ, K, E, r, p, tk, h, fin⟩ := h
  simp only [wI] at h
  have q : wEs Γ [c] ρ S (fun ds S1 => match ds with
    | [x] => match x with
      | .int j => rgOk j ∧ K (rangeD 0 j.toNat) (fun _ => True) S1
      | _ => False
    | _ => False) E := by
    simp only [wEs]
    exact h
  refine lEs.go r p tk q fun ds S1 vs H1 r1 p1 rp1 k1 => ?_
  split at k1
  · split at k1
    · obtain ⟨v, rfl, h1⟩ := rep1 rp1
      cases repInt h1
      exact ⟨_, rfl, k1.1.1, k1.1.2, fin _ _ S1 _ H1 Φ r1 p1 (fun _ z => z) it_range k1.2⟩
    · exact k1.elim
  · exact k1.elim
theorem i_range2 (C : XOk Γ nm N k X) {a b : Expr} {c c' : Ex} {pp pos : Pos} (hg : glB nm "range" = true) (hs : noStar a = true) (hs2 : noStar b = true) (ha : dE X a (wE Γ c)) (hb : dE X b (wE Γ c')) : dI X tg (.Call (.Name "range" pp) [a, b] [] pos) (wI Γ (.range2 c c')) := by
  have hpa : dEs X [a, b] (wEs Γ [c, c']) := d_cons ha (d_cons hb d_nil (star_cons hs2)) (star_cons hs)
  have s1 : starEach [a, b] X.env = [(false, eval a X.env), (false, eval b X.env)] := by rw [star_cons hs, star_cons hs2]; rfl
  have s2 : starEach [b] X.env = [(false, eval b X.env)] := by rw [star_cons hs2]; rfl
  refine (pi_range2 (C.n.gl hg) (C.g.blt "range" (by decide +kernel)) hpa s1 s2).imp fun σ H Q h => ?_
  obtain ⟨ρ, S, Φ, K, E, r, p, tk, h, fin⟩ := h
  simp only [wI] at h
  have q : wEs Γ [c, c'] ρ S (fun ds S1 => match ds with
    | [x, y] => match x, y with
      | .int i, .int j => rgOk i ∧ rgOk j ∧ K (rangeD i (j - i).toNat) (fun _ => True) S1
      | _, _ => False
    | _ => False) E := by
    simp only [wEs]
    exact h
  refine lEs.go r p tk q fun ds S1 vs H1 r1 p1 rp1 k1 => ?_
  split at k1
  · split at k1
    · obtain ⟨v, u, rfl, h1, h2⟩ := rep2 rp1
      cases repInt h1
      cases repInt h2
      exact ⟨_, _, rfl, ⟨k1.1.1, k1.1.2, k1.2.1.1, k1.2.1.2⟩, fin _ _ S1 _ H1 Φ r1 p1 (fun _ z => z) it_range k1.2.2⟩
    · exact k1.elim
  · exact k1.elim
theorem i_enum (C : XOk Γ nm N k X) {a : Expr} {c : Ex} {pp pos tpos : Pos} {elts : List Expr} {kk : Nat} (hg : glB nm "enumerate" = true) (hs : noStar a = true) (ha : dE X a (wE Γ c)) : dI X (.Tuple elts kk tpos) (.Call (.Name "enumerate" pp) [a] [] pos) (wI Γ (.enum c)) := by
  have hpa : dEs X [a] (wEs Γ [c]) := d_cons ha d_nil (star_cons hs)
  refine (pi_enum (C.n.gl hg) (C.g.blt "enumerate" (by decide +kernel)) hpa (star_cons hs)).imp fun σ H Q h => ?_
  obtain ⟨ρ, S, Φ, K, E, r, p, tk, h, fin⟩ := h
  simp only [wI] at h
  have q : wEs Γ [c] ρ S (fun ds S1 => match ds with
    | [x] => match x with
      | .ref a => match lstAt S1 a with
        | some ds => K (enumD 0 ds) (fun S' => lstAt S' a = some ds) S1
        | none => False
      | _ => False
    | _ => False) E := by
    simp only [wEs]
    exact h
  refine lEs.go r p tk q fun ds S1 vs H1 r1 p1 rp1 k1 => ?_
  split at k1
  · split at k1
    · obtain ⟨v, rfl, h1⟩ := rep1 rp1
      cases repRef h1
      split at k1
      · rename_i ds e1
        obtain ⟨vs, h2, hr⟩ := lstAt_rep (K := X.K) r1.st e1
        exact ⟨_, vs, rfl, h2, fin _ _ S1 _ H1 Φ r1 p1 (fun _ z => z) it_enum k1⟩
      · exact k1.elim
    · exact k1.elim
  · exact k1.elim
theorem i_revd (C : XOk Γ nm N k X) {a : Expr} {c : Ex} {pp pos : Pos} (hg : glB nm "reversed" = true) (hs : noStar a = true) (ha : dE X a (wE Γ c)) : dI X tg (.Call (.Name "reversed" pp) [a] [] pos) (wI Γ (.revd c)) := by
  have hpa : dEs X [a] (wEs Γ [c]) := d_cons ha d_nil (star_cons hs)
  refine (pi_reversed (C.n.gl hg) (C.g.blt "reversed" (by decide +kernel)) hpa (star_cons hs)).imp fun σ H Q h => ?_
  obtain ⟨ρ, S, Φ, K, E, r, p, tk, h, fin⟩ := h
  simp only [wI] at h
  have q : wEs Γ [c] ρ S (fun ds S1 => match ds with
    | [x] => match x with
      | .ref a => match lstAt S1 a with
        | some ds => K ds.reverse (fun S' => lstAt S' a = some ds) S1
        | none => False
      | _ => False
    | _ => False) E := by
    simp only [wEs]
    exact h
  refine lEs.go r p tk q fun ds S1 vs H1 r1 p1 rp1 k1 => ?_
  split at k1
  · split at k1
    · obtain ⟨v, rfl, h1⟩ := rep1 rp1
      cases repRef h1
      split at k1
      · rename_i ds e1
        obtain ⟨vs, h2, hr⟩ := lstAt_rep (K := X.K) r1.st e1
        refine ⟨_, vs, rfl, h2, ?_⟩
        rw [← hr.length]
        exact fin _ _ S1 _ H1 Φ r1 p1 (fun _ z => z) it_rev k1
      · exact k1.elim
    · exact k1.elim
  · exact k1.elim
theorem i_zip (C : XOk Γ nm N k X) {a b : Expr} {c c' : Ex} {pp pos tpos : Pos} {elts : List Expr} {kk : Nat} (hg : glB nm "zip" = true) (hs : noStar a = true) (hs2 : noStar b = true) (ha : dE X a (wE Γ c)) (hb : dE X b (wE Γ c')) : dI X (.Tuple elts kk tpos) (.Call (.Name "zip" pp) [a, b] [] pos) (wI Γ (.zip c c')) := by
  have hpa : dEs X [a, b] (wEs Γ [c, c']) := d_cons ha (d_cons hb d_nil (star_cons hs2)) (star_cons hs)
  refine (pi_zip (C.n.gl hg) (C.g.blt "zip" (by decide +kernel)) hpa (star_cons hs) (star_plain (by simp [hs2]))).imp fun σ H Q h => ?_
  obtain ⟨ρ, S, Φ, K, E, r, p, tk, h, fin⟩ := h
  simp only [wI] at h
  have q : wEs Γ [c, c'] ρ S (fun ds S1 => match ds with
    | [x, y] => match x, y with
      | .ref a, .ref b => match lstAt S1 a, lstAt S1 b with
        | some ds, some es => K (zipD ds es) (fun S' => lstAt S' a = some ds ∧ lstAt S' b = some es) S1
        | _, _ => False
      | _, _ => False
    | _ => False) E := by
    simp only [wEs]
    exact h
  refine lEs.go r p tk q fun ds S1 vs H1 r1 p1 rp1 k1 => ?_
  split at k1
  · split at k1
    · obtain ⟨v, u, rfl, h1, h2⟩ := rep2 rp1
      cases repRef h1
      cases repRef h2
      split at k1
      · rename_i ds es e1 e2
        obtain ⟨vs, h3, hr⟩ := lstAt_rep (K := X.K) r1.st e1
        obtain ⟨ws, h4, hr2⟩ := lstAt_rep (K := X.K) r1.st e2
        exact ⟨_, _, vs, ws, rfl, h3, h4, fin _ _ S1 _ H1 Φ r1 p1 (fun _ z => z) it_zip k1⟩
      · exact k1.elim
    · exact k1.elim
  · exact k1.elim
end
end DL

/-! DL12: comprehensions. -/
namespace DL
open PySem PySem.Spec PyProof.Rows L2
theorem wipeD_len (ρ : Env') : ∀ vs : List Nat, (wipeD ρ vs).length = ρ.length
  | [] => rfl
  | v :: vs => by unfold wipeD; rw [List.length_set, wipeD_len ρ vs]
theorem wipeD_some {ρ : Env'} {i : Nat} {x : D} : ∀ {vs : List Nat}, (wipeD ρ vs)[i]? = some (some x) → ρ[i]? = some (some x) ∧ i ∉ vs
  | [], h => ⟨h, by simp⟩
  | v :: vs, h => by
    unfold wipeD at h
    by_cases hi : v = i
    · subst hi
      by_cases hv : v < (wipeD ρ vs).length
      · rw [List.getElem?_set_self hv] at h; cases h
      · rw [List.getElem?_eq_none (by simpa using hv)] at h; cases h
    · rw [List.getElem?_set_ne hi] at h
      obtain ⟨h1, h2⟩ := wipeD_some h
      exact ⟨h1, by simp only [List.mem_cons, not_or]; exact ⟨fun e => hi e.symm, h2⟩⟩
theorem wipe_get {σ : L2.St} {i : Nat} : ∀ {vs : List Nat}, i ∉ vs → (wipe σ vs)[i]? = σ[i]?
  | [], _ => rfl
  | v :: vs, h => by
    rw [List.mem_cons, not_or] at h
    unfold wipe
    rw [List.getElem?_set_ne (Ne.symm h.1), wipe_get h.2]
theorem Rr.wipe {ρ : Env'} {S : Sto} {σ : L2.St} {H : Hp} (r : Rr ρ S σ H) (vs : List Nat) : Rr (wipeD ρ vs) S (L2.wipe σ vs) H := by
  refine ⟨by rw [wipeD_len, wipe_length]; exact r.len, fun i d e => ?_, r.st⟩
  obtain ⟨h1, h2⟩ := wipeD_some e
  obtain ⟨v, h3, h4⟩ := r.at_ i d h1
  exact ⟨v, by rw [wipe_get h2]; exact h3, h4⟩
/-- the slots, as tuples bear them -/
def TP.env (ρ : Env') (σ : L2.St) : TP := ⟨fun H => ∀ (i : Nat) (d : D), ρ[i]? = some (some d) → ∃ v, σ[i]? = some (some v) ∧ Rep H d v, fun t h i d e => let ⟨v, h1, h2⟩ := h i d e; ⟨v, h1, h2.mono t⟩⟩

theorem lookup_relS_fwd {sc : Scope} : ∀ {names : List (Str × NameKind)} {x : Str} {k : NameKind}, names.lookup x = some k →
    ∃ k', (names.map fun (n, k) => if (k == NameKind.free && sc.kind == .function && sc.names.lookup n == some .cell) then (n, NameKind.cell) else (n, k)).lookup x = some k' ∧ (k' = k ∨ (k = .free ∧ k' = .cell))
  | [], _, _, h => by simp at h
  | (n, k₀) :: r, x, k, h => by
    have ih := @lookup_relS_fwd sc r x k
    rw [List.lookup_cons] at h
    show ∃ k', List.lookup x ((if (k₀ == NameKind.free && sc.kind == .function && sc.names.lookup n == some .cell) = true then (n, NameKind.cell) else (n, k₀)) :: (r.map _)) = some k' ∧ _
    cases hx : x == n with
    | true =>
      rw [hx] at h
      cases h
      by_cases hc : (k₀ == NameKind.free && sc.kind == .function && sc.names.lookup n == some .cell) = true
      · rw [if_pos hc]
        refine ⟨.cell, by simp only [List.lookup_cons, hx], .inr ⟨?_, rfl⟩⟩
        simp only [Bool.and_eq_true, beq_iff_eq] at hc
        exact hc.1.1
      · rw [if_neg hc]
        exact ⟨k₀, by simp only [List.lookup_cons, hx], .inl rfl⟩
    | false =>
      rw [hx] at h
      obtain ⟨k', h1, h2⟩ := ih h
      refine ⟨k', ?_, h2⟩
      by_cases hc : (k₀ == NameKind.free && sc.kind == .function && sc.names.lookup n == some .cell) = true
      · rw [if_pos hc]; simp only [List.lookup_cons, hx]; exact h1
      · rw [if_neg hc]; simp only [List.lookup_cons, hx]; exact h1
section
variable {Γ : GE} {nm : List (Str × NameKind)} {N : List Str} {k : Nat} {X : Cx}
theorem XOk.blk (C : XOk Γ nm N k X) {s : Shared} {H : Hp} {scope : Scope} {Ca : Addr} {cl : List (Str × Addr)} {fp : List Addr} : XOk Γ scope.names N k (X.blk s H scope (compEnvC scope cl Ca X.env) fp) := by
  refine ⟨⟨C.g, ⟨C.n.n, C.n.nd, fun x kk e => ?_, fun x e => ?_⟩, C.rh, fun a x e => by rw [C.noe] at e; cases e⟩, C.hr, C.calm, C.noe, PassesOwn.never⟩
  · exact lookup_relS_fwd (sc := X.env.scope) e
  · show (scope.names.lookup x == some .cell) = true
    rw [e]; rfl
/-- the tests of a comprehension -/
abbrev dTs (X : Cx) (Γ : GE) (ifs : List Expr) (cs : List Ex) : Prop := PTs X ifs (lT X fun ρ S K _ => wIfs Γ cs ρ S K)
theorem ts_nil : dTs X Γ [] [] := by
  refine ⟨fun pins s σ H Q I h => pts_nil.run pins s σ H Q I ?_⟩
  obtain ⟨ρ, S, Φ, K, E, r, p, tk, h, fin⟩ := h
  simp only [wIfs] at h
  exact fin true S H r p h
theorem ts_one {c : Expr} {cc : Ex} (hc : dT X c (wT Γ cc)) : dTs X Γ [c] [cc] := by
  refine ⟨fun pins s σ H Q I h => (pts_one hc).run pins s σ H Q I ?_⟩
  obtain ⟨ρ, S, Φ, K, E, r, p, tk, h, fin⟩ := h
  simp only [wIfs] at h
  exact ⟨ρ, S, Φ, K, fun _ _ => False, r, p, takesF, h, fin⟩
/-- readings that let nothing out -/
def lE0 (τ : WE') : TE := fun σ H Q => ∃ ρ S Φ K, Rr ρ S σ H ∧ TP.p Φ H ∧ τ ρ S K (fun _ _ => False) ∧ ∀ d S' v H', Rr ρ S' σ H' → TP.p Φ H' → Rep H' d v → K d S' → Q v H'
def lT0 (τ : WT') : TT := fun σ H Q => ∃ ρ S Φ K, Rr ρ S σ H ∧ TP.p Φ H ∧ τ ρ S K (fun _ _ => False) ∧ ∀ t S' H', Rr ρ S' σ H' → TP.p Φ H' → K t S' → Q t H'
theorem lE0.of {τ : WE'} {e : Expr} (h : dE X e τ) : PE X e (lE0 τ) := h.imp fun σ H Q ⟨ρ, S, Φ, K, r, p, w, fin⟩ => ⟨ρ, S, Φ, K, _, r, p, takesF, w, fin⟩
theorem lT0.of {τ : WT'} {es : List Expr} (h : PTs X es (lT X τ)) : PTs X es (lT0 τ) := ⟨fun pins s σ H Q I ⟨ρ, S, Φ, K, r, p, w, fin⟩ => h.run pins s σ H Q I ⟨ρ, S, Φ, K, _, r, p, takesF, w, fin⟩⟩
/-- the loop of a comprehension -/
theorem comp_loop {Γ : GE} {elt : Ex} {own : List Nat} {t : Tg} {ifs : List Ex} {g : TG} {tt : TT} {te : TE} {J : It} {items : List D} {stays : Sto → Prop} {ρ : Env'} {S : Sto} {σ : L2.St} {H1 : Hp} {Φ Φ' : TP} {K : Kt} {Q : VK} {p : Addr}
    (hg : g = fun v σ H Q => ∃ ρ S Φ d K, Rr ρ S σ H ∧ TP.p Φ H ∧ Rep H d v ∧ wTg t d ρ K ∧ ∀ ρ' σ', Rr ρ' S σ' H → Wiped (tgSlots t) σ σ' → K ρ' → Q σ' H)
    (ht : tt = lT0 fun ρ S K _ => wIfs Γ ifs ρ S K) (he : te = lE0 (wE Γ elt)) (hsl : ∀ i ∈ tgSlots t, i ∈ own)
    (r : Rr ρ S σ H1) (pΦ : TP.p Φ' H1) (hΦ : ∀ H, TP.p Φ' H → TP.p Φ H) (it : ItOk J items stays Φ') (hp : H1 p = none)
    (h : wComp stays p (fun d S2 R => wTg t d (wipeD ρ own) fun ρ' => wIfs Γ ifs ρ' S2 (fun b S3 => if b = true then wE Γ elt ρ' S3 (fun y S4 => R (some y) S4) (fun _ _ => False) else R none S3)) (fun S2 => K (.ref p) S2) items [] (put S p (.lst [])))
    (fin : ∀ d S' v H', Rr ρ S' σ H' → TP.p Φ H' → Rep H' d v → K d S' → Q v H') :
    ∃ W : Nat → Nat → Hp → Prop, (∃ m, W 0 m (upd H1 p (.lst []))) ∧ ∀ i m H, W i m H →
      (J.stop i H ∧ Q (.ref p) H) ∨ (J.go i H ∧ ∃ Nx : Hp → Prop, (∀ H', Nx H' → ∃ m', m' < m ∧ W (i + 1) m' H') ∧ ∀ x H', J.yld i H x H' → g x (wipe σ own) H' fun σ2 H2 => wipe σ2 own = wipe σ own ∧ tt σ2 H2 fun b H3 =>
        if b = true then te σ2 H3 fun y H4 => ∃ acc, H4 p = some (.lst acc) ∧ acc.length < sizeLine ∧ Nx (upd H4 p (.lst (acc ++ [y]))) else Nx H3) := by
  subst hg ht he
  refine ⟨fun i m H => m = items.length - i ∧ i ≤ items.length ∧ ∃ acc S', Rr ρ S' σ H ∧ TP.p Φ' H ∧ wComp stays p (fun d S2 R => wTg t d (wipeD ρ own) fun ρ' => wIfs Γ ifs ρ' S2 (fun b S3 => if b = true then wE Γ elt ρ' S3 (fun y S4 => R (some y) S4) (fun _ _ => False) else R none S3)) (fun S2 => K (.ref p) S2) (items.drop i) acc S', ?_, ?_⟩
  · obtain ⟨r2, t2⟩ := new_lst r Reps.nil hp
    exact ⟨_, rfl, Nat.zero_le _, [], _, r2, Φ'.mono t2 pΦ, by simpa using h⟩
  · rintro i m H ⟨rfl, hi, acc, S', r', p', w⟩
    by_cases hlt : i < items.length
    · have ed : items.drop i = items[i] :: items.drop (i + 1) := List.drop_eq_getElem_cons hlt
      rw [ed] at w
      obtain ⟨st, w⟩ := w
      obtain ⟨go, yl⟩ := (it i ρ S' σ H r' p' st).1 items[i] (List.getElem?_eq_getElem hlt)
      refine .inr ⟨go, fun H' => ∃ acc S', Rr ρ S' σ H' ∧ TP.p Φ' H' ∧ wComp stays p (fun d S2 R => wTg t d (wipeD ρ own) fun ρ' => wIfs Γ ifs ρ' S2 (fun b S3 => if b = true then wE Γ elt ρ' S3 (fun y S4 => R (some y) S4) (fun _ _ => False) else R none S3)) (fun S2 => K (.ref p) S2) (items.drop (i + 1)) acc S', fun H' n => ⟨_, by omega, rfl, hlt, n⟩, fun x H' y => ?_⟩
      obtain ⟨r2, p2, rx⟩ := yl x H' y
      refine ⟨wipeD ρ own, S', (Φ'.and (TP.env ρ σ)), items[i], _, r2.wipe own, ⟨p2, fun j d e => r2.at_ j d e⟩, rx, w, fun ρ3 σ3 r3 wp k3 => ⟨wp own hsl |>.trans ?_, ?_⟩⟩
      · -- wiping twice
        have : ∀ (vs : List Nat) (τ : L2.St), wipe (wipe τ vs) vs = wipe τ vs := by
          intro vs τ
          apply List.ext_getElem?
          intro j
          by_cases hj : j ∈ vs
          · have nn : ∀ (us : List Nat) (τ : L2.St), j ∈ us → (wipe τ us)[j]? = (τ[j]?).map fun _ => none := by
              intro us
              induction us with
              | nil => intro τ h; simp at h
              | cons u us ih =>
                intro τ hm
                unfold wipe
                by_cases e : u = j
                · subst e
                  by_cases hl : u < (wipe τ us).length
                  · rw [List.getElem?_set_self hl]
                    rw [wipe_length] at hl
                    rw [List.getElem?_eq_getElem hl]; rfl
                  · rw [List.getElem?_eq_none (by simpa using hl)]
                    rw [wipe_length] at hl
                    rw [List.getElem?_eq_none (by omega)]; rfl
                · rw [List.getElem?_set_ne e]
                  exact ih τ (by rcases List.mem_cons.mp hm with q | q; exact absurd q.symm e; exact q)
            rw [nn vs _ hj, nn vs τ hj]
            cases τ[j]? <;> rfl
          · rw [wipe_get hj]
        exact this own σ
      · refine ⟨ρ3, S', (Φ'.and (TP.env ρ σ)), _, r3, ⟨p2, fun j d e => r2.at_ j d e⟩, k3, fun b S4 H4 r4 p4 k4 => ?_⟩
        cases b with
        | false =>
          rw [if_neg Bool.false_ne_true] at k4 ⊢
          exact ⟨acc, S4, ⟨r'.len, p4.2, r4.st⟩, p4.1, k4.2⟩
        | true =>
          rw [if_pos rfl] at k4 ⊢
          refine ⟨ρ3, S4, (Φ'.and (TP.env ρ σ)), _, r4, p4, k4, fun d S5 v H5 r5 p5 rv k5 => ?_⟩
          obtain ⟨e5, hz, k5⟩ := k5
          obtain ⟨vs, h5, hr5⟩ := r5.st _ _ e5
          have tt : Tm H5 (upd H5 p (.lst (vs ++ [v]))) := Tm.upd_mut h5 fun _ z => nomatch z
          have hr6 : Reps H5 (acc ++ [d]) (vs ++ [v]) := hr5.append (Reps.cons rv Reps.nil)
          have s6 : SRep (put S5 p (.lst (acc ++ [d]))) (upd H5 p (.lst (vs ++ [v]))) := r5.st.write h5 (fun _ z => nomatch z) (show MRep _ p (.lst (acc ++ [d])) from ⟨_, upd_same, hr6.mono tt⟩)
          refine ⟨vs, h5, by rw [← hr5.length]; exact hz, acc ++ [d], put S5 p (.lst (acc ++ [d])), ⟨r'.len, (TP.env ρ σ).mono tt p5.2, s6⟩, Φ'.mono tt p5.1, k5⟩
    · have e : i = items.length := by omega
      subst e
      rw [List.drop_length] at w
      obtain ⟨st, w⟩ := w
      exact .inl ⟨(it _ ρ S' σ H r' p' st).2 rfl, fin _ S' _ H r' (hΦ H p') (by simp only [Rep]) w⟩
end
section
variable {Γ : GE} {nm : List (Str × NameKind)} {N : List Str} {k : Nat} {X : Cx}
theorem comp_read {elt : Ex} {own : List Nat} {t : Tg} {it : Ex} {ifs : List Ex} (hsl : ∀ i ∈ tgSlots t, i ∈ own) {σ : L2.St} {H : Hp} {Q : VK} (h : lE X (wE Γ (.comp elt own t it ifs)) σ H Q) :
    tLc (lI X (wI Γ it)) (fun v σ H Q => ∃ ρ S Φ d K, Rr ρ S σ H ∧ TP.p Φ H ∧ Rep H d v ∧ wTg t d ρ K ∧ ∀ ρ' σ', Rr ρ' S σ' H → Wiped (tgSlots t) σ σ' → K ρ' → Q σ' H) (lT0 fun ρ S K _ => wIfs Γ ifs ρ S K) (lE0 (wE Γ elt)) own σ H Q := by
  obtain ⟨ρ, S, Φ, K, E, r, p, tk, h, fin⟩ := h
  simp only [wE] at h
  refine ⟨ρ, S, Φ, _, E, r, p, tk, h, fun items stays S' J H' Φ' r' p' hΦ it' h' D hD => ?_⟩
  exact comp_loop (elt := elt) (own := own) (t := t) (ifs := ifs) (items := items) (stays := stays) (S := S') (Φ := Φ) (Φ' := Φ') (K := K) rfl rfl rfl hsl r' p' hΦ it' hD (h' D (r'.st.free hD)) fin
theorem d_comp (C : XOk Γ nm N k X) {elt tg iter : Expr} {ifs : List Expr} {scope : Scope} {own : List (Str × Nat)} {pos : Pos} {ce ci : Ex} {ct : Tg} {cs : List Ex} (ok : BlkOk X.N X.env.scope scope own)
    (hi : dI X tg iter (wI Γ ci)) (hg : ∀ Y, XOk Γ scope.names N k Y → dG Y tg ct) (ht : ∀ Y, XOk Γ scope.names N k Y → dTs Y Γ ifs cs) (he : ∀ Y, XOk Γ scope.names N k Y → dE Y elt (wE Γ ce)) (hs : ∀ x, foldedSetIterable iter X.env x = pure x)
    (hsl : ∀ i ∈ tgSlots ct, i ∈ own.map (·.2)) : dE X (.ListComp elt [⟨tg, iter, ifs, 0⟩] scope pos) (wE Γ (.comp ce (own.map (·.2)) ct ci cs)) :=
  (pe_lc C.calm (by rw [C.n.n]; exact C.n.nd) hi ok (fun s H D cl fp => hg _ C.blk) (fun s H D cl fp => lT0.of (ht _ C.blk)) (fun s H D cl fp => lE0.of (he _ C.blk)) hs).imp fun σ H Q h => comp_read hsl h
end
end DL

/-! DL13: statements. -/
namespace DL
open PySem PySem.Spec PyProof.Rows L2

structure EndsOk (Φ : TP) (N : DE) (Dd : Ends) : Prop where
  nx : ∀ ρ S σ H, Rr ρ S σ H → TP.p Φ H → N.nx ρ S → Dd.nx σ H
  rt : ∀ d S v H, SRep S H → TP.p Φ H → Rep H d v → N.rt d S → Dd.rt v H
  bk : ∀ ρ S σ H, Rr ρ S σ H → TP.p Φ H → N.bk ρ S → Dd.bk σ H
  ct : ∀ ρ S σ H, Rr ρ S σ H → TP.p Φ H → N.ct ρ S → Dd.ct σ H
theorem EndsOk.less {Φ Φ' : TP} {N : DE} {Dd : Ends} (e : EndsOk Φ N Dd) (h : ∀ H, TP.p Φ' H → TP.p Φ H) : EndsOk Φ' N Dd :=
  ⟨fun ρ S σ H r p => e.nx ρ S σ H r (h H p), fun d S v H s p => e.rt d S v H s (h H p), fun ρ S σ H r p => e.bk ρ S σ H r (h H p), fun ρ S σ H r p => e.ct ρ S σ H r (h H p)⟩
abbrev WS' := DE → ES → Env' → Sto → Prop
def lS (X : Cx) (τ : WS') : TS := fun Dd σ H => ∃ ρ S Φ N E, Rr ρ S σ H ∧ TP.p Φ H ∧ TakesS X Φ E ∧ τ N E ρ S ∧ EndsOk Φ N Dd
abbrev dS (X : Cx) (st : Stmt) (τ : WS') : Prop := PS X st (lS X τ)
abbrev dSs (X : Cx) (st : List Stmt) (τ : WS') : Prop := PSs X st (lS X τ)
section
variable {Γ : GE} {nm : List (Str × NameKind)} {N : List Str} {k : Nat} {X : Cx}
theorem s_nil : dSs X [] (wSs Γ []) := by
  refine pss_nil.imp fun Dd σ H ⟨ρ, S, Φ, N, E, r, p, tk, h, en⟩ => ?_
  simp only [wSs] at h
  exact en.nx ρ S σ H r p h
theorem s_cons {st : Stmt} {sts : List Stmt} {c : Sm} {cs : List Sm} (h1 : dS X st (wS Γ c)) (h2 : dSs X sts (wSs Γ cs)) : dSs X (st :: sts) (wSs Γ (c :: cs)) := by
  refine (pss_cons h1 h2).imp fun Dd σ H ⟨ρ, S, Φ, N, E, r, p, tk, h, en⟩ => ?_
  simp only [wSs] at h
  exact ⟨ρ, S, Φ, _, E, r, p, tk, h, ⟨fun ρ S σ H r p w => ⟨ρ, S, Φ, N, E, r, p, tk, w, en⟩, en.rt, en.bk, en.ct⟩⟩
/-- no comprehension -/
def notComp : Expr → Bool
  | .ListComp .. => false
  | .SetComp .. => false
  | .DictComp .. => false
  | _ => true
theorem swaps_false {e : Expr} {t : Option Expr} {l : Nat} {env : Env} (h : notComp e = true) : swapsWith e t l env = pure false := by
  cases e <;> first | rfl | cases h
theorem s_expr {e : Expr} {c : Ex} {pos : Pos} (he : dE X e (wE Γ c)) (hn : notComp e = true) : dS X (.Expr e pos) (wS Γ (.expr c)) := by
  refine (ps_expr he (swaps_false hn)).imp fun Dd σ H ⟨ρ, S, Φ, N, E, r, p, tk, h, en⟩ => ?_
  simp only [wS] at h
  exact ⟨ρ, S, Φ, _, _, r, p, tk.toD ρ σ, h, fun d S1 v H1 r1 p1 _ k1 => en.nx ρ S1 σ H1 r1 p1 k1⟩
/-- the value is no tuple display, or the target is none -/
def noSwap : Expr → Expr → Bool
  | .Name .., _ => true
  | .Subscript .., _ => true
  | .Attribute .., _ => true
  | _, .Tuple .. => false
  | _, _ => true
theorem noSwap_ok {t e : Expr} {env : Env} (h : noSwap t e = true) : swappedStores [t] e env = pure none := by
  cases t <;> cases e <;> first | rfl | cases h
theorem read_asg {c : Ex} {t : Tg} {Dd : Ends} {σ : L2.St} {H : Hp} (h : lS X (wS Γ (.asg t c)) Dd σ H) :
    tAsg (lE X (wE Γ c)) (fun v σ H Q => ∃ ρ S Φ d K, Rr ρ S σ H ∧ TP.p Φ H ∧ Rep H d v ∧ wTg t d ρ K ∧ ∀ ρ' σ', Rr ρ' S σ' H → Wiped (tgSlots t) σ σ' → K ρ' → Q σ' H) Dd σ H := by
  obtain ⟨ρ, S, Φ, N, E, r, p, tk, h, en⟩ := h
  simp only [wS] at h
  exact ⟨ρ, S, Φ, _, _, r, p, tk.toD ρ σ, h, fun d S1 v H1 r1 p1 rv k1 => ⟨ρ, S1, Φ, d, _, r1, p1, rv, k1, fun ρ' σ' r' _ k' => en.nx ρ' S1 σ' H1 r' p1 k'⟩⟩
theorem s_asg {tg e : Expr} {c : Ex} {t : Tg} {pos : Pos} (he : dE X e (wE Γ c)) (hg : dG X tg t) (ht : tgOk tg = true) (hn : notComp e = true) (hs : noSwap tg e = true) : dS X (.Assign [tg] e pos) (wS Γ (.asg t c)) :=
  (ps_asg he hg (swaps_false hn) (noSwap_ok hs) (by rw [assignEach_cons ht]; rfl)).imp fun Dd σ H h => read_asg h
theorem s_asgW {tg e : Expr} {c : Ex} {t : Tg} {pos : Pos} (he : dE X e (wE Γ c)) (hg : dG X tg t) (ht : tgOk tg = true) (hn : swapsWithSole [tg] e pos.line X.env = pure false) (hs : noSwap tg e = true) : dS X (.Assign [tg] e pos) (wS Γ (.asg t c)) :=
  (ps_asg he hg hn (noSwap_ok hs) (by rw [assignEach_cons ht]; rfl)).imp fun Dd σ H h => read_asg h
theorem s_ret {e : Expr} {c : Ex} {pos : Pos} (he : dE X e (wE Γ c)) : dS X (.Return (some e) pos) (wS Γ (.ret c)) := by
  refine (ps_ret he).imp fun Dd σ H ⟨ρ, S, Φ, N, E, r, p, tk, h, en⟩ => ?_
  simp only [wS] at h
  exact ⟨ρ, S, Φ, _, _, r, p, tk.toD ρ σ, h, fun d S1 v H1 r1 p1 rv k1 => en.rt d S1 v H1 r1.st p1 rv k1⟩
theorem s_retN {pos : Pos} : dS X (.Return none pos) (wS Γ .retN) := by
  refine ps_retN.imp fun Dd σ H ⟨ρ, S, Φ, N, E, r, p, tk, h, en⟩ => ?_
  simp only [wS] at h
  exact en.rt .non S .non H r.st p (by simp only [Rep]) h
theorem s_pass {pos : Pos} : dS X (.Pass pos) (wS Γ .pass) := by
  refine ps_pass.imp fun Dd σ H ⟨ρ, S, Φ, N, E, r, p, tk, h, en⟩ => ?_
  simp only [wS] at h
  exact en.nx ρ S σ H r p h
theorem s_brk {pos : Pos} : dS X (.Break pos) (wS Γ .brk) := by
  refine ps_break.imp fun Dd σ H ⟨ρ, S, Φ, N, E, r, p, tk, h, en⟩ => ?_
  simp only [wS] at h
  exact en.bk ρ S σ H r p h
theorem s_cont {pos : Pos} : dS X (.Continue pos) (wS Γ .cont) := by
  refine ps_continue.imp fun Dd σ H ⟨ρ, S, Φ, N, E, r, p, tk, h, en⟩ => ?_
  simp only [wS] at h
  exact en.ct ρ S σ H r p h
theorem s_if {c : Expr} {a b : List Stmt} {cc : Ex} {ca cb : List Sm} {pos : Pos} (hc : dT X c (wT Γ cc)) (ha : dSs X a (wSs Γ ca)) (hb : dSs X b (wSs Γ cb)) : dS X (.If c a b pos) (wS Γ (.ifs cc ca cb)) := by
  refine (ps_if hc ha hb).imp fun Dd σ H ⟨ρ, S, Φ, N, E, r, p, tk, h, en⟩ => ?_
  simp only [wS] at h
  refine ⟨ρ, S, Φ, _, _, r, p, tk.toD ρ σ, h, fun t S1 H1 r1 p1 k1 => ?_⟩
  cases t with
  | true => exact ⟨ρ, S1, Φ, N, E, r1, p1, tk, by simpa using k1, en⟩
  | false => exact ⟨ρ, S1, Φ, N, E, r1, p1, tk, by simpa using k1, en⟩
theorem s_setFld (C : XOw Γ nm N k X) {o e : Expr} {co c : Ex} {f : Str} {p2 pos : Pos} (ho : dE X o (wE Γ co)) (he : dE X e (wE Γ c)) (hs : swapsWith e (some (.Attribute o f p2)) pos.line X.env = pure false) : dS X (.Assign [.Attribute o f p2] e pos) (wS Γ (.setFld co f c)) := by
  refine (ps_fld ho he hs).imp fun Dd σ H ⟨ρ, S, Φ, N, E, r, p, tk, h, en⟩ => ?_
  simp only [wS] at h
  refine lE.go r p (tk.toD ρ σ) h fun d S1 v H1 r1 p1 rp1 tk1 p1' k1 => lE.go (Φ := Φ.holdV d v) r1 p1' tk1 k1 fun x S2 u H2 r2 p2 rp2 tk2 p2' k2 => ?_
  split at k2
  · rename_i a
    cases repRef rp2
    split at k2
    · rename_i C' fs e2
      obtain ⟨ha, hl, k2⟩ := k2
      obtain ⟨hC, hA⟩ := C.g.att _ _ ha
      obtain ⟨dx, gs, h2, hf⟩ := r2.st _ _ e2
      have tt : Tm H2 (upd H2 a (.ins C' dx (putF f v gs))) := Tm.upd_mut h2 fun _ z => nomatch z
      refine ⟨a, C', dx, gs, rfl, h2, hC, hA, by rw [← hf.length]; exact hl, en.nx ρ _ σ _ ⟨r2.len, fun i d e => ?_, r2.st.write h2 (fun _ z => nomatch z) (show MRep _ a (.ins C' (putD f d fs)) from ⟨dx, _, upd_same, (hf.put p2.2).mono tt⟩)⟩ (Φ.mono tt p2.1) k2⟩
      obtain ⟨v', e1, e2'⟩ := r2.at_ i d e
      exact ⟨v', e1, e2'.mono tt⟩
    · exact k2.elim
  · exact k2.elim
theorem swaps_attr {e t : Expr} {l : Nat} {env : Env} (h : (match t with | .Name .. => false | _ => true) = true) : swapsWith e (some t) l env = pure false := by
  cases t <;> first | (cases h; done) | (cases e <;> rfl)
theorem PSet.or {X : Cx} {t u : TSet} (h : PSet X t) (h' : PSet X u) : PSet X (fun o i v H Q => t o i v H Q ∨ u o i v H Q) := by
  intro pins s σ H o i v ov iv uu Q I ro ri rv q
  rcases q with q | q
  · exact h pins s σ H o i v ov iv uu Q I ro ri rv q
  · exact h' pins s σ H o i v ov iv uu Q I ro ri rv q
theorem put_pair {κ : Type} [DecidableEq κ] {H : Hp} {kk : κ → D} (inj : ∀ a b, kk a = kk b → a = b) {k : κ} {d : D} {v : V} (hv : Rep H d v) {kvs : List (D × D)} {kts : List (κ × V)} (h : Paired (fun p q => p.1 = kk q.1 ∧ Rep H p.2 q.2) kvs kts) :
    Paired (fun p q => p.1 = kk q.1 ∧ Rep H p.2 q.2) (dput kvs (kk k) d) (putK kts k v) := by
  have key : (kvs.any fun p => decide (p.1 = kk k)) = (kts.any fun p => decide (p.1 = k)) ∧
      Paired (fun p q => p.1 = kk q.1 ∧ Rep H p.2 q.2) (kvs.map fun p => if p.1 = kk k then (p.1, d) else p) (kts.map fun p => if p.1 = k then (p.1, v) else p) := by
    induction h with
    | nil => exact ⟨rfl, .nil⟩
    | cons r t ih =>
      rename_i p q _ _
      obtain ⟨e1, e2⟩ := r
      by_cases hk : q.1 = k
      · have hd : p.1 = kk k := by rw [e1, hk]
        refine ⟨by simp [hk, hd], ?_⟩
        simp only [List.map_cons, if_pos hk, if_pos hd]
        exact .cons ⟨e1, hv⟩ ih.2
      · have hd : ¬ p.1 = kk k := fun z => hk (inj _ _ (by rw [← e1, z]))
        refine ⟨by simp only [List.any_cons, hk, hd, decide_false, Bool.false_or]; exact ih.1, ?_⟩
        simp only [List.map_cons, if_neg hk, if_neg hd]
        exact .cons ⟨e1, e2⟩ ih.2
  unfold dput putK
  rw [key.1]
  by_cases hk : (kts.any fun p => decide (p.1 = k)) = true
  · rw [if_pos hk, if_pos hk]; exact key.2
  · rw [if_neg hk, if_neg hk]
    have app : ∀ {as : List (D × D)} {bs : List (κ × V)}, Paired (fun p q => p.1 = kk q.1 ∧ Rep H p.2 q.2) as bs → Paired (fun p q => p.1 = kk q.1 ∧ Rep H p.2 q.2) (as ++ [(kk k, d)]) (bs ++ [(k, v)]) := by
      intro as bs h
      induction h with
      | nil => exact .cons ⟨rfl, hv⟩ .nil
      | cons r _ ih => exact .cons r ih
    exact app h
theorem wSetSub_ok {K : PySem.W.Frag} {o i v : D} {S : Sto} {Ks : Sto → Prop} {ρ : Env'} {σ : L2.St} {H : Hp} {Φ : TP} {ov iv u : V} {Q : Hp → Prop} (r : Rr ρ S σ H) (p : TP.p Φ H) (ro : Rep H o ov) (ri : Rep H i iv) (rv : Rep H v u) (h : wSetSub o i v S Ks)
    (fin : ∀ S' H', Rr ρ S' σ H' → TP.p Φ H' → Ks S' → Q H') : rSetL ov iv u H Q ∨ rSetD ov iv u H Q := by
  have wr : ∀ {a : Addr} {o u : HO} {m : MO}, H a = some u → (∀ xs, u ≠ .tup xs) → (Tm H (upd H a o) → MRep (upd H a o) a m) → Ks (put S a m) → Q (upd H a o) := fun {a o u m} e n mr k => by
    have tt : Tm H (upd H a o) := Tm.upd_mut e n
    refine fin _ _ ⟨r.len, fun i d e => ?_, r.st.write e n (mr tt)⟩ (Φ.mono tt p) k
    obtain ⟨v', e1, e2'⟩ := r.at_ i d e
    exact ⟨v', e1, e2'.mono tt⟩
  unfold wSetSub at h
  split at h
  · rename_i a
    cases repRef ro
    split at h
    · rename_i ds e
      obtain ⟨kk, j, rfl, hj, h⟩ := h
      cases repInt ri
      obtain ⟨vs, h1, hr⟩ := r.st _ _ e
      exact .inl ⟨a, vs, kk, j, rfl, rfl, h1, by rw [← hr.length]; exact hj, wr h1 (fun _ z => nomatch z) (fun tt => show MRep _ a (.lst (ds.set j v)) from ⟨_, upd_same, (hr.set j rv).mono tt⟩) h⟩
    · rename_i tk kvs e
      obtain ⟨hk, hl, h⟩ := h
      have m := r.st _ _ e
      cases tk with
      | true =>
        obtain ⟨kts, h1, hr⟩ := m
        have h1' : H a = some (.dT kts) := h1
        unfold keyOk at hk
        rw [if_pos rfl] at hk
        cases e3 : keyT i with
        | none => rw [e3] at hk; cases hk
        | some ks =>
          cases i with
          | tup ds =>
            obtain ⟨b, ws, rfl, hb, hrs⟩ := repTup ri
            obtain ⟨rfl, rfl⟩ := keyKs_rep hrs e3
            exact .inr ⟨a, _, rfl, .inr ⟨kts, ks, b, h1', rfl, hb, by rw [← Paired.length hr]; exact hl, rfl⟩, wr h1' (fun _ z => nomatch z) (fun tt => show MRep _ a (.dct false true (dput kvs (kDs ks) v)) from ⟨_, upd_same, RepT.mono tt (put_pair (kk := kDs) (fun _ _ => kDs_inj) rv hr)⟩) h⟩
          | _ => cases e3
      | false =>
        obtain ⟨kks, h1, hr⟩ := m
        have h1' : H a = some (.dK kks) := h1
        unfold keyOk at hk
        rw [if_neg Bool.false_ne_true] at hk
        cases e3 : keyK i with
        | none => rw [e3] at hk; cases hk
        | some ks =>
          obtain ⟨rfl, rfl⟩ := keyK_rep ri e3
          exact .inr ⟨a, _, rfl, .inl ⟨kks, ks, h1', rfl, by rw [← Paired.length hr]; exact hl, rfl⟩, wr h1' (fun _ z => nomatch z) (fun tt => show MRep _ a (.dct false false (dput kvs (kD ks) v)) from ⟨_, upd_same, RepK.mono tt (put_pair (kk := kD) (fun _ _ => kD_inj) rv hr)⟩) h⟩
    · exact h.elim
  · exact h.elim
/-- an index that is no slice -/
def notSlice : Expr → Bool
  | .Slice .. => false
  | .Tuple .. => false
  | _ => true
theorem s_setSub (C : XOw Γ nm N k X) {o i e : Expr} {co ci c : Ex} {p2 pos : Pos} (ho : dE X o (wE Γ co)) (hi : dE X i (wE Γ ci)) (he : dE X e (wE Γ c)) (hn : notComp e = true) (hsl : notSlice i = true) : dS X (.Assign [.Subscript o i p2] e pos) (wS Γ (.setSub co ci c)) := by
  refine (ps_asg he (pg_sub ho hi (PSet.or set_list (set_dict C.rh.units1)) (by intro v; cases i <;> first | rfl | cases hsl)) (show swapsWithSole [.Subscript o i p2] e pos.line X.env = pure false from swaps_false (t := some (.Subscript o i p2)) (l := pos.line) (env := X.env) hn) (noSwap_ok rfl) rfl).imp fun Dd σ H ⟨ρ, S, Φ, N, E, r, p, tk, h, en⟩ => ?_
  simp only [wS] at h
  refine lE.go r p (tk.toD ρ σ) h fun d S1 v H1 r1 p1 rp1 tk1 p1' k1 => ?_
  refine lE.go (Φ := Φ.holdV d v) r1 p1' tk1 k1 fun x S2 u H2 r2 p2 rp2 tk2 p2' k2 => ?_
  refine ⟨ρ, S2, (Φ.holdV d v).holdV x u, _, _, r2, p2', tk2, k2, fun y S3 w H3 r3 p3 rp3 k3 => ?_⟩
  exact wSetSub_ok (K := X.K) r3 p3 p3.2 rp3 p3.1.2 k3 fun S4 H4 r4 p4 k4 => en.nx ρ S4 σ H4 r4 p4.1.1 k4
theorem s_for (C : XOk Γ nm N k X) {tg it : Expr} {body : List Stmt} {t : Tg} {ci : Ex} {cb : List Sm} {pos : Pos} (hi : dI X tg it (wI Γ ci)) (hg : dG X tg t) (hb : dSs X body (wSs Γ cb)) (hs : ∀ x, foldedSetIterable it X.env x = pure x) : dS X (.For tg it body [] pos) (wS Γ (.for t ci cb)) := by
  refine (ps_for C.po C.calm hi hg hb hs).imp fun Dd σ H ⟨ρ, S, Φ, N, E, r, p, tk, h, en⟩ => ?_
  simp only [wS] at h
  refine ⟨ρ, S, Φ, _, _, r, p, tk.toD ρ σ, h, fun items stays S1 J H1 Φ' r1 p1 hΦ hit h1 => ?_⟩
  refine ⟨fun i m σ H => m = items.length - i ∧ i ≤ items.length ∧ ∃ ρ S, Rr ρ S σ H ∧ TP.p Φ' H ∧ wLoop stays (fun d ρ S next => wTg t d ρ fun ρ' => wSs Γ cb { N with nx := next, ct := next, bk := N.nx } E ρ' S) N.nx (items.drop i) ρ S, ⟨_, rfl, Nat.zero_le _, ρ, S1, r1, p1, by simpa using h1⟩, ?_⟩
  rintro i m σ2 H2 ⟨rfl, hi2, ρ2, S2, r2, p2, w⟩
  by_cases hlt : i < items.length
  · have ed : items.drop i = items[i] :: items.drop (i + 1) := List.drop_eq_getElem_cons hlt
    rw [ed] at w
    obtain ⟨st, w⟩ := w
    obtain ⟨go, yl⟩ := (hit i ρ2 S2 σ2 H2 r2 p2 st).1 items[i] (List.getElem?_eq_getElem hlt)
    refine .inr ⟨go, fun σ' H' => ∃ ρ S, Rr ρ S σ' H' ∧ TP.p Φ' H' ∧ wLoop stays (fun d ρ S next => wTg t d ρ fun ρ' => wSs Γ cb { N with nx := next, ct := next, bk := N.nx } E ρ' S) N.nx (items.drop (i + 1)) ρ S, fun σ' H' n => ⟨_, by omega, rfl, hlt, n⟩, fun x H3 y => ?_⟩
    obtain ⟨r3, p3, rx⟩ := yl x H3 y
    refine ⟨ρ2, S2, Φ', items[i], _, r3, p3, rx, w, fun ρ' σ' r' _ k' => ⟨ρ', S2, Φ', _, E, r', p3, tk.less hΦ, k', ⟨fun ρ S σ H r p w => ⟨ρ, S, r, p, w⟩, (en.less hΦ).rt, (en.less hΦ).nx, fun ρ S σ H r p w => ⟨ρ, S, r, p, w⟩⟩⟩⟩
  · have e : i = items.length := by omega
    subst e
    rw [List.drop_length] at w
    obtain ⟨st, w⟩ := w
    exact .inl ⟨(hit _ ρ2 S2 σ2 H2 r2 p2 st).2 rfl, en.nx ρ2 S2 σ2 H2 r2 (hΦ H2 p2) w⟩
theorem s_while (C : XOk Γ nm N k X) {c : Expr} {body : List Stmt} {cc : Ex} {cb : List Sm} {pos : Pos} (hc : dT X c (wT Γ cc)) (hb : dSs X body (wSs Γ cb)) : dS X (.While c body [] pos) (wS Γ (.while cc cb)) := by
  refine (ps_while C.po hc hb).imp fun Dd σ H ⟨ρ, S, Φ, N, E, r, p, tk, h, en⟩ => ?_
  simp only [wS] at h
  obtain ⟨I, ⟨m0, i0⟩, h⟩ := h
  refine ⟨fun m σ H => ∃ ρ S, Rr ρ S σ H ∧ TP.p Φ H ∧ I m ρ S, ⟨m0, ρ, S, r, p, i0⟩, ?_⟩
  rintro m σ1 H1 ⟨ρ1, S1, r1, p1, i1⟩
  refine ⟨ρ1, S1, Φ, _, _, r1, p1, tk.toD ρ1 σ1, h m ρ1 S1 i1, fun t S2 H2 r2 p2 k2 => ?_⟩
  cases t with
  | false => rw [if_neg Bool.false_ne_true] at k2 ⊢; exact en.nx ρ1 S2 σ1 H2 r2 p2 k2
  | true =>
    rw [if_pos rfl] at k2 ⊢
    refine ⟨fun σ' H' => ∃ ρ' S', Rr ρ' S' σ' H' ∧ TP.p Φ H' ∧ ∃ m', m' < m ∧ I m' ρ' S', fun σ' H' ⟨ρ', S', r', p', m', hm, i'⟩ => ⟨m', hm, ρ', S', r', p', i'⟩, ρ1, S2, Φ, _, E, r2, p2, tk, k2, ⟨fun ρ S σ H r p w => ⟨ρ, S, r, p, w⟩, en.rt, en.nx, fun ρ S σ H r p w => ⟨ρ, S, r, p, w⟩⟩⟩
theorem s_raise (C : XOk Γ nm N k X) {x m : Str} {j : Nat} {p1 p2 p3 pos : Pos} (hg : glB nm x = true) (hd : (x == ("__debug__" : Str)) = false) (hr : Γ.rse x = true) : dS X (.Raise (some (.Call (.Name x p1) [.Constant (.str m) j p2] [] p3)) none pos) (wS Γ (.raise x)) := by
  obtain ⟨h1, h2, h3, h4, h5⟩ := C.g.rse x hr
  refine ⟨fun pins s σ H Dd I ⟨ρ, S, Φ, N, E, r, p, tk, h, en⟩ => ?_⟩
  simp only [wS] at h
  exact (ps_raise C.calm tk (pmk_own PySem.F.excBase_ValueError h3 h1 h2 (raises_own h4 h5) (C.n.gl hg) hd)).run pins s σ H Dd I ⟨x, ρ, S, rfl, rfl, r, p, h⟩
/-- isinstance(e, C), e the exception that the suite holds -/
theorem d_isx (C : XOw Γ nm N k X) {e : Expr} {c : Ex} {x : Str} {pp p2 pos : Pos} (hg : glB nm "isinstance" = true) (hg2 : glB nm x = true) (hd2 : (x == ("__debug__" : Str)) = false) (hs : noStar e = true) (he : dE X e (wE Γ c)) :
    dE X (.Call (.Name "isinstance" pp) [e, .Name x p2] [] pos) (wE Γ (.isx c x)) := by
  refine ⟨fun pins s σ H Q I h => ?_⟩
  have hm := C.g.blt "isinstance" (by decide +kernel)
  have nev : (∀ ρ S K E, wE Γ (.isx c x) ρ S K E → ∃ K', wE Γ c ρ S K' E ∧ ∀ d S1, ¬ K' d S1) → wpAny (model X.prog X.w) X.A (eval (.Call (.Name "isinstance" pp) [e, .Name x p2] [] pos) X.env) (EP X pins σ Q) X.xe s := fun hf => by
    have ht : PE X (.Name x p2) (fun _ _ _ => False) := ⟨fun _ _ _ _ _ _ h => h.elim⟩
    have hc : CallR X (.builtin "isinstance") (fun _ _ _ => False) := fun _ _ _ _ _ _ _ _ _ h => h.elim
    refine (pe_callB hc (C.n.gl hg) hm (by decide +kernel) (pa_cons he (pa_cons ht pa_nil rfl) (star_cons hs)) (by decide +kernel) (by decide +kernel) (star_cons hs) rfl).run pins s σ H Q I ?_
    obtain ⟨ρ, S, Φ, K, E, r, p, tk, h, fin⟩ := h
    obtain ⟨K', h1, h2⟩ := hf _ _ _ _ h
    exact ⟨ρ, S, Φ, K', E, r, p, tk, h1, fun d S1 _ _ _ _ _ k => (h2 d S1 k).elim⟩
  cases hv : Γ.exv with
  | none =>
    refine nev fun ρ S K E h => ?_
    simp only [wE, hv] at h
    exact ⟨_, h, fun d S1 k => by cases d <;> exact k.elim⟩
  | some q =>
    obtain ⟨a, y⟩ := q
    cases hx : Γ.exc y x with
    | none =>
      refine nev fun ρ S K E h => ?_
      simp only [wE, hv, hx] at h
      exact ⟨_, h, fun d S1 k => by
        cases d with
        | ref a' => obtain ⟨_, k⟩ := k; rw [hx] at k; exact k
        | _ => exact k⟩
    | some b =>
      obtain ⟨_, cv, hcv, _, hk⟩ := C.g.exc y x b hx
      have ht : ∃ v, PE X (.Name x p2) (tC v) ∧ ∀ u, RelV v u → u = cv := by
        rcases hcv with ⟨h1, rfl⟩ | ⟨h1, n, h2, rfl, h3⟩
        · exact ⟨.ref (He.ga X.K x), pe_glob (C.n.gl hg2) h1 rfl hd2, fun u ru => ru⟩
        · exact ⟨.ty n, pe_bltn (C.n.gl hg2) h1 h2 rfl h3 hd2, fun u ru => ru⟩
      obtain ⟨v, ht, hv2⟩ := ht
      refine (pe_callB (C.ev a y hv) (C.n.gl hg) hm (by decide +kernel) (pa_cons he (pa_cons ht pa_nil rfl) (star_cons hs)) (by decide +kernel) (by decide +kernel) (star_cons hs) rfl).run pins s σ H Q I ?_
      obtain ⟨ρ, S, Φ, K, E, r, p, tk, h, fin⟩ := h
      simp only [wE, hv, hx] at h
      refine lE.go r p tk h fun d S1 w H1 r1 p1 rp1 tk1 p1' k1 => ?_
      cases d with
      | ref a' =>
        obtain ⟨rfl, k1⟩ := k1
        rw [hx] at k1
        cases repRef rp1
        exact ⟨v, cv, b, rfl, hv2, hk, fin (.bl b) S1 _ H1 r1 p1 (by simp only [Rep]) k1⟩
      | _ => exact k1.elim
end
end DL

/-! DL14: try; a name set to a comprehension. -/
namespace DL
open PySem PySem.Spec PyProof.Rows L2
theorem Rr.setNone {ρ : Env'} {S : Sto} {σ : L2.St} {H : Hp} (r : Rr ρ S σ H) (i : Nat) : Rr (ρ.set i none) S (σ.set i none) H := by
  refine ⟨by simp [r.len], fun j x e => ?_, r.st⟩
  by_cases q : j = i
  · subst q
    by_cases hl : j < ρ.length
    · rw [List.getElem?_set_self hl] at e; cases e
    · rw [List.getElem?_eq_none (by simpa using hl)] at e; cases e
  · rw [List.getElem?_set_ne (Ne.symm q)] at e ⊢
    exact r.at_ j x e
section
variable {Γ : GE} {nm : List (Str × NameKind)} {N : List Str} {k : Nat} {X : Cx}
/-- a body's reading by a wish of exceptions -/
def lSW (K : PySem.W.Frag) (τ : WS') (W : WX) : TS := fun Dd σ H => ∃ ρ S Φ N E, Rr ρ S σ H ∧ TP.p Φ H ∧ (∀ c d σ H, wXs K Φ E c d σ H → W c d σ H) ∧ τ N E ρ S ∧ EndsOk Φ N Dd
theorem XOk.tr (C : XOk Γ nm N k X) {pn : List (Addr × Obj)} {xe : Value → Shared → Prop} (h : PassesOwn (model X.prog X.w) X.A X.env xe) : XOk Γ nm N k (X.tr pn xe) :=
  ⟨⟨C.g, ⟨C.n.n, C.n.nd, C.n.look, C.n.fn⟩, C.rh, fun a x e => by rw [C.noe] at e; cases e⟩, C.hr, C.calm, C.noe, h⟩
theorem XOk.suite (C : XOk Γ nm N k X) {a : Addr} {oe : Obj} {pn : List (Addr × Obj)} {y : Str} (e : ExcC X.K (He.ga X.K y)) (hz : Zc (.ref (He.ga X.K y)) none oe) (hf : ∃ vs, oe.data = .fields vs) : XOw { Γ with exv := some (a, y) } nm N k (X.suite a ((a, oe) :: pn)) :=
  ⟨C.g.exv _, ⟨C.n.n, C.n.nd, C.n.look, C.n.fn⟩, ⟨C.rh.dp, C.rh.un⟩, fun a' x' q => by
    cases q
    exact call_isE e hz hf⟩
/-- the suite's reading -/
def lSu (Γ : GE) (K : PySem.W.Frag) (c : Str) (cs : List Sm) (a : Addr) (cls : Value) (d : Option Addr) : TS := fun Dd σ H => ∃ x, cls = .ref (He.ga K x) ∧ d = none ∧ Γ.exc x c = some true ∧
  ∃ ρ S Φ N, Rr ρ S σ H ∧ TP.p Φ H ∧ wSs { Γ with exv := some (a, x) } cs N (fun _ _ _ => False) ρ S ∧ EndsOk Φ N Dd
theorem takesS0 {Y : Cx} {Φ : TP} : TakesS Y Φ (fun _ _ _ => False) := takes0.imp fun c d σ' H ⟨x, ρ, S, e1, e2, r, p, q⟩ => q
theorem suite_run (C : XOk Γ nm N k X) {c : Str} {b₀ : Stmt} {suite : List Stmt} {cs : List Sm} (h : ∀ Γ' Y, XOw Γ' nm N k Y → dSs Y (b₀ :: suite) (wSs Γ' cs)) (a : Addr) (oe : Obj) (cls : Value) (d : Option Addr) (pn : List (Addr × Obj)) (hz : Zc cls d oe) (hf : ∃ vs, oe.data = .fields vs) :
    PSs (X.suite a ((a, oe) :: pn)) (b₀ :: suite) (lSu Γ X.K c cs a cls d) := by
  refine ⟨fun pins s σ H Dd I ⟨x, e1, e2, he, ρ, S, Φ, N, r, p, w, en⟩ => ?_⟩
  subst e1 e2
  exact (h _ _ (C.suite (C.g.exc x c true he).1 hz hf)).run pins s σ H Dd I ⟨ρ, S, Φ, N, _, r, p, takesS0, w, en⟩
theorem body_run {body : List Stmt} {cb : List Sm} (h : ∀ Y, XOk Γ nm N k Y → Y.stack = Y.env :: Y.outer → Y.env.frame = some Y.env.locals → dSs Y body (wSs Γ cb)) (C : XOk Γ nm N k X) (hs : X.stack = X.env :: X.outer) (hf : X.env.frame = some X.env.locals)
    (W : WX) (pn : List (Addr × Obj)) (xe : Value → Shared → Prop) (tk : Takes (X.tr pn xe) W) (hp : PassesOwn (model X.prog X.w) X.A X.env xe) : PSs (X.tr pn xe) body (lSW X.K (wSs Γ cb) W) := by
  refine ⟨fun pins s σ H Dd I ⟨ρ, S, Φ, N, E, r, p, hW, w, en⟩ => ?_⟩
  exact (h _ (C.tr hp) hs hf).run pins s σ H Dd I ⟨ρ, S, Φ, N, E, r, p, tk.imp hW, w, en⟩
theorem exm_own (C : XOk Γ nm N k X) {x c : Str} {b : Bool} (hr : Γ.rse c = true) (e : Γ.exc x c = some b) : PySem.W.exmOne X.K (.ref (He.ga X.K x)) (.ref (He.ga X.K c)) = some b := by
  obtain ⟨_, cv, h1, h2, _⟩ := C.g.exc x c b e
  obtain ⟨m1, _⟩ := C.g.rse c hr
  rcases h1 with ⟨h1, rfl⟩ | ⟨h1, _⟩
  · exact h2
  · rw [m1] at h1; cases h1
theorem s_tryAs (C : XOk Γ nm N k X) (hs : X.stack = X.env :: X.outer) (hf : X.env.frame = some X.env.locals) {c n : Str} {i : Nat} {body suite : List Stmt} {b₀ : Stmt} {cb cs : List Sm} {np pos pos' : Pos} (hr : Γ.rse c = true) (hg : glB nm c = true) (hd : (c == ("__debug__" : Str)) = false)
    (hi : N[i]? = some n) (hl : nm.lookup n = some .local) (hb : ∀ Y, XOk Γ nm N k Y → Y.stack = Y.env :: Y.outer → Y.env.frame = some Y.env.locals → dSs Y body (wSs Γ cb)) (hsu : ∀ Γ' Y, XOw Γ' nm N k Y → dSs Y (b₀ :: suite) (wSs Γ' cs)) :
    dS X (.Try body [.ExceptHandler (some (.Name c np)) (some n) (b₀ :: suite) pos'] [] [] pos) (wS Γ (.try cb c (some i) cs)) := by
  have hln : X.env.kindOf n = some .local := by
    obtain ⟨k', h1, h2⟩ := C.n.look n _ hl
    rcases h2 with rfl | ⟨z, _⟩
    · exact h1
    · cases z
  have hcn : Names X c (.ref (He.ga X.K c)) := ⟨C.n.gl hg, hd, .inl (C.g.rse c hr).1⟩
  refine ⟨fun pins s σ H Dd I ⟨ρ, S, Φ, N', E, r, p, tk, h, en⟩ => ?_⟩
  simp only [wS] at h
  refine (ps_try_as (i := i) (ts := lSu Γ X.K c cs) (Wout := wXs X.K Φ E) hs hf (by rw [C.n.n]; exact C.n.nd) (by rw [C.n.n]; exact hi) hln hcn tk (body_run hb C hs hf) (suite_run C hsu)).run pins s σ H Dd I ?_
  refine ⟨ρ, S, Φ, N', _, r, p, fun cls d σ1 H1 ⟨x, ρ1, S1, e1, e2, r1, p1, w⟩ => ?_, h, en⟩
  subst e1 e2
  dsimp only at w
  cases he : Γ.exc x c with
  | none => rw [he] at w; exact w.elim
  | some b =>
    rw [he] at w
    refine ⟨b, exm_own C hr he, fun hb1 a ha => ?_, fun hb1 => ?_⟩
    · subst hb1
      refine ⟨x, rfl, rfl, he, _, S1, Φ, _, r1.set i (d := .ref a) (v := .ref a) (by simp only [Rep]), p1, w a (r1.st.free ha), ⟨fun ρ2 S2 σ2 H2 r2 p2 q2 => en.nx _ S2 _ H2 (r2.setNone i) p2 q2, en.rt, fun ρ2 S2 σ2 H2 r2 p2 q2 => en.bk _ S2 _ H2 (r2.setNone i) p2 q2, fun ρ2 S2 σ2 H2 r2 p2 q2 => en.ct _ S2 _ H2 (r2.setNone i) p2 q2⟩⟩
    · subst hb1
      exact ⟨x, ρ1, S1, rfl, rfl, r1, p1, w⟩
theorem s_tryOnly (C : XOk Γ nm N k X) (hs : X.stack = X.env :: X.outer) (hf : X.env.frame = some X.env.locals) {c : Str} {body suite : List Stmt} {b₀ : Stmt} {cb cs : List Sm} {np pos pos' : Pos} (hr : Γ.rse c = true) (hg : glB nm c = true) (hd : (c == ("__debug__" : Str)) = false)
    (hb : ∀ Y, XOk Γ nm N k Y → Y.stack = Y.env :: Y.outer → Y.env.frame = some Y.env.locals → dSs Y body (wSs Γ cb)) (hsu : ∀ Γ' Y, XOw Γ' nm N k Y → dSs Y (b₀ :: suite) (wSs Γ' cs)) :
    dS X (.Try body [.ExceptHandler (some (.Name c np)) none (b₀ :: suite) pos'] [] [] pos) (wS Γ (.try cb c none cs)) := by
  have hcn : Names X c (.ref (He.ga X.K c)) := ⟨C.n.gl hg, hd, .inl (C.g.rse c hr).1⟩
  refine ⟨fun pins s σ H Dd I ⟨ρ, S, Φ, N', E, r, p, tk, h, en⟩ => ?_⟩
  simp only [wS, nmO] at h
  refine (ps_try_only (ts := lSu Γ X.K c cs) (Wout := wXs X.K Φ E) hs hf hcn tk (body_run hb C hs hf) (suite_run C hsu)).run pins s σ H Dd I ?_
  refine ⟨ρ, S, Φ, N', _, r, p, fun cls d σ1 H1 ⟨x, ρ1, S1, e1, e2, r1, p1, w⟩ => ?_, h, en⟩
  subst e1 e2
  dsimp only at w
  cases he : Γ.exc x c with
  | none => rw [he] at w; exact w.elim
  | some b =>
    rw [he] at w
    refine ⟨b, exm_own C hr he, fun hb1 a ha => ?_, fun hb1 => ?_⟩
    · subst hb1
      exact ⟨x, rfl, rfl, he, _, S1, Φ, _, r1, p1, w a (r1.st.free ha), ⟨en.nx, en.rt, en.bk, en.ct⟩⟩
    · subst hb1
      exact ⟨x, ρ1, S1, rfl, rfl, r1, p1, w⟩
/-- a name set to a comprehension on its line -/
theorem s_setLc (C : XOk Γ nm N k X) {y : Str} {py : Pos} {i : Nat} {elt tg iter : Expr} {ifs : List Expr} {scope : Scope} {own : List (Str × Nat)} {pos spos : Pos} {ce ci : Ex} {ct : Tg} {cs : List Ex} (hy : N[i]? = some y) (hl : nm.lookup y = some .local) (hk : X.env.scope.kind = .function) (hli : (py.line == pos.line) = true)
    (hno : (scope.names.any fun (n, k) => n == y && (k == .local || k == .cell)) = false) (ok : BlkOk X.N X.env.scope scope own)
    (hi : dI X tg iter (wI Γ ci)) (hg : ∀ Y, XOk Γ scope.names N k Y → dG Y tg ct) (ht : ∀ Y, XOk Γ scope.names N k Y → dTs Y Γ ifs cs) (he : ∀ Y, XOk Γ scope.names N k Y → dE Y elt (wE Γ ce)) (hs : ∀ x, foldedSetIterable iter X.env x = pure x)
    (hsl : ∀ i ∈ tgSlots ct, i ∈ own.map (·.2)) : dS X (.Assign [.Name y py] (.ListComp elt [⟨tg, iter, ifs, 0⟩] scope pos) spos) (wS Γ (.asg (.nm i) (.comp ce (own.map (·.2)) ct ci cs))) := by
  have hln : X.env.scope.names.lookup y = some .local := by
    obtain ⟨k', h1, h2⟩ := C.n.look y _ hl
    rcases h2 with rfl | ⟨z, _⟩
    · exact h1
    · cases z
  refine (ps_setLc C.calm (by rw [C.n.n]; exact C.n.nd) (by rw [C.n.n]; exact hy) hln (sw_true hk hln hli hno) hi ok (fun s H D cl fp => hg _ C.blk) (fun s H D cl fp => lT0.of (ht _ C.blk)) (fun s H D cl fp => lE0.of (he _ C.blk)) hs).imp fun Dd σ H h => ?_
  obtain ⟨ρ, S, Φ, N', E, r, p, tk, h, en⟩ := h
  simp only [wS] at h
  exact comp_read hsl ⟨ρ, S, Φ, _, _, r, p, tk.toD ρ σ, h, fun d S1 v H1 r1 p1 rv k1 => by
    simp only [wTg] at k1
    exact en.nx _ S1 _ H1 (r1.set i rv) p1 k1⟩
end
end DL

/-! DL15: from the text to the small language. -/
namespace DL
open PySem PySem.Spec PyProof.Rows L2

/-- what the translation looks at -/
structure TC where
  N : List Str
  nm : List (Str × NameKind)
  fns : List Str
  mks : List Str
  exs : List Str
  rss : List Str
  mts : List Str

def slot : List Str → Str → Option Nat
  | [], _ => none
  | y :: r, x => if y = x then some 0 else (slot r x).map (· + 1)
theorem slot_ok : ∀ {N : List Str} {x : Str} {i : Nat}, slot N x = some i → N[i]? = some x
  | y :: r, x, i, h => by
    unfold slot at h
    split at h
    · rename_i e; cases h; simp [e]
    · cases e : slot r x with
      | none => rw [e] at h; cases h
      | some j => rw [e] at h; cases h; simpa using slot_ok e
def goodN (x : Str) : Bool := !(x == ("__debug__" : Str)) && !(x == ("__classdict__" : Str)) && !(x == ("__name__" : Str))
theorem goodN_ok {x : Str} (h : goodN x = true) : (x == ("__debug__" : Str)) = false ∧ (x == ("__classdict__" : Str)) = false ∧ x ≠ "__name__" := by
  simp only [goodN, Bool.and_eq_true, Bool.not_eq_true'] at h
  exact ⟨h.1.1, h.1.2, fun e => by rw [e] at h; simp at h⟩
/-- no call of no arguments -/
def baseB : Expr → Bool
  | .Call _ [] _ _ => false
  | _ => true
theorem baseB_ok {o : Expr} {m : Str} {env : Env} (h : baseB o = true) : attributeBase o m env (eval o env) = eval o env := by
  cases o with
  | Call f args kws pos =>
    cases args with
    | nil => cases h
    | cons a r => cases f <;> rfl
  | _ => rfl
def opOk : Operator → Bool
  | .Add => true
  | .Sub => true
  | .Mult => true
  | .FloorDiv => true
  | .Mod => true
  | .Pow => true
  | .LShift => true
  | .RShift => true
  | .BitAnd => true
  | .BitOr => true
  | _ => false
def bfName : Bf → Str
  | .len => "len"
  | .abs => "abs"
  | .min2 => "min"
  | .max2 => "max"
  | .divmod => "divmod"
  | .all => "all"
  | .any => "any"
  | .sorted => "sorted"
  | .int => "int"
  | .str => "str"
  | .list => "list"
  | .tuple => "tuple"
  | _ => ""
def bfAr : Bf → Nat
  | .min2 => 2
  | .max2 => 2
  | .divmod => 2
  | _ => 1
def bfs : List Bf := [.len, .abs, .min2, .max2, .divmod, .all, .any, .sorted, .int, .str, .list, .tuple]
def bfOf (x : Str) (n : Nat) : Option Bf := bfs.find? fun f => decide (bfName f = x) && decide (bfAr f = n)
theorem bfOf_ok {x : Str} {n : Nat} {f : Bf} (h : bfOf x n = some f) : ∀ X : Cx, ∃ c r, BfC X f c r ∧ c.2 = x := by
  unfold bfOf at h
  have h1 := List.find?_some h
  have h2 := List.mem_of_find?_eq_some h
  simp only [Bool.and_eq_true, decide_eq_true_eq] at h1
  obtain ⟨e, _⟩ := h1
  intro X
  rw [← e]
  cases f with
  | len => exact ⟨_, _, .len, rfl⟩
  | abs => exact ⟨_, _, .abs, rfl⟩
  | min2 => exact ⟨_, _, .min2, rfl⟩
  | max2 => exact ⟨_, _, .max2, rfl⟩
  | divmod => exact ⟨_, _, .divmod, rfl⟩
  | all => exact ⟨_, _, .all, rfl⟩
  | any => exact ⟨_, _, .any, rfl⟩
  | sorted => exact ⟨_, _, .sorted, rfl⟩
  | int => exact ⟨_, _, .int, rfl⟩
  | str => exact ⟨_, _, .str, rfl⟩
  | list => exact ⟨_, _, .list, rfl⟩
  | tuple => exact ⟨_, _, .tuple, rfl⟩
  | _ => simp [bfs] at h2
def bmName : Bm → Str
  | .append => "append"
  | .extend => "extend"
  | .popL => "pop"
  | .popAt => "pop"
  | .insert => "insert"
  | .index => "index"
  | .count => "count"
  | .reverse => "reverse"
  | .clear => "clear"
  | .join => "join"
  | .split => "split"
  | .strip => "strip"
  | .startswith => "startswith"
  | .endswith => "endswith"
  | _ => ""
def bmAr : Bm → Nat
  | .popL => 0
  | .reverse => 0
  | .clear => 0
  | .insert => 2
  | _ => 1
def bms : List Bm := [.append, .extend, .popL, .popAt, .insert, .index, .count, .reverse, .clear, .join, .split, .strip, .startswith, .endswith]
def bmOf (x : Str) (n : Nat) : Option Bm := bms.find? fun f => decide (bmName f = x) && decide (bmAr f = n)
theorem bmOf_ok {x : Str} {n : Nat} {f : Bm} (h : bmOf x n = some f) : ∀ X : Cx, ∃ c r, BmC X f c r ∧ c.1 = x := by
  unfold bmOf at h
  have h1 := List.find?_some h
  have h2 := List.mem_of_find?_eq_some h
  simp only [Bool.and_eq_true, decide_eq_true_eq] at h1
  obtain ⟨e, _⟩ := h1
  intro X
  rw [← e]
  cases f with
  | append => exact ⟨_, _, .append, rfl⟩
  | extend => exact ⟨_, _, .extend, rfl⟩
  | popL => exact ⟨_, _, .popL, rfl⟩
  | popAt => exact ⟨_, _, .popAt, rfl⟩
  | insert => exact ⟨_, _, .insert, rfl⟩
  | index => exact ⟨_, _, .index, rfl⟩
  | count => exact ⟨_, _, .count, rfl⟩
  | reverse => exact ⟨_, _, .reverse, rfl⟩
  | clear => exact ⟨_, _, .clear, rfl⟩
  | join => exact ⟨_, _, .join, rfl⟩
  | split => exact ⟨_, _, .split, rfl⟩
  | strip => exact ⟨_, _, .strip, rfl⟩
  | startswith => exact ⟨_, _, .startswith, rfl⟩
  | endswith => exact ⟨_, _, .endswith, rfl⟩
  | _ => simp [bms] at h2
/-- the class that a name means, a built-in one -/
def tyOfName (x : Str) : Option String :=
  if x = "int" then some "int" else if x = "bool" then some "bool" else if x = "str" then some "str" else if x = "list" then some "list" else if x = "tuple" then some "tuple" else if x = "dict" then some "dict" else none
/-- the slots of a block's own names -/
def ownOf (N : List Str) (sc : List (Str × NameKind)) : List (Str × Nat) := sc.filterMap fun y => if y.2 = .local ∨ y.2 = .cell then (slot N y.1).map fun i => (y.1, i) else none
def uniqB : List (Str × NameKind) → List Str → Bool
  | [], _ => true
  | y :: r, seen => !(seen.contains y.1) && uniqB r (y.1 :: seen)
def blkB (T : TC) (sc : Scope) : Bool := decide (sc.kind = .function) && (sc.names.all fun y => decide (sc.names.lookup y.1 = some y.2)) &&
  (sc.names.all fun y => decide (y.2 ≠ .free) || decide (T.nm.lookup y.1 = some .cell) || decide (T.nm.lookup y.1 = some .free)) &&
  (sc.names.all fun y => !(decide (y.2 = .local) || decide (y.2 = .cell)) || ((ownOf T.N sc.names).map (·.1)).contains y.1 || !T.N.contains y.1)
def isIf : Expr → Bool
  | .IfExp .. => true
  | _ => false
def trL (f : Expr → Ex) : List Expr → List Ex
  | [] => []
  | e :: r => f e :: trL f r
def trB (f : Expr → Ex) (o : BoolOp) : List Expr → Ex
  | [] => .nev
  | [a] => f a
  | a :: b :: r => match o with
    | .And => .andE (f a) (trB f o (b :: r))
    | .Or => .orE (f a) (trB f o (b :: r))
def trO (f : Expr → Ex) : Option Expr → Option Ex
  | none => none
  | some e => some (f e)
def trIt (T : TC) (f : Expr → Ex) (tup : Bool) : Expr → Ex
  | .Call (.Name x p) args kws pos => match glB T.nm x, kws, args with
    | true, [], [a] => if x = "range" ∧ noStar a = true then .range1 (f a) else if x = "enumerate" ∧ noStar a = true ∧ tup = true then .enum (f a) else if x = "reversed" ∧ noStar a = true then .revd (f a) else f (.Call (.Name x p) args kws pos)
    | true, [], [a, b] => if x = "range" ∧ noStar a = true ∧ noStar b = true then .range2 (f a) (f b) else if x = "zip" ∧ noStar a = true ∧ noStar b = true ∧ tup = true then .zip (f a) (f b) else f (.Call (.Name x p) args kws pos)
    | _, _, _ => f (.Call (.Name x p) args kws pos)
  | e => f e
def trG (T : TC) : Nat → Expr → Option Tg
  | 0, _ => none
  | n + 1, .Name x _ => if locB T.nm x = true then (slot T.N x).map .nm else none
  | n + 1, .Tuple ts _ _ => if ts.all tgOk = true then (go n ts).map .tup else none
  | _ + 1, _ => none
where go (n : Nat) : List Expr → Option (List Tg)
  | [] => some []
  | t :: r => match trG T n t, go n r with
    | some a, some b => some (a :: b)
    | _, _ => none
def isTup : Expr → Bool
  | .Tuple .. => true
  | _ => false
end DL

/-! DL16: the translation of expressions. -/
namespace DL
open PySem PySem.Spec PyProof.Rows L2
def isRangeCall : Expr → Option Expr
  | .Call (.Name x _) [a] [] _ => if x = "range" ∧ noStar a = true then some a else none
  | _ => none
def notSet : Expr → Bool
  | .Set .. => false
  | _ => true
def isSlice : Expr → Bool
  | .Slice .. => true
  | _ => false
def trCall (w : Bool) (T : TC) (f : Expr → Ex) (x : Str) (args : List Expr) : Ex :=
  if glB T.nm x && goodN x && args.all noStar then
    if T.fns.contains x then (if w then .nev else .call x (trL f args))
    else if T.mks.contains x then (if w then .nev else .mk x (trL f args))
    else if x = "isinstance" then match args with
      | [e, .Name y _] => if glB T.nm y && goodN y then (if T.exs.contains y then .isx (f e) y else match tyOfName y with
        | some t => .isi (f e) t
        | none => .nev) else .nev
      | _ => .nev
    else match w, bfOf x args.length, args with
      | false, some b, e :: es => .bf b (trL f (e :: es))
      | _, _, _ => .nev
  else .nev
def trMeth (w : Bool) (T : TC) (f : Expr → Ex) (o : Expr) (m : Str) (ap pos : Pos) (args : List Expr) : Ex :=
  if baseB o && (ap.endLine == pos.line) && args.all noStar && decide (args.length < 30) then match T.mts.contains m && !w, bmOf m args.length with
    | true, some b => .alt (.meth (f o) m (trL f args)) (.bm b (f o) (trL f args))
    | true, none => .meth (f o) m (trL f args)
    | false, some b => .bm b (f o) (trL f args)
    | false, none => .nev
  else .nev
def compT (T : TC) (tg it : Expr) (ifs : List Expr) (sc : Scope) : Option Tg := match trG { T with nm := sc.names } 9 tg with
  | some t => if blkB T sc && (tgSlots t).all (fun i => ((ownOf T.N sc.names).map (·.2)).contains i) && decide (ifs.length ≤ 1) && ifs.all (fun e => !isIf e) && notSet it then some t else none
  | none => none
def trComp (T : TC) (f g : Expr → Ex) (elt tg it : Expr) (ifs : List Expr) (sc : Scope) : Ex := match compT T tg it ifs sc with
  | some t => .comp (g elt) ((ownOf T.N sc.names).map (·.2)) t (trIt T f (isTup tg) it) (trL g ifs)
  | none => .nev
/-- keys and values by turns -/
def interl : List (Option Expr) → List Expr → List Expr
  | some k :: ks, v :: vs => k :: v :: interl ks vs
  | _, _ => []
def dctOk (ks : List (Option Expr)) (vs : List Expr) : Bool := ks.all (·.isSome) && decide (ks.length = vs.length) && !ks.isEmpty && decide (ks.length ≤ 15)
def trDct (f : Expr → Ex) (ks : List (Option Expr)) (vs : List Expr) : Ex := if dctOk ks vs then .alt (.dct (trL f (interl ks vs)) true) (.dct (trL f (interl ks vs)) false) else .nev
def trE (w : Bool) : Nat → TC → Expr → Ex
  | 0, _, _ => .nev
  | n + 1, T, e => match e with
    | .Name x _ => if goodN x then (if visB T.nm x then (match slot T.N x with
        | some i => .var i
        | none => .nev) else if glB T.nm x then .glo x else .nev) else .nev
    | .Constant .none _ _ => .cst .non
    | .Constant (.bool b) _ _ => .cst (.bl b)
    | .Constant (.int i) _ _ => .cst (.int i)
    | .Constant (.str x) _ _ => .cst (.str x)
    | .Tuple es _ _ => if es.all noStar then .tup (trL (trE w n T) es) else .nev
    | .List es _ => if es.all noStar then .lst (trL (trE w n T) es) else .nev
    | .Dict [] [] _ => .dnew
    | .Dict (k :: ks) vs _ => trDct (trE w n T) (k :: ks) vs
    | .BinOp a op b _ => if opOk op then .bin op (trE w n T a) (trE w n T b) else .nev
    | .UnaryOp .Not a _ => if isIf a then .nev else .notE (trE w n T a)
    | .UnaryOp .USub a _ => .neg (trE w n T a)
    | .UnaryOp .Invert a _ => .inv (trE w n T a)
    | .Compare l [o] [r] _ => if behindInMarks o r then .nev else .cmp o (trE w n T l) (trE w n T r)
    | .Compare l [o, o'] [r, r'] _ => if lastMarks [o, o'] [r, r'] then .nev else .cmp2 o o' (trE w n T l) (trE w n T r) (trE w n T r')
    | .BoolOp o es _ => if es.all (fun e => !isIf e) then trB (trE w n T) o es else .nev
    | .IfExp c a b _ => if isIf c then .nev else .ite (trE w n T c) (trE w n T a) (trE w n T b)
    | .Attribute o f _ => if baseB o then .fld (trE w n T o) f else .nev
    | .Subscript a (.Slice lo hi none _) _ => .slc (trE w n T a) (trO (trE w n T) lo) (trO (trE w n T) hi)
    | .Subscript a i _ => if isSlice i then .nev else .sub (trE w n T a) (trE w n T i)
    | .Call (.Name x _) args [] _ => match w, x == ("list" : Str), args with
      | false, true, [a] => (match isRangeCall a with
        | some b => if glB T.nm "list" && glB T.nm "range" then .lrg (trE w n T b) else .nev
        | none => trCall w T (trE w n T) x args)
      | _, _, _ => trCall w T (trE w n T) x args
    | .Call (.Attribute o m ap) args [] pos => trMeth w T (trE w n T) o m ap pos args
    | .ListComp elt [⟨tg, it, ifs, 0⟩] sc _ => if w then .nev else trComp T (trE w n T) (trE w n { T with nm := sc.names }) elt tg it ifs sc
    | _ => .nev
structure XB (w : Bool) (Γ : GE) (T : TC) (k : Nat) (X : Cx) : Prop where
  w_ : XOw Γ T.nm T.N k X
  c_ : w = false → XOk Γ T.nm T.N k X
section
variable {Γ : GE} {k : Nat} {X : Cx} {w : Bool} {T : TC}
theorem d_nev {e : Expr} : dE X e (wE Γ .nev) := ⟨fun pins s σ H Q I h => by
  obtain ⟨ρ, S, Φ, K, E, r, p, tk, h, fin⟩ := h
  simp only [wE] at h⟩
theorem t_nev {e : Expr} : dT X e (wT Γ .nev) := ⟨fun pins s σ H Q I h => by
  obtain ⟨ρ, S, Φ, K, E, r, p, tk, h, fin⟩ := h
  simp only [wT, wE] at h⟩
theorem pw_nev {e : Expr} : PW X e (lT X (wT Γ .nev)) := ⟨fun wh pins s σ H Q I h => by
  obtain ⟨ρ, S, Φ, K, E, r, p, tk, h, fin⟩ := h
  simp only [wT, wE] at h⟩
theorem d_alt {e : Expr} {a b : Ex} (ha : dE X e (wE Γ a)) (hb : dE X e (wE Γ b)) : dE X e (wE Γ (.alt a b)) := ⟨fun pins s σ H Q I h => by
  obtain ⟨ρ, S, Φ, K, E, r, p, tk, h, fin⟩ := h
  simp only [wE] at h
  rcases h with h | h
  · exact ha.run pins s σ H Q I ⟨ρ, S, Φ, K, E, r, p, tk, h, fin⟩
  · exact hb.run pins s σ H Q I ⟨ρ, S, Φ, K, E, r, p, tk, h, fin⟩⟩
theorem d_dnew {pos : Pos} : dE X (.Dict [] [] pos) (wE Γ .dnew) := ⟨fun pins s σ H Q I h => by
  obtain ⟨ρ, S, Φ, K, E, r, p, tk, h, fin⟩ := h
  simp only [wE] at h
  have nw : ∀ {o : HO} {m : MO} {q : Addr}, H q = none → MRep (upd H q o) q m → Rr ρ (put S q m) σ (upd H q o) ∧ TP.p Φ (upd H q o) := fun {o m q} hq hm =>
    ⟨⟨r.len, fun i d e => let ⟨v, h1, h2⟩ := r.at_ i d e; ⟨v, h1, h2.mono (Tm.upd_new hq)⟩, r.st.new hq hm⟩, Φ.mono (Tm.upd_new hq) p⟩
  rcases h with h | h
  · refine pe_dnewT.run pins s σ H Q I fun q hq => ?_
    obtain ⟨r', p'⟩ := nw (o := .dT []) (m := .dct false true []) hq ⟨_, upd_same, .nil⟩
    exact fin (.ref q) _ _ _ r' p' (by simp only [Rep]) (h q (r.st.free hq))
  · refine pe_dnewK.run pins s σ H Q I fun q hq => ?_
    obtain ⟨r', p'⟩ := nw (o := .dK []) (m := .dct false false []) hq ⟨_, upd_same, .nil⟩
    exact fin (.ref q) _ _ _ r' p' (by simp only [Rep]) (h q (r.st.free hq))⟩
theorem d_list {f : Expr → Ex} : ∀ {es : List Expr}, (∀ e ∈ es, dE X e (wE Γ (f e))) → es.all noStar = true → dEs X es (wEs Γ (trL f es))
  | [], _, _ => d_nil
  | e :: es, h, hs => by
    rw [List.all_cons, Bool.and_eq_true] at hs
    exact d_cons (h e List.mem_cons_self) (d_list (fun x hx => h x (List.mem_cons_of_mem _ hx)) hs.2) (star_cons hs.1)
theorem o_tr {f : Expr → Ex} {o : Option Expr} (h : ∀ e, o = some e → dE X e (wE Γ (f e))) : PO X o (lO X (wO Γ (trO f o))) := by
  cases o with
  | none => exact o_none
  | some e => exact o_some (h e rfl)
theorem d_bool {f : Expr → Ex} {o : BoolOp} {pos : Pos} : ∀ {es : List Expr}, (∀ e ∈ es, dE X e (wE Γ (f e))) → dE X (.BoolOp o es pos) (wE Γ (trB f o es))
  | [], _ => d_nev
  | [a], h => by cases o <;> exact pe_one (h a List.mem_cons_self)
  | a :: b :: r, h => by
    have ih := d_bool (f := f) (o := o) (pos := pos) (es := b :: r) fun x hx => h x (List.mem_cons_of_mem _ hx)
    cases o with
    | And => exact d_and (h a List.mem_cons_self) ih
    | Or => exact d_or (h a List.mem_cons_self) ih
theorem t_bool {f : Expr → Ex} {o : BoolOp} {pos : Pos} : ∀ {es : List Expr}, (∀ e ∈ es, dT X e (wT Γ (f e))) → PW X (.BoolOp o es pos) (lT X (wT Γ (trB f o es)))
  | [], _ => pw_nev
  | [a], h => by
    cases o with
    | And => exact pw_and1 (h a List.mem_cons_self)
    | Or => exact pw_or1 (h a List.mem_cons_self)
  | a :: b :: r, h => by
    have ih := t_bool (f := f) (o := o) (pos := pos) (es := b :: r) fun x hx => h x (List.mem_cons_of_mem _ hx)
    cases o with
    | And => exact t_and (h a List.mem_cons_self) ih
    | Or => exact t_or (h a List.mem_cons_self) ih
theorem d_binop {a b : Expr} {ca cb : Ex} {op : Operator} {pos : Pos} (ho : opOk op = true) (ha : dE X a (wE Γ ca)) (hb : dE X b (wE Γ cb)) : dE X (.BinOp a op b pos) (wE Γ (.bin op ca cb)) := by
  cases op with
  | Add => exact d_op op_addD sv_add ha hb
  | Sub => exact d_op op_sub sv_sub ha hb
  | Mult => exact d_op op_mulD sv_mul ha hb
  | FloorDiv => exact d_op op_fdivW sv_fdiv ha hb
  | Mod => exact d_op op_mod sv_mod ha hb
  | Pow => exact d_op op_pow sv_pow ha hb
  | LShift => exact d_op op_shl sv_shl ha hb
  | RShift => exact d_op op_shr sv_shr ha hb
  | BitAnd => exact d_op op_and sv_and ha hb
  | BitOr => exact d_op op_or sv_or ha hb
  | _ => cases ho
end
end DL

/-! DL17: the translation of expressions is sound. -/
namespace DL
open PySem PySem.Spec PyProof.Rows L2
theorem an {a b : Bool} (h : (a && b) = true) : a = true ∧ b = true := Bool.and_eq_true_iff.mp h
section
variable {Γ : GE} {k : Nat} {X : Cx} {w : Bool} {T : TC}
theorem trL_nil {f : Expr → Ex} : trL f [] = [] := rfl
theorem tyOfName_ok {x : Str} {t : String} (h : tyOfName x = some t) : bootBuiltins x = some (.type t) ∧ bltB x = true ∧ x ≠ "__name__" ∧ (x == ("__debug__" : Str)) = false ∧ tyName t = true := by
  have key : ∀ p ∈ ([("int", "int"), ("bool", "bool"), ("str", "str"), ("list", "list"), ("tuple", "tuple"), ("dict", "dict")] : List (Str × String)), bootBuiltins p.1 = some (.type p.2) ∧ bltB p.1 = true ∧ p.1 ≠ "__name__" ∧ (p.1 == ("__debug__" : Str)) = false ∧ tyName p.2 = true := by
    intro p hp
    simp only [List.mem_cons, List.not_mem_nil, or_false] at hp
    rcases hp with rfl | rfl | rfl | rfl | rfl | rfl <;> exact ⟨rfl, by decide +kernel, by decide +kernel, by decide +kernel, by decide +kernel⟩
  unfold tyOfName at h
  by_cases h1 : x = "int"
  · rw [if_pos h1] at h; cases h; subst h1; exact key ("int", "int") (by simp)
  rw [if_neg h1] at h
  by_cases h2 : x = "bool"
  · rw [if_pos h2] at h; cases h; subst h2; exact key ("bool", "bool") (by simp)
  rw [if_neg h2] at h
  by_cases h3 : x = "str"
  · rw [if_pos h3] at h; cases h; subst h3; exact key ("str", "str") (by simp)
  rw [if_neg h3] at h
  by_cases h4 : x = "list"
  · rw [if_pos h4] at h; cases h; subst h4; exact key ("list", "list") (by simp)
  rw [if_neg h4] at h
  by_cases h5 : x = "tuple"
  · rw [if_pos h5] at h; cases h; subst h5; exact key ("tuple", "tuple") (by simp)
  rw [if_neg h5] at h
  by_cases h6 : x = "dict"
  · rw [if_pos h6] at h; cases h; subst h6; exact key ("dict", "dict") (by simp)
  rw [if_neg h6] at h; cases h
theorem trCall_ok (B : XB w Γ T k X) {f : Expr → Ex} {x : Str} {pp pos : Pos} {args : List Expr} (h : ∀ e ∈ args, dE X e (wE Γ (f e))) : dE X (.Call (.Name x pp) args [] pos) (wE Γ (trCall w T f x args)) := by
  unfold trCall
  split
  · rename_i hc
    obtain ⟨hc, hs⟩ := an hc
    obtain ⟨hg, hgood⟩ := an hc
    obtain ⟨hd, hcd, hnn⟩ := goodN_ok hgood
    split
    · cases w with
      | true => exact d_nev
      | false =>
        rw [if_neg Bool.false_ne_true]
        cases args with
        | nil => exact d_call0 (B.c_ rfl) hg hd
        | cons e es => exact d_call (B.c_ rfl) hg hd hs (d_list h hs)
    split
    · cases w with
      | true => exact d_nev
      | false =>
        rw [if_neg Bool.false_ne_true]
        cases args with
        | nil => exact d_mk0 (B.c_ rfl) hg hd
        | cons e es => exact d_mk (B.c_ rfl) hg hd hs (d_list h hs)
    split
    · rename_i hx
      subst hx
      split
      · rename_i e y p2
        split
        · rename_i hy
          obtain ⟨hy1, hy2⟩ := an hy
          obtain ⟨hyd, _, hyn⟩ := goodN_ok hy2
          have hse : noStar e = true := by rw [List.all_cons, Bool.and_eq_true] at hs; exact hs.1
          split
          · exact d_isx B.w_ hg hy1 hyd hse (h e List.mem_cons_self)
          · split
            · rename_i t ht
              obtain ⟨q1, q2, q3, q4, q5⟩ := tyOfName_ok ht
              exact d_isi B.w_ hg hy1 q1 q2 q3 q4 q5 hse (h e List.mem_cons_self)
            · exact d_nev
        · exact d_nev
      · exact d_nev
    · split
      · rename_i b e es hb
        obtain ⟨c, r, hbc, hcx⟩ := bfOf_ok hb X
        subst hcx
        exact d_bf (B.c_ rfl) hbc hg hs (d_list h hs)
      · exact d_nev
  · exact d_nev
theorem trMeth_ok (B : XB w Γ T k X) {f : Expr → Ex} {o : Expr} {m : Str} {ap pos : Pos} {args : List Expr} (ho : dE X o (wE Γ (f o))) (h : ∀ e ∈ args, dE X e (wE Γ (f e))) : dE X (.Call (.Attribute o m ap) args [] pos) (wE Γ (trMeth w T f o m ap pos args)) := by
  unfold trMeth
  split
  · rename_i hc
    obtain ⟨hc, hf⟩ := an hc
    obtain ⟨hc, hs⟩ := an hc
    obtain ⟨hb, hl⟩ := an hc
    have hf' : args.length < 30 := of_decide_eq_true hf
    have mt : w = false → dE X (.Call (.Attribute o m ap) args [] pos) (wE Γ (.meth (f o) m (trL f args))) := fun hw => by
      cases args with
      | nil => exact d_meth0 (B.c_ hw) ho (baseB_ok hb) hl
      | cons e es => exact d_meth (B.c_ hw) ho (baseB_ok hb) hl hs hf' (d_list h hs)
    have bm : ∀ b, bmOf m args.length = some b → dE X (.Call (.Attribute o m ap) args [] pos) (wE Γ (.bm b (f o) (trL f args))) := fun b hb2 => by
      obtain ⟨c, r, hbc, hcx⟩ := bmOf_ok hb2 X
      subst hcx
      cases args with
      | nil => exact d_bm0 hbc ho (baseB_ok hb) hl
      | cons e es => exact d_bm hbc ho (baseB_ok hb) hl hs hf' (d_list h hs)
    split
    · rename_i b h1 h2
      exact d_alt (mt (by simpa using (an h1).2)) (bm b h2)
    · rename_i h1 h2
      exact mt (by simpa using (an h1).2)
    · rename_i b h1 h2
      exact bm b h2
    · exact d_nev
  · exact d_nev
theorem trG_ok (C : XOk Γ T.nm T.N k X) : ∀ (n : Nat) (e : Expr) (c : Tg), trG T n e = some c → dG X e c
  | 0, _, _, h => by unfold trG at h; cases h
  | n + 1, e, c, h => by
    have go : ∀ (es : List Expr) (cs : List Tg), trG.go T n es = some cs → (∀ e ∈ es, tgOk e = true) → dGs X es cs := by
      intro es
      induction es with
      | nil => intro cs h _; unfold trG.go at h; cases h; exact gs_nil
      | cons e es ih =>
        intro cs h ht
        unfold trG.go at h
        split at h
        · rename_i a b h1 h2
          cases h
          exact gs_cons (trG_ok C n e a h1) (ih b h2 fun x hx => ht x (List.mem_cons_of_mem _ hx)) (assignEach_cons (ht e List.mem_cons_self))
        · cases h
    have len : ∀ (es : List Expr) (cs : List Tg), trG.go T n es = some cs → es.length = cs.length := by
      intro es
      induction es with
      | nil => intro cs h; unfold trG.go at h; cases h; rfl
      | cons e es ih =>
        intro cs h
        unfold trG.go at h
        split at h
        · rename_i a b h1 h2
          cases h
          simp [ih b h2]
        · cases h
    cases e with
    | Name x pos =>
      unfold trG at h
      split at h
      · rename_i hl
        cases e2 : slot T.N x with
        | none => rw [e2] at h; cases h
        | some i => rw [e2] at h; cases h; exact g_nm C.n (slot_ok e2) hl
      · cases h
    | Tuple ts kk pos =>
      unfold trG at h
      split at h
      · rename_i ht
        cases e2 : trG.go T n ts with
        | none => rw [e2] at h; cases h
        | some cs =>
          rw [e2] at h; cases h
          obtain ⟨l1, l2⟩ := assignEach_len (env := X.env) ht
          exact g_tup C.calm (go ts cs e2 fun x hx => List.all_eq_true.mp ht x hx) (len ts cs e2) l1 l2
      · cases h
    | _ => unfold trG at h; cases h
/-- the iterables that stand for themselves -/
def plainIt : Ex → Bool
  | .range1 _ => false
  | .range2 _ _ => false
  | .enum _ => false
  | .zip _ _ => false
  | .revd _ => false
  | _ => true
theorem wI_plain {c : Ex} (h : plainIt c = true) : wI Γ c = fun ρ S K E => wE Γ c ρ S (fun x S1 => wIter x S1 K) E := by
  cases c <;> first | (cases h; done) | (funext ρ S K E; simp only [wI])
theorem i_plain {tg e : Expr} {c : Ex} (h : plainIt c = true) (he : dE X e (wE Γ c)) : dI X tg e (wI Γ c) := by
  rw [wI_plain h]; exact i_any he
theorem trIt_ok (C : XOk Γ T.nm T.N k X) {f : Expr → Ex} {tg it : Expr} (hp : ∀ e, plainIt (f e) = true) (h : ∀ e, dE X e (wE Γ (f e))) : dI X tg it (wI Γ (trIt T f (isTup tg) it)) := by
  have fb : dI X tg it (wI Γ (f it)) := i_plain (hp it) (h it)
  unfold trIt
  split
  · rename_i x p args kws pos
    split
    · rename_i a hg
      split
      · rename_i hx
        obtain ⟨rfl, hs⟩ := hx
        exact i_range1 C hg hs (h a)
      split
      · rename_i hx
        obtain ⟨rfl, hs, ht⟩ := hx
        cases tg with
        | Tuple elts kk tp => exact i_enum C hg hs (h a)
        | _ => cases ht
      split
      · rename_i hx
        obtain ⟨rfl, hs⟩ := hx
        exact i_revd C hg hs (h a)
      · exact fb
    · rename_i a b hg
      split
      · rename_i hx
        obtain ⟨rfl, hs, hs2⟩ := hx
        exact i_range2 C hg hs hs2 (h a) (h b)
      split
      · rename_i hx
        obtain ⟨rfl, hs, hs2, ht⟩ := hx
        cases tg with
        | Tuple elts kk tp => exact i_zip C hg hs hs2 (h a) (h b)
        | _ => cases ht
      · exact fb
    · exact fb
  · exact fb
theorem blkB_ok (C : XOw Γ T.nm T.N k X) {sc : Scope} (h : blkB T sc = true) : BlkOk X.N X.env.scope sc (ownOf T.N sc.names) := by
  unfold blkB at h
  obtain ⟨h, h4⟩ := an h
  obtain ⟨h, h3⟩ := an h
  obtain ⟨h1, h2⟩ := an h
  refine ⟨of_decide_eq_true h1, fun y hy => of_decide_eq_true (List.all_eq_true.mp h2 y hy), fun p hp => ?_, fun y hy hk => ?_, fun y hy hk => ?_⟩
  · unfold ownOf at hp
    rw [List.mem_filterMap] at hp
    obtain ⟨y, _, e⟩ := hp
    split at e
    · cases e2 : slot T.N y.1 with
      | none => rw [e2] at e; cases e
      | some i => rw [e2] at e; cases e; rw [C.n.n]; exact slot_ok e2
    · cases e
  · have q := List.all_eq_true.mp h3 y hy
    simp only [Bool.or_eq_true, decide_eq_true_eq, hk, ne_eq, not_true_eq_false, false_or] at q
    rcases q with q | q
    · obtain ⟨k', h5, h6⟩ := C.n.look _ _ q
      rcases h6 with rfl | ⟨z, _⟩
      · exact .inl h5
      · cases z
    · obtain ⟨k', h5, h6⟩ := C.n.look _ _ q
      rcases h6 with rfl | ⟨_, rfl⟩
      · exact .inr h5
      · exact .inl h5
  · have q := List.all_eq_true.mp h4 y hy
    simp only [Bool.or_eq_true, Bool.not_eq_true', List.contains_eq_mem, decide_eq_true_eq, Bool.or_eq_false_iff, decide_eq_false_iff_not] at q
    rcases q with (q | q) | q
    · exact absurd hk (by rintro (z | z); exact q.1 z; exact q.2 z)
    · exact .inl q
    · exact .inr (by rw [C.n.n]; exact q)
end
end DL

/-! DL18: .. the theorem. -/
namespace DL
open PySem PySem.Spec PyProof.Rows L2
section
variable {Γ : GE} {k : Nat} {X : Cx} {w : Bool} {T : TC}
theorem plain_call {f : Expr → Ex} {x : Str} {args : List Expr} : plainIt (trCall w T f x args) = true := by
  unfold trCall
  repeat' split
  all_goals rfl
theorem plain_meth {f : Expr → Ex} {o : Expr} {m : Str} {ap pos : Pos} {args : List Expr} : plainIt (trMeth w T f o m ap pos args) = true := by
  unfold trMeth
  repeat' split
  all_goals rfl
theorem plain_comp {f g : Expr → Ex} {elt tg it : Expr} {ifs : List Expr} {sc : Scope} : plainIt (trComp T f g elt tg it ifs sc) = true := by
  unfold trComp
  repeat' split
  all_goals rfl
theorem plain_dct {f : Expr → Ex} {ks : List (Option Expr)} {vs : List Expr} : plainIt (trDct f ks vs) = true := by
  unfold trDct
  split <;> rfl
theorem plain_bool {f : Expr → Ex} (h : ∀ e, plainIt (f e) = true) {o : BoolOp} : ∀ es : List Expr, plainIt (trB f o es) = true
  | [] => rfl
  | [a] => h a
  | a :: b :: r => by cases o <;> rfl
theorem plain_trE : ∀ (n : Nat) (T : TC) (e : Expr), plainIt (trE w n T e) = true
  | 0, _, _ => rfl
  | n + 1, T, e => by
    have ih : ∀ e, plainIt (trE w n T e) = true := plain_trE n T
    unfold trE
    split <;> first
      | rfl
      | exact plain_meth
      | exact plain_dct
      | (repeat' split
         all_goals first
          | rfl
          | exact plain_call
          | exact plain_comp
          | exact plain_bool ih _)
theorem t_of {e : Expr} {c : Ex} (ha : dE X e (wE Γ c)) (he : ∀ whole, isTrue e X.env whole = (do let v ← whole; standAt e.pos; holding [v] (truthy v))) : dT X e (wT Γ c) := t_val ha he
theorem d_lrg (C : XOk Γ T.nm T.N k X) {a : Expr} {c : Ex} {p p2 pos pos2 : Pos} (hg : glB T.nm "list" = true) (hg2 : glB T.nm "range" = true) (hs : noStar a = true) (ha : dE X a (wE Γ c)) :
    dE X (.Call (.Name "list" p) [.Call (.Name "range" p2) [a] [] pos2] [] pos) (wE Γ (.lrg c)) := by
  refine (pe_listRg C.calm (C.n.gl hg) (C.g.blt "list" (by decide +kernel)) (prg_1 (C.n.gl hg2) (C.g.blt "range" (by decide +kernel)) ha (star_cons hs)) rfl).imp fun σ H Q h => ?_
  obtain ⟨ρ, S, Φ, K, E, r, p, tk, h, fin⟩ := h
  simp only [wE] at h
  refine lE.go r p tk h fun d S1 v H1 r1 p1 rp1 tk1 p1' k1 => ?_
  cases d with
  | int j =>
    cases repInt rp1
    obtain ⟨h1, h2, k1⟩ := k1
    refine ⟨j, rfl, RgOk.of_le (by omega) h1 (by omega) h2, fun q hq => ?_⟩
    have hr : Reps H1 (rangeD 0 j.toNat) (rgV 0 j) := by
      unfold rangeD rgV
      rw [show (j - 0).toNat = j.toNat by omega]
      have key : ∀ l : List Nat, Reps H1 (l.map fun (k : Nat) => D.int (0 + k)) (l.map fun i => V.int (0 + (i : Nat))) := by
        intro l
        induction l with
        | nil => exact Reps.nil
        | cons a l ih => exact Reps.cons (by simp only [Rep]) ih
      exact key _
    exact fin_new r1 p1 hr k1 fin hq
  | _ => exact k1.elim
theorem folded_ok {e : Expr} {env : Env} (h : notSet e = true) : ∀ x, foldedSetIterable e env x = pure x := by
  intro x
  cases e <;> first | rfl | cases h
theorem compT_ok (C : XOk Γ T.nm T.N k X) {tg it : Expr} {ifs : List Expr} {sc : Scope} {t : Tg} (h : compT T tg it ifs sc = some t) : BlkOk X.N X.env.scope sc (ownOf T.N sc.names) ∧ (∀ Y, XOk Γ sc.names T.N k Y → dG Y tg t) ∧
    (∀ g : Expr → Ex, (∀ Y, XOk Γ sc.names T.N k Y → ∀ e, dE Y e (wE Γ (g e)) ∧ (isIf e = false → dT Y e (wT Γ (g e)))) → ∀ Y, XOk Γ sc.names T.N k Y → dTs Y Γ ifs (trL g ifs)) ∧ (∀ x, foldedSetIterable it X.env x = pure x) ∧ (∀ i ∈ tgSlots t, i ∈ (ownOf T.N sc.names).map (·.2)) := by
  unfold compT at h
  split at h
  · rename_i t' ht
    split at h
    · rename_i hc
      cases h
      obtain ⟨hc, h5⟩ := an hc
      obtain ⟨hc, h4⟩ := an hc
      obtain ⟨hc, h3⟩ := an hc
      obtain ⟨h1, h2⟩ := an hc
      refine ⟨blkB_ok C.toXOw h1, fun Y CY => trG_ok (T := { T with nm := sc.names }) CY 9 tg t ht, fun g hg Y CY => ?_, folded_ok h5, fun i hi => ?_⟩
      · match ifs, h3, h4 with
        | [], _, _ => exact ts_nil
        | [c], _, h4 =>
          refine ts_one ((hg Y CY c).2 ?_)
          simpa using h4
        | _ :: _ :: _, h3, _ => simp at h3
      · have q := List.all_eq_true.mp h2 i hi
        simpa using q
    · cases h
  · cases h
theorem trComp_ok (C : XOk Γ T.nm T.N k X) {f g : Expr → Ex} {elt tg it : Expr} {ifs : List Expr} {sc : Scope} {pos : Pos} (hp : ∀ e, plainIt (f e) = true) (hf : ∀ e, dE X e (wE Γ (f e)))
    (hg : ∀ Y, XOk Γ sc.names T.N k Y → ∀ e, dE Y e (wE Γ (g e)) ∧ (isIf e = false → dT Y e (wT Γ (g e)))) : dE X (.ListComp elt [⟨tg, it, ifs, 0⟩] sc pos) (wE Γ (trComp T f g elt tg it ifs sc)) := by
  unfold trComp
  split
  · rename_i t ht
    obtain ⟨h1, h2, h3, h4, h5⟩ := compT_ok C ht
    exact d_comp C h1 (trIt_ok C hp hf) h2 (h3 g hg) (fun Y CY => (hg Y CY elt).1) h4 h5
  · exact d_nev
theorem keyT_all {H : Hp} {d : D} {v : V} (h : Rep H d v) (e : (keyT d).isSome = true) : ∃ ks b, d = kDs ks ∧ v = .ref b ∧ H b = some (.tup (ks.map kV)) := by
  cases d with
  | tup ds =>
    obtain ⟨b, ws, rfl, hb, hr⟩ := repTup h
    cases e2 : keyKs ds with
    | none => simp only [keyT, e2] at e; cases e
    | some ks =>
      obtain ⟨rfl, rfl⟩ := keyKs_rep hr e2
      exact ⟨ks, b, rfl, rfl, hb⟩
  | _ => simp [keyT] at e
theorem pairs_of {f : Expr → Ex} {pos : Pos} (h : ∀ e, dE X e (wE Γ (f e))) : ∀ {ks : List (Option Expr)} {vs : List Expr}, ks.all (·.isSome) = true → ks.length = vs.length → ∃ trs, PPs X pos ks vs trs ∧
    ∀ (ρ : Env') (S : Sto) (σ : L2.St) (H : Hp) (Φ : TP) (Kd : List D → Sto → Prop) (E : KtE) (Q : List (V × V) → Hp → Prop), Rr ρ S σ H → TP.p Φ H → TakesD X Φ ρ σ E → wEs Γ (trL f (interl ks vs)) ρ S Kd E →
      (∀ ds S' ps H', Rr ρ S' σ H' → TP.p Φ H' → Reps H' ds (ps.flatMap fun p => [p.1, p.2]) → Kd ds S' → Q ps H') → tPairs trs σ H Q
  | [], [], _, _ => ⟨[], pps_nil, fun ρ S σ H Φ Kd E Q r p tk w fin => by
      simp only [interl, trL, wEs] at w
      exact fin [] S [] H r p Reps.nil w⟩
  | [], _ :: _, _, hl => by simp at hl
  | _ :: _, [], _, hl => by simp at hl
  | none :: _, _ :: _, ha, _ => by simp at ha
  | some k0 :: ks, v :: vs, ha, hl => by
    obtain ⟨trs, h1, h2⟩ := pairs_of (pos := pos) h (ks := ks) (vs := vs) (by simpa using ha) (by simpa using hl)
    refine ⟨_, pps_cons (h k0) (h v) h1, fun ρ S σ H Φ Kd E Q r p tk w fin => ?_⟩
    simp only [interl, trL, wEs] at w
    refine lE.go r p tk w fun d S1 u H1 r1 p1 rp1 tk1 p1' k1 => ?_
    refine lE.go (Φ := Φ.holdV d u) r1 p1' tk1 k1 fun e S2 z H2 r2 p2 rp2 tk2 p2' k2 => ?_
    exact h2 ρ S2 σ H2 ((Φ.holdV d u).holdV e z) _ E _ r2 p2' tk2 k2 fun ds S3 ps H3 r3 p3 rp3 k3 => fin _ S3 _ H3 r3 p3.1.1 (Reps.cons p3.1.2 (Reps.cons p3.2 rp3)) k3
theorem pairsD_T {H : Hp} : ∀ {ps : List (V × V)} {ds : List D} {kvs : List (D × D)}, Reps H ds (ps.flatMap fun p => [p.1, p.2]) → pairsD true ds = some kvs → ∃ kts : List (List Key × V), TKeys H kts ps ∧ RepT H kvs kts ∧ kts.length = kvs.length
  | [], ds, kvs, r, e => by
    have := r.length
    cases ds with
    | nil => cases e; exact ⟨[], .nil, .nil, rfl⟩
    | cons _ _ => simp at this
  | (u, v) :: ps, ds, kvs, r, e => by
    match ds, r, e with
    | [], r, _ => have := r.length; simp at this
    | [_], r, _ => have := r.length; simp at this
    | d :: g :: ds, r, e =>
      obtain ⟨_, _, e1, h1, r1⟩ := r.cons_inv
      obtain ⟨_, _, e2, h2, r2⟩ := r1.cons_inv
      simp only [List.flatMap_cons, List.cons_append, List.nil_append, List.cons.injEq] at e1
      obtain ⟨rfl, e1⟩ := e1
      rw [← e1] at e2
      simp only [List.cons.injEq] at e2
      obtain ⟨rfl, rfl⟩ := e2
      unfold pairsD at e
      split at e
      · rename_i ps' hk hp
        cases e
        obtain ⟨ks, b, rfl, rfl, hb⟩ := keyT_all h1 (by simpa [keyOk] using hk)
        obtain ⟨kts, t1, t2, t3⟩ := pairsD_T r2 hp
        exact ⟨(ks, v) :: kts, .cons ⟨rfl, b, rfl, hb⟩ t1, .cons ⟨rfl, h2⟩ t2, by simp [t3]⟩
      · cases e
theorem pairsD_K {H : Hp} : ∀ {ps : List (V × V)} {ds : List D} {kvs : List (D × D)}, Reps H ds (ps.flatMap fun p => [p.1, p.2]) → pairsD false ds = some kvs → ∃ kks : List (Key × V), ps = kks.map (fun kv => (kV kv.1, kv.2)) ∧ RepK H kvs kks ∧ kks.length = kvs.length
  | [], ds, kvs, r, e => by
    have := r.length
    cases ds with
    | nil => cases e; exact ⟨[], rfl, .nil, rfl⟩
    | cons _ _ => simp at this
  | (u, v) :: ps, ds, kvs, r, e => by
    match ds, r, e with
    | [], r, _ => have := r.length; simp at this
    | [_], r, _ => have := r.length; simp at this
    | d :: g :: ds, r, e =>
      obtain ⟨_, _, e1, h1, r1⟩ := r.cons_inv
      obtain ⟨_, _, e2, h2, r2⟩ := r1.cons_inv
      simp only [List.flatMap_cons, List.cons_append, List.nil_append, List.cons.injEq] at e1
      obtain ⟨rfl, e1⟩ := e1
      rw [← e1] at e2
      simp only [List.cons.injEq] at e2
      obtain ⟨rfl, rfl⟩ := e2
      unfold pairsD at e
      split at e
      · rename_i ps' hk hp
        cases e
        have hk : (keyK d).isSome = true := by simpa [keyOk] using hk
        cases e3 : keyK d with
        | none => rw [e3] at hk; cases hk
        | some kk =>
          obtain ⟨rfl, rfl⟩ := keyK_rep h1 e3
          obtain ⟨kts, rfl, t2, t3⟩ := pairsD_K r2 hp
          exact ⟨(kk, v) :: kts, rfl, .cons ⟨rfl, h2⟩ t2, by simp [t3]⟩
      · cases e
theorem fold_T {H : Hp} : ∀ {kvs acc : List (D × D)} {kts ak : List (List Key × V)}, RepT H kvs kts → RepT H acc ak → RepT H (kvs.foldl (fun acc q => dput acc q.1 q.2) acc) (kts.foldl (fun acc kv => putK acc kv.1 kv.2) ak)
  | [], _, _, _, .nil, ra => ra
  | (a, b) :: kvs, acc, (ks, v) :: kts, ak, .cons h t, ra => by
    have e : a = kDs ks := h.1
    subst e
    rw [List.foldl_cons, List.foldl_cons]
    exact fold_T t (put_pair (kk := kDs) (fun _ _ => kDs_inj) h.2 ra)
theorem fold_K {H : Hp} : ∀ {kvs acc : List (D × D)} {kts ak : List (Key × V)}, RepK H kvs kts → RepK H acc ak → RepK H (kvs.foldl (fun acc q => dput acc q.1 q.2) acc) (kts.foldl (fun acc kv => putK acc kv.1 kv.2) ak)
  | [], _, _, _, .nil, ra => ra
  | (a, b) :: kvs, acc, (ks, v) :: kts, ak, .cons h t, ra => by
    have e : a = kD ks := h.1
    subst e
    rw [List.foldl_cons, List.foldl_cons]
    exact fold_K t (put_pair (kk := kD) (fun _ _ => kD_inj) h.2 ra)
theorem d_dctT (C : XOw Γ T.nm T.N k X) {f : Expr → Ex} {ks : List (Option Expr)} {vs : List Expr} {pos : Pos} (h : ∀ e, dE X e (wE Γ (f e))) (h1 : ks.all (·.isSome) = true) (h2 : ks.length = vs.length) (h3 : ks ≠ []) (h4 : ks.length ≤ 15) :
    dE X (.Dict ks vs pos) (wE Γ (.dct (trL f (interl ks vs)) true)) := by
  obtain ⟨trs, p1, p2⟩ := pairs_of (pos := pos) h h1 h2
  refine (pe_dispT C.rh.units1 p1 h1 h2 h3 h4).imp fun σ H Q hh => ?_
  obtain ⟨ρ, S, Φ, K, E, r, p, tk, w, fin⟩ := hh
  simp only [wE] at w
  intro q hq
  have r1 : Rr ρ (put S q (.dct false true [])) σ (upd H q (.dT [])) := ⟨r.len, fun i d e => let ⟨v, z1, z2⟩ := r.at_ i d e; ⟨v, z1, z2.mono (Tm.upd_new hq)⟩, r.st.new hq (show MRep _ q (.dct false true []) from ⟨[], upd_same, .nil⟩)⟩
  refine p2 ρ _ σ _ Φ _ E _ r1 (Φ.mono (Tm.upd_new hq) p) tk (w q (r.st.free hq)) fun ds S' ps H' r' p' rp k1 => ?_
  obtain ⟨e1, k1⟩ := k1
  obtain ⟨kts0, h5, h6⟩ := r'.st _ _ e1
  cases h6
  have h5 : H' q = some (.dT []) := h5
  refine ⟨h5, ?_⟩
  cases e2 : pairsD true ds with
  | none => rw [e2] at k1; exact k1.elim
  | some kvs =>
    rw [e2] at k1
    obtain ⟨hl, k1⟩ := k1
    obtain ⟨kts, t1, t2, t3⟩ := pairsD_T rp e2
    have tt : Tm H' (upd H' q (.dT (mergeT [] kts))) := Tm.upd_mut h5 fun _ z => nomatch z
    refine ⟨kts, t1, by omega, fin (.ref q) _ _ _ ⟨r'.len, fun i d e => let ⟨v, z1, z2⟩ := r'.at_ i d e; ⟨v, z1, z2.mono tt⟩, r'.st.write h5 (fun _ z => nomatch z) (show MRep _ q (.dct false true _) from ⟨_, upd_same, (fold_T t2 .nil).mono tt⟩)⟩ (Φ.mono tt p') (by simp only [Rep]) k1⟩
theorem d_dctK (C : XOw Γ T.nm T.N k X) {f : Expr → Ex} {ks : List (Option Expr)} {vs : List Expr} {pos : Pos} (h : ∀ e, dE X e (wE Γ (f e))) (h1 : ks.all (·.isSome) = true) (h2 : ks.length = vs.length) (h3 : ks ≠ []) (h4 : ks.length ≤ 15) :
    dE X (.Dict ks vs pos) (wE Γ (.dct (trL f (interl ks vs)) false)) := by
  obtain ⟨trs, p1, p2⟩ := pairs_of (pos := pos) h h1 h2
  refine (pe_disp p1 h1 h2 h3 h4).imp fun σ H Q hh => ?_
  obtain ⟨ρ, S, Φ, K, E, r, p, tk, w, fin⟩ := hh
  simp only [wE] at w
  intro q hq
  have r1 : Rr ρ (put S q (.dct false false [])) σ (upd H q (.dK [])) := ⟨r.len, fun i d e => let ⟨v, z1, z2⟩ := r.at_ i d e; ⟨v, z1, z2.mono (Tm.upd_new hq)⟩, r.st.new hq (show MRep _ q (.dct false false []) from ⟨[], upd_same, .nil⟩)⟩
  refine p2 ρ _ σ _ Φ _ E _ r1 (Φ.mono (Tm.upd_new hq) p) tk (w q (r.st.free hq)) fun ds S' ps H' r' p' rp k1 => ?_
  obtain ⟨e1, k1⟩ := k1
  obtain ⟨kts0, h5, h6⟩ := r'.st _ _ e1
  cases h6
  have h5 : H' q = some (.dK []) := h5
  refine ⟨h5, ?_⟩
  cases e2 : pairsD false ds with
  | none => rw [e2] at k1; exact k1.elim
  | some kvs =>
    rw [e2] at k1
    obtain ⟨hl, k1⟩ := k1
    obtain ⟨kts, t1, t2, t3⟩ := pairsD_K rp e2
    have tt : Tm H' (upd H' q (.dK (mergeK [] kts))) := Tm.upd_mut h5 fun _ z => nomatch z
    refine ⟨kts, t1, by omega, fin (.ref q) _ _ _ ⟨r'.len, fun i d e => let ⟨v, z1, z2⟩ := r'.at_ i d e; ⟨v, z1, z2.mono tt⟩, r'.st.write h5 (fun _ z => nomatch z) (show MRep _ q (.dct false false _) from ⟨_, upd_same, (fold_K t2 .nil).mono tt⟩)⟩ (Φ.mono tt p') (by simp only [Rep]) k1⟩
theorem trDct_ok (C : XOw Γ T.nm T.N k X) {f : Expr → Ex} {ks : List (Option Expr)} {vs : List Expr} {pos : Pos} (h : ∀ e, dE X e (wE Γ (f e))) : dE X (.Dict ks vs pos) (wE Γ (trDct f ks vs)) := by
  unfold trDct
  split
  · rename_i hc
    obtain ⟨hc, h4⟩ := an hc
    obtain ⟨hc, h3⟩ := an hc
    obtain ⟨h1, h2⟩ := an hc
    have h2 := of_decide_eq_true h2
    have h4 := of_decide_eq_true h4
    have h3 : ks ≠ [] := by intro e; rw [e] at h3; simp at h3
    exact d_alt (d_dctT C h h1 h2 h3 h4) (d_dctK C h h1 h2 h3 h4)
  · exact d_nev
theorem XB.sub {w : Bool} (B : XB w Γ T k X) (Y : Cx) (C : XOk Γ T.nm T.N k Y) : XB w Γ T k Y := ⟨C.toXOw, fun _ => C⟩
theorem tOf {e : Expr} {c : Ex} (de : dE X e (wE Γ c)) (he : ∀ whole, isTrue e X.env whole = (do let v ← whole; standAt e.pos; holding [v] (truthy v))) : dE X e (wE Γ c) ∧ (isIf e = false → dT X e (wT Γ c)) := ⟨de, fun _ => t_val de he⟩
theorem nOf {e : Expr} : dE X e (wE Γ .nev) ∧ (isIf e = false → dT X e (wT Γ .nev)) := ⟨d_nev, fun _ => t_nev⟩
theorem trE_ok : ∀ (n : Nat) (T : TC) (X : Cx), XB w Γ T k X → ∀ e, dE X e (wE Γ (trE w n T e)) ∧ (isIf e = false → dT X e (wT Γ (trE w n T e)))
  | 0, _, _, _, _ => nOf
  | n + 1, T, X, B, e => by
    have ih := fun e => (trE_ok n T X B e).1
    have it := fun e => (trE_ok n T X B e).2
    have C := B.w_
    cases e with
    | Name x pos =>
      refine tOf ?_ fun _ => rfl
      simp only [trE]
      split
      · rename_i hgood
        obtain ⟨hd, hcd, hnn⟩ := goodN_ok hgood
        split
        · rename_i hv
          split
          · rename_i i hi
            exact d_var C (slot_ok hi) hv hd hcd
          · exact d_nev
        · split
          · rename_i hg
            exact d_glo C hg hd
          · exact d_nev
      · exact d_nev
    | Constant c kk pos =>
      refine tOf ?_ fun _ => rfl
      cases c with
      | none => exact d_cst pe_non fun H => by simp only [Rep]
      | bool b => exact d_cst pe_bl fun H => by simp only [Rep]
      | int i => exact d_cst pe_int fun H => by simp only [Rep]
      | str x => exact d_cst pe_str fun H => by simp only [Rep]
      | _ => exact d_nev
    | Tuple es kk pos =>
      refine tOf ?_ fun _ => rfl
      simp only [trE]
      split
      · rename_i hs
        exact d_tup (d_list (fun e _ => ih e) hs)
      · exact d_nev
    | List es pos =>
      refine tOf ?_ fun _ => rfl
      simp only [trE]
      split
      · rename_i hs
        exact d_lst (d_list (fun e _ => ih e) hs)
      · exact d_nev
    | Dict ks vs pos =>
      refine tOf ?_ fun _ => rfl
      cases ks with
      | nil => cases vs with
        | nil => exact d_dnew
        | cons v vs => exact d_nev
      | cons k0 ks => exact trDct_ok C (fun e => ih e)
    | BinOp a op b pos =>
      refine tOf ?_ fun _ => rfl
      simp only [trE]
      split
      · rename_i ho
        exact d_binop ho (ih a) (ih b)
      · exact d_nev
    | UnaryOp op a pos =>
      cases op with
      | Not =>
        simp only [trE]
        split
        · exact nOf
        · rename_i hi
          exact ⟨d_not (ih a), fun _ => t_not (it a (by simpa using hi))⟩
      | USub => exact tOf (d_neg (ih a)) fun _ => rfl
      | Invert => exact tOf (d_inv (ih a)) fun _ => rfl
      | UAdd => exact nOf
    | Compare l ops rs pos =>
      match ops, rs with
      | [o], [r] =>
        simp only [trE]
        split
        · exact nOf
        · rename_i hm
          exact ⟨d_cmp C (ih l) (ih r) (by simpa using hm), fun _ => t_cmp C (ih l) (ih r) (by simpa using hm)⟩
      | [o, o'], [r, r'] =>
        simp only [trE]
        split
        · exact nOf
        · rename_i hm
          exact ⟨d_cmp2 C (ih l) (ih r) (ih r') (by simpa using hm), fun _ => t_cmp2 C (ih l) (ih r) (ih r') (by simpa using hm)⟩
      | [], _ => exact nOf
      | [_], [] => exact nOf
      | [_], _ :: _ :: _ => exact nOf
      | [_, _], [] => exact nOf
      | [_, _], [_] => exact nOf
      | [_, _], _ :: _ :: _ :: _ => exact nOf
      | _ :: _ :: _ :: _, _ => exact nOf
    | BoolOp o es pos =>
      simp only [trE]
      split
      · rename_i hs
        exact ⟨d_bool fun e _ => ih e, fun _ => (t_bool fun e he => it e (by simpa using List.all_eq_true.mp hs e he)).pt⟩
      · exact nOf
    | IfExp c a b pos =>
      refine ⟨?_, fun h => by cases h⟩
      simp only [trE]
      split
      · exact d_nev
      · rename_i hc
        exact d_ite (it c (by simpa using hc)) (ih a) (ih b)
    | Attribute o f pos =>
      refine tOf ?_ fun _ => rfl
      simp only [trE]
      split
      · rename_i hb
        exact d_fld C (ih o) (baseB_ok hb)
      · exact d_nev
    | Subscript a i pos =>
      refine tOf ?_ fun _ => rfl
      have plain : isSlice i = false → dE X (.Subscript a i pos) (wE Γ (.sub (trE w n T a) (trE w n T i))) := fun hi => d_sub C (ih a) (ih i) (by intro o v; cases i <;> first | rfl | cases hi)
      cases i with
      | Slice lo hi st p2 =>
        cases st with
        | none => exact d_slc (ih a) (o_tr fun e _ => ih e) (o_tr fun e _ => ih e)
        | some _ => exact d_nev
      | _ => exact plain rfl
    | Call f args kws pos =>
      refine tOf ?_ fun _ => rfl
      cases kws with
      | cons q qs => cases f <;> exact d_nev
      | nil =>
        cases f with
        | Name x pp =>
          have base : dE X (.Call (.Name x pp) args [] pos) (wE Γ (trCall w T (trE w n T) x args)) := trCall_ok B fun e _ => ih e
          simp only [trE]
          split
          · rename_i a hx
            split
            · rename_i b hb
              split
              · rename_i hg
                obtain ⟨hg1, hg2⟩ := an hg
                have ex : x = "list" := by simpa using hx
                subst ex
                unfold isRangeCall at hb
                split at hb
                · split at hb
                  · rename_i hq
                    cases hb
                    obtain ⟨rfl, hs⟩ := hq
                    exact d_lrg (B.c_ rfl) hg1 hg2 hs (ih _)
                  · cases hb
                · cases hb
              · exact d_nev
            · exact base
          · exact base
        | Attribute o m ap => exact trMeth_ok B (ih o) fun e _ => ih e
        | _ => exact d_nev
    | ListComp elt gens sc pos =>
      refine tOf ?_ fun _ => rfl
      match gens with
      | [⟨tg, itr, ifs, 0⟩] =>
        simp only [trE]
        split
        · exact d_nev
        · rename_i hw
          have hw : w = false := by simpa using hw
          exact trComp_ok (B.c_ hw) (plain_trE n T) ih fun Y CY e => trE_ok n { T with nm := sc.names } Y ⟨CY.toXOw, fun _ => CY⟩ e
      | [] => exact d_nev
      | g1 :: g2 :: r =>
        have e : trE w (n + 1) T (.ListComp elt (g1 :: g2 :: r) sc pos) = .nev := by
          obtain ⟨q1, q2, q3, q4⟩ := g1
          cases q4 with
          | ofNat m => cases m <;> rfl
          | negSucc m => rfl
        rw [e]; exact d_nev
      | [⟨tg, itr, ifs, .ofNat (m + 1)⟩] => exact d_nev
      | [⟨tg, itr, ifs, .negSucc m⟩] => exact d_nev
    | _ => first | exact nOf | exact tOf d_nev fun _ => rfl
end
end DL

/-! DL19: the translation of statements. -/
namespace DL
open PySem PySem.Spec PyProof.Rows L2
/-- the translation's bounds -/
def eF : Nat := 40
def trSet (w : Bool) (T : TC) (tg e : Expr) : Sm := match tg with
  | .Name y py => match slot T.N y with
    | some i => if notComp e then (if locB T.nm y then .asg (.nm i) (trE w eF T e) else .nev) else (match e, w with
      | .ListComp elt [⟨t, it, ifs, 0⟩] sc pos, false => if decide (T.nm.lookup y = some .local) && (py.line == pos.line) && !(sc.names.any fun (n, k) => n == y && (k == .local || k == .cell)) then (match compT T t it ifs sc with
        | some g => .asg (.nm i) (.comp (trE false eF { T with nm := sc.names } elt) ((ownOf T.N sc.names).map (·.2)) g (trIt T (trE false eF T) (isTup t) it) (trL (trE false eF { T with nm := sc.names }) ifs))
        | none => .nev) else if decide (T.nm.lookup y = some .cell) then .asg (.nm i) (trE w eF T (.ListComp elt [⟨t, it, ifs, 0⟩] sc pos)) else .nev
      | _, _ => .nev)
    | none => .nev
  | .Tuple ts kk p => if !w && notComp e && noSwap (.Tuple ts kk p) e then (match trG T 9 (.Tuple ts kk p) with
    | some t => .asg t (trE w eF T e)
    | none => .nev) else .nev
  | .Attribute o f _ => .setFld (trE w eF T o) f (trE w eF T e)
  | .Subscript o i _ => if notComp e && notSlice i then .setSub (trE w eF T o) (trE w eF T i) (trE w eF T e) else .nev
  | _ => .nev
def trSs (f : Stmt → Sm) : List Stmt → List Sm
  | [] => []
  | s :: r => f s :: trSs f r
def trS : Bool → Nat → TC → Stmt → Sm
  | _, 0, _, _ => .nev
  | w, n + 1, T, st => match st with
    | .Expr e _ => if notComp e then .expr (trE w eF T e) else .nev
    | .Assign [tg] e _ => trSet w T tg e
    | .Return none _ => .retN
    | .Return (some e) _ => .ret (trE w eF T e)
    | .If c a b _ => if isIf c then .nev else .ifs (trE w eF T c) (trSs (trS w n T) a) (trSs (trS w n T) b)
    | .For tg it body [] _ => match w, trG T 9 tg with
      | false, some t => if notSet it then .for t (trIt T (trE w eF T) (isTup tg) it) (trSs (trS w n T) body) else .nev
      | _, _ => .nev
    | .While c body [] _ => if w || isIf c then .nev else .while (trE w eF T c) (trSs (trS w n T) body)
    | .Raise (some (.Call (.Name x _) [.Constant (.str _) _ _] [] _)) none _ => if !w && T.rss.contains x && glB T.nm x && goodN x then .raise x else .nev
    | .Try body [.ExceptHandler (some (.Name c _)) (some m) (b :: bs) _] [] [] _ => match w, slot T.N m with
      | false, some i => if T.rss.contains c && glB T.nm c && goodN c && decide (T.nm.lookup m = some .local) then .try (trSs (trS w n T) body) c (some i) (trSs (trS true n T) (b :: bs)) else .nev
      | _, _ => .nev
    | .Try body [.ExceptHandler (some (.Name c _)) none (b :: bs) _] [] [] _ => if !w && T.rss.contains c && glB T.nm c && goodN c then .try (trSs (trS w n T) body) c none (trSs (trS true n T) (b :: bs)) else .nev
    | .Pass _ => .pass
    | .Break _ => .brk
    | .Continue _ => .cont
    | _ => .nev
/-- the context of a statement -/
structure XS (w : Bool) (Γ : GE) (T : TC) (k : Nat) (X : Cx) : Prop extends XB w Γ T k X where
  stk : w = false → X.stack = X.env :: X.outer
  fr : w = false → X.env.frame = some X.env.locals
  ex : w = false → ∀ x, T.rss.contains x = true → Γ.rse x = true
section
variable {Γ : GE} {k : Nat} {X : Cx} {w : Bool} {T : TC}
theorem s_nev {st : Stmt} : dS X st (wS Γ .nev) := ⟨fun pins s σ H Dd I ⟨ρ, S, Φ, N, E, r, p, tk, h, en⟩ => by simp only [wS] at h⟩
theorem s_list {f : Stmt → Sm} : ∀ {ss : List Stmt}, (∀ s ∈ ss, dS X s (wS Γ (f s))) → dSs X ss (wSs Γ (trSs f ss))
  | [], _ => s_nil
  | s :: ss, h => s_cons (h s List.mem_cons_self) (s_list fun x hx => h x (List.mem_cons_of_mem _ hx))
theorem ps_ok {st : Stmt} {t : TS} (h : X.Ok → PS X st t) : PS X st t := ⟨fun pins s σ H Dd I q => (h I.ok).run pins s σ H Dd I q⟩
theorem trSet_ok (B : XB w Γ T k X) {tg e : Expr} {pos : Pos} : dS X (.Assign [tg] e pos) (wS Γ (trSet w T tg e)) := by
  have ie : ∀ e, dE X e (wE Γ (trE w eF T e)) := fun e => (trE_ok eF T X B e).1
  unfold trSet
  split
  · rename_i y py
    split
    · rename_i i hi
      split
      · rename_i hn
        split
        · rename_i hl
          exact s_asg (ie e) (g_nm B.w_.n (slot_ok hi) hl) rfl hn rfl
        · exact s_nev
      · split
        · rename_i elt t it ifs sc pos2 hcm
          split
          · rename_i hc
            obtain ⟨hc, h3⟩ := an hc
            obtain ⟨h1, h2⟩ := an hc
            have C := B.c_ rfl
            split
            · rename_i g hcomp
              obtain ⟨q1, q2, q3, q4, q5⟩ := compT_ok C hcomp
              have hg : ∀ Y, XOk Γ sc.names T.N k Y → ∀ e, dE Y e (wE Γ (trE false eF { T with nm := sc.names } e)) ∧ (isIf e = false → dT Y e (wT Γ (trE false eF { T with nm := sc.names } e))) := fun Y CY e => trE_ok eF { T with nm := sc.names } Y ⟨CY.toXOw, fun _ => CY⟩ e
              exact ps_ok fun ok => s_setLc C (slot_ok hi) (of_decide_eq_true h1) ok.kind h2 (by simpa using h3) q1 (trIt_ok C (plain_trE eF T) ie) q2 (q3 _ hg) (fun Y CY => (hg Y CY elt).1) q4 q5
            · exact s_nev
          · split
            · rename_i hcell
              have C := B.c_ rfl
              have hcell := of_decide_eq_true hcell
              have hk : X.env.kindOf y = some .cell := by
                obtain ⟨k', h1, h2⟩ := C.n.look y _ hcell
                rcases h2 with rfl | ⟨z, _⟩
                · exact h1
                · cases z
              have hl : locB T.nm y = true := by unfold locB; rw [hcell]
              have hsw : swapsWith (.ListComp elt [⟨t, it, ifs, 0⟩] sc pos2) (some (.Name y py)) pos.line X.env = pure false := by
                unfold swapsWith
                simp only [hk]
                rw [show (some NameKind.cell == some NameKind.local) = false from rfl, Bool.and_false, Bool.false_and, Bool.false_and]
              exact s_asgW (ie _) (g_nm B.w_.n (slot_ok hi) hl) rfl hsw rfl
            · exact s_nev
        · exact s_nev
    · exact s_nev
  · rename_i ts kk p
    split
    · rename_i hc
      obtain ⟨hc, h3⟩ := an hc
      obtain ⟨h1, h2⟩ := an hc
      have hw : w = false := by simpa using h1
      split
      · rename_i t ht
        exact s_asg (ie e) (trG_ok (B.c_ hw) 9 _ t ht) rfl h2 h3
      · exact s_nev
    · exact s_nev
  · exact s_setFld B.w_ (ie _) (ie e) (swaps_attr rfl)
  · split
    · rename_i hc
      obtain ⟨h1, h2⟩ := an hc
      exact s_setSub B.w_ (ie _) (ie _) (ie e) h1 h2
    · exact s_nev
  · exact s_nev
theorem rse_ok (B : XS w Γ T k X) (hw : w = false) {x : Str} (h : T.rss.contains x = true) (hn : glB T.nm x = true) : Γ.rse x = true := B.ex hw x h
theorem trS_ok : ∀ (n : Nat) (w : Bool) (Γ : GE) (X : Cx), XS w Γ T k X → ∀ st, dS X st (wS Γ (trS w n T st))
  | 0, _, _, _, _, _ => s_nev
  | n + 1, w, Γ, X, B, st => by
    have ih := fun st => trS_ok n w Γ X B st
    have ie : ∀ e, dE X e (wE Γ (trE w eF T e)) := fun e => (trE_ok eF T X B.toXB e).1
    have it : ∀ e, isIf e = false → dT X e (wT Γ (trE w eF T e)) := fun e => (trE_ok eF T X B.toXB e).2
    unfold trS
    split
    · split
      · rename_i hn
        exact s_expr (ie _) hn
      · exact s_nev
    · exact trSet_ok B.toXB
    · exact s_retN
    · exact s_ret (ie _)
    · split
      · exact s_nev
      · rename_i hc
        exact s_if (it _ (by simpa using hc)) (s_list fun s _ => ih s) (s_list fun s _ => ih s)
    · split
      · rename_i t ht
        split
        · rename_i hs
          have C := B.c_ rfl
          exact s_for C (trIt_ok C (plain_trE eF T) ie) (trG_ok C 9 _ t ht) (s_list fun s _ => ih s) (folded_ok hs)
        · exact s_nev
      · exact s_nev
    · split
      · exact s_nev
      · rename_i hc
        simp only [Bool.or_eq_true, not_or, Bool.not_eq_true] at hc
        exact s_while (B.c_ hc.1) (it _ hc.2) (s_list fun s _ => ih s)
    · split
      · rename_i hc
        obtain ⟨hc, h4⟩ := an hc
        obtain ⟨hc, h3⟩ := an hc
        obtain ⟨h1, h2⟩ := an hc
        have hw : w = false := by simpa using h1
        exact s_raise (B.c_ hw) h3 (goodN_ok h4).1 (rse_ok B hw h2 h3)
      · exact s_nev
    · split
      · rename_i i hi
        split
        · rename_i hc
          obtain ⟨hc, h4⟩ := an hc
          obtain ⟨hc, h3⟩ := an hc
          obtain ⟨h1, h2⟩ := an hc
          refine s_tryAs (B.c_ rfl) (B.stk rfl) (B.fr rfl) (rse_ok B rfl h1 h2) h2 (goodN_ok h3).1 (slot_ok hi) (of_decide_eq_true h4) (fun Y CY e1 e2 => ?_) (fun Γ' Y CY => ?_)
          · exact s_list fun s _ => trS_ok n false Γ Y ⟨⟨CY.toXOw, fun _ => CY⟩, fun _ => e1, fun _ => e2, B.ex⟩ s
          · exact s_list (f := trS true n T) (ss := _ :: _) fun s _ => trS_ok n true Γ' Y ⟨⟨CY, fun z => by cases z⟩, (fun z => by cases z), (fun z => by cases z), fun z => by cases z⟩ s
        · exact s_nev
      · exact s_nev
    · split
      · rename_i hc
        obtain ⟨hc, h3⟩ := an hc
        obtain ⟨hc, h2⟩ := an hc
        obtain ⟨h0, h1⟩ := an hc
        have hw : w = false := by simpa using h0
        subst hw
        refine s_tryOnly (B.c_ rfl) (B.stk rfl) (B.fr rfl) (rse_ok B rfl h1 h2) h2 (goodN_ok h3).1 (fun Y CY e1 e2 => ?_) (fun Γ' Y CY => ?_)
        · exact s_list fun s _ => trS_ok n false Γ Y ⟨⟨CY.toXOw, fun _ => CY⟩, fun _ => e1, fun _ => e2, B.ex⟩ s
        · exact s_list (f := trS true n T) (ss := _ :: _) fun s _ => trS_ok n true Γ' Y ⟨⟨CY, fun z => by cases z⟩, (fun z => by cases z), (fun z => by cases z), fun z => by cases z⟩ s
      · exact s_nev
    · exact s_pass
    · exact s_brk
    · exact s_cont
    · exact s_nev
end
end DL

/-! DL20: defs. -/
namespace DL
open PySem PySem.Spec PyProof.Rows L2
def startD (N : List Str) (ds : List D) : Env' := ds.map some ++ List.replicate (N.length - ds.length) none
theorem Rr.start {N : List Str} {ds : List D} {vs : List V} {S : Sto} {H : Hp} (r : Reps H ds vs) (s : SRep S H) : Rr (startD N ds) S (start N vs) H := by
  refine ⟨by unfold startD L2.start; simp [r.length], fun i d e => ?_, s⟩
  unfold startD at e
  unfold L2.start
  by_cases hi : i < ds.length
  · rw [List.getElem?_append_left (by simpa using hi), List.getElem?_map] at e
    cases e2 : ds[i]? with
    | none => rw [e2] at e; cases e
    | some x =>
      rw [e2] at e; cases e
      obtain ⟨v, h1, h2⟩ := r.get e2
      refine ⟨v, ?_, h2⟩
      rw [List.getElem?_append_left (by simpa [← r.length] using hi), List.getElem?_map, h1]; rfl
  · rw [List.getElem?_append_right (by simpa using hi)] at e
    rw [List.getElem?_replicate] at e
    split at e <;> cases e
/-- the wish at a def's end -/
def endD (Kt_ : Kt) : DE := { nx := fun _ S => Kt_ .non S, rt := Kt_ }
section
variable {P : Program} {w : World} {K : PySem.W.Frag} {mg : Str → Option Value} {base : Heap} {x qual : Str} {params : Arguments} {body : List Stmt} {scope : Scope} {dvs : List V} {kws : List (Str × V)} {f : Addr} {fd : FuncData}
/-- A DEF KEEPS ITS PROMISE -/
theorem fnok {Γ : GE} {T : TC} {ps : List Str} {k : Nat} {fe : FE} {cs : List Sm} (F : FunD K x qual params body scope dvs kws f fd) (S : FnScope T.N ps scope) (hnm : T.nm = scope.names) (hnp : ps.length = fe.np) (G : GOk Γ P w K mg base k) (hv : Γ.exv = none)
    (hr : ∀ x, T.rss.contains x = true → Γ.rse x = true) (htr : trSs (trS false 30 T) body = cs)
    (h : ∀ ds Sx Kx Ex, ds.length = fe.np → fe.sp ds Sx Kx Ex → wSs Γ cs (endD Kx) (fun x _ S' => Ex x S') (startD T.N ds) Sx) : FnOk P w K mg base (L2.CX P w) (k + 1) f fd ps (toSp K fe) := by
  refine F.ok S (fun vs H Q E h => h.1.trans hnp.symm) (fun cdv A outer s H vs Q E hroom hsp => ?_)
  obtain ⟨hl, ds, Sx, Kx, Ex, rp, sr, hs, hk, he⟩ := hsp
  have w' := h ds Sx Kx Ex (rp.length.trans hl) hs
  subst htr
  generalize hX : cxOf (L2.CX P w) P w K mg base T.N qual scope f cdv A outer s H E = X
  have tk : TakesS X (TP.since H) (fun x _ S' => Ex x S') := by
    subst hX
    refine (takes_of rfl rfl rfl rfl).imp fun c d σ' H' ⟨y, ρ, S', e1, e2, r, p, q⟩ => ?_
    subst e1 e2
    exact he y S' H' q r.st p
  have C : XOk Γ T.nm T.N k X := by
    subst hX
    refine ⟨⟨G, ⟨rfl, S.nd, fun y kk e => ⟨kk, by rw [hnm] at e; exact e, .inl rfl⟩, fun _ _ => rfl⟩, ⟨hroom.dp, hroom.un⟩, fun a y e => by rw [hv] at e; cases e⟩, hroom, rfl, hv, passes_of rfl⟩
  have B : XS false Γ T k X := ⟨⟨C.toXOw, fun _ => C⟩, fun _ => by subst hX; rfl, fun _ => by subst hX; rfl, fun _ => hr⟩
  refine ⟨_, s_list (f := trS false 30 T) fun st _ => trS_ok 30 false Γ X B st, ?_⟩
  refine ⟨startD T.N ds, Sx, TP.since H, endD Kx, _, Rr.start rp sr, Tm.refl, tk, w', ⟨fun ρ S' σ H' r p q => hk .non S' .non H' q (by simp only [Rep]) r.st p, fun d S' v H' sr' p rv q => hk d S' v H' q rv sr' p, fun _ _ _ _ _ _ q => q.elim, fun _ _ _ _ _ _ q => q.elim⟩⟩
theorem fnk {Γ : GE} {T : TC} {ps : List Str} {k : Nat} {fe : FE} {cs : List Sm} (F : FunD K x qual params body scope dvs kws f fd) (S : FnScope T.N ps scope) (hnm : T.nm = scope.names) (hnp : ps.length = fe.np) (G : GOk Γ P w K mg base k) (hv : Γ.exv = none)
    (hr : ∀ x, T.rss.contains x = true → Γ.rse x = true) (htr : trSs (trS false 30 T) body = cs)
    (hb : ∀ n, n ≤ fe.np → fe.np - n ≤ fe.df.length → ∃ dvs us, Vals dvs us ∧ (∀ H, Reps H (fe.df.drop (fe.df.length - (fe.np - n))) dvs) ∧ Binds K fd ps us)
    (h : ∀ ds Sx Kx Ex, ds.length = fe.np → fe.sp ds Sx Kx Ex → wSs Γ cs (endD Kx) (fun x _ S' => Ex x S') (startD T.N ds) Sx) : FnK P w K mg base (k + 1) fe f :=
  ⟨⟨fd, ps, fnok F S hnm hnp G hv hr htr h, hnp, hb⟩, F.kp⟩
theorem binds_all {fe : FE} {ps : List Str} (F : FunD K x qual params body scope [] kws f fd) (hnp : ps.length = fe.np) (hdf : fe.df = [])
    (h : ∀ (kV doc pm : Value) (an : Option Addr) (cdv ct : Value) (us : List Value), us.length = ps.length → bindArgs (PySem.W.fnOf x qual params body scope .none kV doc pm an cdv ct) ⟨us, []⟩ = pure (ps.zip us)) :
    ∀ n, n ≤ fe.np → fe.np - n ≤ fe.df.length → ∃ dvs us, Vals dvs us ∧ (∀ H, Reps H (fe.df.drop (fe.df.length - (fe.np - n))) dvs) ∧ Binds K fd ps us := fun n h1 h2 => by
  refine ⟨[], [], .nil, fun H => ?_, F.bindsN h⟩
  rw [hdf]
  simpa using Reps.nil
end
end DL

/-! DL21: a whole program: each def's promise is the reading of its own text, level by level. -/
namespace DL
open PySem PySem.Spec PyProof.Rows L2
/-- a def: parameters, defaults, slots, its text in the small language -/
structure FDef where
  np : Nat
  df : List D := []
  N : List Str
  il : List Sm
/-- a program's tables -/
structure LT where
  fns : List (Str × FDef)
  mks : List (Str × FDef)
  mts : List ((Str × Str) × FDef)
  vals : List (Str × D)
  atts : List (Str × List Str)
  rss : List Str
  exc : List ((Str × Str) × Bool)
def feOf (Γ : GE) (d : FDef) : FE := { np := d.np, df := d.df, sp := fun ds S Kt_ X => wSs Γ d.il (endD Kt_) (fun x _ S' => X x S') (startD d.N ds) S }
/-- the readings at level n -/
def GL (K : PySem.W.Frag) (t : LT) : Nat → GE
  | 0 => { val := fun x => t.vals.lookup x, fn := fun _ => none, cls := fun _ => none, mth := fun _ _ => none, att := fun C f => t.atts.any fun p => decide (He.ga K p.1 = C) && p.2.contains f,
           exc := fun x c => t.exc.lookup (x, c), rse := fun x => t.rss.contains x }
  | n + 1 => { val := fun x => t.vals.lookup x, fn := fun x => (t.fns.lookup x).map (feOf (GL K t n)), cls := fun c => (t.mks.lookup c).map fun d => (He.ga K c, some (feOf (GL K t n) d)),
               mth := fun C m => (t.mts.find? fun p => decide (He.ga K p.1.1 = C) && decide (p.1.2 = m)).map fun p => feOf (GL K t n) p.2,
               att := fun C f => t.atts.any fun p => decide (He.ga K p.1 = C) && p.2.contains f, exc := fun x c => t.exc.lookup (x, c), rse := fun x => t.rss.contains x }
/-- the def at f is this one -/
def DefOk (K : PySem.W.Frag) (t : LT) (d : FDef) (f : Addr) : Prop := ∃ (x qual : Str) (params : Arguments) (body : List Stmt) (scope : Scope) (dvs : List V) (kws : List (Str × V)) (fd : FuncData) (ps : List Str) (T : TC),
  FunD K x qual params body scope dvs kws f fd ∧ FnScope d.N ps scope ∧ ps.length = d.np ∧ T.N = d.N ∧ T.nm = scope.names ∧ (∀ x, T.rss.contains x = true → t.rss.contains x = true) ∧ trSs (trS false 30 T) body = d.il ∧
  ∀ n, n ≤ d.np → d.np - n ≤ d.df.length → ∃ dvs us, Vals dvs us ∧ (∀ H, Reps H (d.df.drop (d.df.length - (d.np - n))) dvs) ∧ Binds K fd ps us
/-- what the heap behind the top says of a program -/
structure LF (t : LT) (K : PySem.W.Frag) (mg : Str → Option Value) : Prop where
  val : ∀ x d, t.vals.lookup x = some d → ∃ u v, mg x = some u ∧ RelV v u ∧ ∀ H, Rep H d v
  fn : ∀ x d, t.fns.lookup x = some d → ∃ f, mg x = some (.ref f) ∧ DefOk K t d f
  cls : ∀ c d, t.mks.lookup c = some d → mg c = some (.ref (He.ga K c)) ∧ ∃ f, Mk K (He.ga K c) f ∧ DefOk K t d f
  mth : ∀ p d, (p, d) ∈ t.mts → Cls K (He.ga K p.1) ∧ ∃ f, Meth K (He.ga K p.1) p.2 f ∧ DefOk K t d f
  att : ∀ p, p ∈ t.atts → Cls K (He.ga K p.1) ∧ ∀ f ∈ p.2, NoAttr K (He.ga K p.1) f
  blt : ∀ x, bltB x = true → mg x = none
  exc : ∀ x C b, t.exc.lookup (x, C) = some b → ExcC K (He.ga K x) ∧ ∃ cv, ((mg C = some cv ∧ cv = .ref (He.ga K C)) ∨ (mg C = none ∧ ∃ n, bootBuiltins C = some (.type n) ∧ cv = .type n ∧ C ≠ "__name__")) ∧ PySem.W.exmOne K (.ref (He.ga K x)) cv = some b ∧ PySem.W.kitOne K (.ref (He.ga K x)) cv = some b
  rse : ∀ x, t.rss.contains x = true → mg x = some (.ref (He.ga K x)) ∧ PySem.W.keepIn K (.ref (He.ga K x)) = true ∧ PySem.W.excIn K (He.ga K x) He.veBase "ValueError.__new__" = true ∧ PySem.W.subIn K (.ref (He.ga K x)) (.type "BaseException") = some true ∧ PySem.W.typeIn K (.ref (He.ga K x)) = some (.type "type")
section
variable {P : Program} {w : World} {K : PySem.W.Frag} {mg : Str → Option Value} {base : Heap} {t : LT}
theorem att_ok (F : LF t K mg) {C : Addr} {f : Str} (h : (t.atts.any fun p => decide (He.ga K p.1 = C) && p.2.contains f) = true) : Cls K C ∧ NoAttr K C f := by
  rw [List.any_eq_true] at h
  obtain ⟨p, hp, h⟩ := h
  obtain ⟨h1, h2⟩ := an h
  have e := of_decide_eq_true h1
  subst e
  obtain ⟨c, a⟩ := F.att p hp
  exact ⟨c, a f (by simpa using h2)⟩
theorem def_fnk {n : Nat} {d : FDef} {f : Addr} (G : GOk (GL K t n) P w K mg base (2 * n)) (D : DefOk K t d f) : FnK P w K mg base (2 * n + 1) (feOf (GL K t n) d) f := by
  obtain ⟨x, qual, params, body, scope, dvs, kws, fd, ps, T, F, S, hnp, hN, hnm, hr, htr, hb⟩ := D
  refine fnk (T := T) (cs := d.il) F (by rw [hN]; exact S) hnm hnp G (by cases n <;> rfl) (fun x hx => ?_) htr hb (fun ds Sx Kx Ex hl h => by rw [hN]; exact h)
  have := hr x hx
  cases n <;> exact this
theorem gok (F : LF t K mg) : ∀ n, GOk (GL K t n) P w K mg base (2 * n)
  | 0 => ⟨F.val, (fun x fe h => by cases h), (fun c C fe h => by cases h), (fun C m fe h => by cases h), fun C f h => att_ok F h, F.blt, F.exc, F.rse⟩
  | n + 1 => by
    have ih := gok F n
    refine ⟨F.val, fun x fe h => ?_, fun c C fe h => ?_, fun C m fe h => ?_, fun C f h => att_ok F h, F.blt, F.exc, F.rse⟩
    · have h' : (t.fns.lookup x).map (feOf (GL K t n)) = some fe := h
      cases e : t.fns.lookup x with
      | none => rw [e] at h'; cases h'
      | some d =>
        rw [e] at h'
        cases h'
        obtain ⟨f, h1, h2⟩ := F.fn x d e
        exact ⟨f, h1, (def_fnk ih h2).mono (by omega)⟩
    · have h' : ((t.mks.lookup c).map fun d => (He.ga K c, some (feOf (GL K t n) d))) = some (C, some fe) := h
      cases e : t.mks.lookup c with
      | none => rw [e] at h'; cases h'
      | some d =>
        rw [e] at h'
        cases h'
        obtain ⟨h1, f, h2, h3⟩ := F.cls c d e
        exact ⟨h1, f, 2 * n + 1, by omega, h2, def_fnk ih h3⟩
    · have h' : ((t.mts.find? fun p => decide (He.ga K p.1.1 = C) && decide (p.1.2 = m)).map fun p => feOf (GL K t n) p.2) = some fe := h
      cases e : t.mts.find? fun p => decide (He.ga K p.1.1 = C) && decide (p.1.2 = m) with
      | none => rw [e] at h'; cases h'
      | some p =>
        rw [e] at h'
        cases h'
        have h1 := List.find?_some e
        obtain ⟨h2, h3⟩ := an h1
        have e1 := of_decide_eq_true h2
        have e2 := of_decide_eq_true h3
        subst e1 e2
        obtain ⟨c, f, h4, h5⟩ := F.mth p.1 p.2 (List.mem_of_find?_eq_some e)
        exact ⟨c, f, h4, (def_fnk ih h5).mono (by omega)⟩
end
end DL

/-! DL22: the head's facts, the law's end. -/
namespace DL
open PySem PySem.Spec PyProof.Rows L2
/-- no list stands in the part looked at -/
def nolst (K : PySem.W.Frag) : Bool := K.all fun p => !(decide (p.2.cls = .type "list"))
def excCB (K : PySem.W.Frag) (D : Addr) : Bool := He.eqO (PySem.W.findIn K (.ref D) "__getattribute__") (some (some (.builtin "BaseException.__getattribute__"))) && (He.eqO (PySem.W.findIn K (.ref D) "__getattr__") (some none) && (decide (PySem.W.subIn K (.ref D) (.type "BaseException") = some true) && (PySem.W.hasDictIn K D &&
  (He.eqO (PySem.W.findIn K (.ref D) "__class__") (some (some (.builtin "object.__class__"))) && (He.eqO (PySem.W.specialIn K (.builtin "object.__class__") "__get__") (some (some (.builtin "getset_descriptor.__get__"))) && (decide (PySem.W.takesIn K (.builtin "object.__class__") = some true) && decide (PySem.W.mroIn K D (.type "object") = some true)))))))
theorem excCB_ok {K : PySem.W.Frag} {D : Addr} (h : excCB K D = true) : ExcC K D := by
  obtain ⟨h1, h⟩ := an h
  obtain ⟨h2, h⟩ := an h
  obtain ⟨h3, h⟩ := an h
  obtain ⟨h4, h⟩ := an h
  obtain ⟨h5, h⟩ := an h
  obtain ⟨h6, h⟩ := an h
  obtain ⟨h7, h8⟩ := an h
  exact ⟨He.eqO_ok h1, He.eqO_ok h2, of_decide_eq_true h3, h4, He.eqO_ok h5, He.eqO_ok h6, of_decide_eq_true h7, of_decide_eq_true h8⟩
/-- one answer of isinstance | except about exceptions of the class x; c: a built-in class, or none: an own one -/
def excB (K : PySem.W.Frag) (q : (Str × Str) × Bool) : Bool := excCB K (He.ga K q.1.1) && (let cv : Value := if q.1.2 = "ValueError" then .type "ValueError" else .ref (He.ga K q.1.2)
  decide (PySem.W.exmOne K (.ref (He.ga K q.1.1)) cv = some q.2) && decide (PySem.W.kitOne K (.ref (He.ga K q.1.1)) cv = some q.2))
theorem excB_ok {K : PySem.W.Frag} {mg : Str → Option Value} {x C : Str} {b : Bool} (h : excB K ((x, C), b) = true) (hC : (C = "ValueError" ∧ mg C = none) ∨ (C ≠ "ValueError" ∧ mg C = some (.ref (He.ga K C)))) :
    ExcC K (He.ga K x) ∧ ∃ cv, ((mg C = some cv ∧ cv = .ref (He.ga K C)) ∨ (mg C = none ∧ ∃ n, bootBuiltins C = some (.type n) ∧ cv = .type n ∧ C ≠ "__name__")) ∧ PySem.W.exmOne K (.ref (He.ga K x)) cv = some b ∧ PySem.W.kitOne K (.ref (He.ga K x)) cv = some b := by
  obtain ⟨h1, h2⟩ := an h
  obtain ⟨h3, h4⟩ := an h2
  refine ⟨excCB_ok h1, ?_⟩
  rcases hC with ⟨rfl, hm⟩ | ⟨hn, hm⟩
  · dsimp only at h3 h4
    rw [if_pos rfl] at h3 h4
    exact ⟨_, .inr ⟨hm, "ValueError", rfl, rfl, by decide +kernel⟩, of_decide_eq_true h3, of_decide_eq_true h4⟩
  · dsimp only at h3 h4
    rw [if_neg hn] at h3 h4
    exact ⟨_, .inl ⟨hm, rfl⟩, of_decide_eq_true h3, of_decide_eq_true h4⟩
/-- the Hook -/
def obsX (fa : List He.Fa) (fn : List He.DefD) (xs : PySem.W.Frag → Bool) (K : PySem.W.Frag) : He.AlD × Bool := (He.obsD fa fn K, xs K)
def obsXG (n : Nat) (fa : List He.Fa) (fn : List He.DefD) (xs : PySem.W.Frag → Bool) (g : Addr → Option Obj) : He.AlD × Bool := obsX fa fn xs (He.frG g (He.asD g n))
def SaysX (fa : List He.Fa) (fn : List He.DefD) (xs : PySem.W.Frag → Bool) (K : PySem.W.Frag) : Prop := obsX fa fn xs K = (He.valD fn, true)
def hookX (n : Nat) (fa : List He.Fa) (fn : List He.DefD) (xs : PySem.W.Frag → Bool) : PySem.W.Hook where
  α := He.AlD × Bool
  obs := fun s => obsXG n fa fn xs s.heap.get?
  val := fun _ => (He.valD fn, true)
  says := fun _ h => ∃ K : PySem.W.Frag, K.In h ∧ SaysX fa fn xs K
  of := fun _ _ e => ⟨_, He.frG_in, e⟩
  keeps := fun _ _ _ ⟨K, hK, c⟩ k => ⟨K, PySem.W.Frag.In.keeps hK k, c⟩
theorem obsXG_eq {n : Nat} {fa : List He.Fa} {fn : List He.DefD} {xs : PySem.W.Frag → Bool} {g : Addr → Option Obj} {s : Shared} (h : ∀ a, g a = s.heap.get? a) : obsXG n fa fn xs g = (hookX n fa fn xs).obs s := by
  have e : g = s.heap.get? := funext h
  rw [e] <;> rfl
theorem SaysX.d {fa : List He.Fa} {fn : List He.DefD} {xs : PySem.W.Frag → Bool} {K : PySem.W.Frag} (c : SaysX fa fn xs K) : He.SaysD fa fn K := congrArg (fun z : He.AlD × Bool => z.1) c
theorem SaysX.x {fa : List He.Fa} {fn : List He.DefD} {xs : PySem.W.Frag → Bool} {K : PySem.W.Frag} (c : SaysX fa fn xs K) : xs K = true := congrArg (fun z : He.AlD × Bool => z.2) c
theorem lookup_mem' {α β : Type} [BEq α] [LawfulBEq α] {x : α} {d : β} : ∀ {l : List (α × β)}, l.lookup x = some d → (x, d) ∈ l
  | [], h => by simp at h
  | (y, e) :: r, h => by
    rw [List.lookup_cons] at h
    cases hx : x == y with
    | true => rw [hx] at h; cases h; rw [eq_of_beq hx]; exact List.mem_cons_self
    | false => rw [hx] at h; exact List.mem_cons_of_mem _ (lookup_mem' h)
theorem reps_ints {H : Hp} : ∀ ns : List Int, Reps H (ns.map D.int) (ns.map V.int)
  | [] => Reps.nil
  | n :: ns => Reps.cons (by simp only [Rep]) (reps_ints ns)
theorem srep_one {H : Hp} {a : Addr} {m : MO} (h : MRep H a m) : SRep (put (fun _ => none) a m) H := fun b u e => by
  by_cases hb : b = a
  · subst hb; rw [put_same] at e; cases e; exact h
  · rw [put_ne hb] at e; cases e
/-- the script's list, as it is tracked -/
theorem script_st {K : PySem.W.Frag} {H : Hp} {a : Addr} {ns : List Int} (hS : SqL K H a (ns.map V.int)) (hk : nolst K = true) : ∃ S : Sto, SRep S H ∧ lstAt S a = some (ns.map D.int) ∧ ∀ b, b ≠ a → S b = none := by
  rcases hS with h | ⟨o, its, n, h1, h2, _⟩
  · rcases h with h | ⟨o, h⟩
    · exact ⟨_, srep_one (m := .lst (ns.map D.int)) ⟨_, h, reps_ints ns⟩, by unfold lstAt; rw [put_same], fun b hb => put_ne hb⟩
    · exact ⟨_, srep_one (m := .fro (ns.map D.int)) ⟨o, _, h, reps_ints ns⟩, by unfold lstAt; rw [put_same], fun b hb => put_ne hb⟩
  · have hm := List.all_eq_true.mp hk (a, o) (lookup_mem' h1)
    rw [h2] at hm
    simp at hm
theorem hCX (P : Program) (w : World) (H : Hp) (s : Shared) (e : Value) (s' : Shared) (h : L2.CX P w [] H s (fun _ _ _ => False) e s') : False := by
  unfold L2.CX at h
  obtain ⟨_, _, _, _, _, _, _, _, _, _, _, _, h⟩ := h
  exact h
/-- the law, at the heap behind the top -/
theorem law_at {l : PySem.W.OpenLaw} {w : World} {K : PySem.W.Frag} {t : LT} {mg : Str → Option Value} {h : Heap} {fa : Addr} {n lv : Nat} {x : Str} {d : FDef} {T : TC} {y qual : Str} {params : Arguments} {body : List Stmt} {scope : Scope} {kws : List (Str × V)} {fd : FuncData}
    (F : LF t K mg) (nl : nolst K = true) (FD : FunD K y qual params body scope [] kws fa fd) (S : FnScope d.N [x] scope) (hN : T.N = d.N) (hnm : T.nm = scope.names) (hnp : d.np = 1) (hr : ∀ x, T.rss.contains x = true → t.rss.contains x = true) (htr : trSs (trS false 30 T) body = d.il)
    (hb : ∀ (kV doc pm : Value) (an : Option Addr) (cdv ct : Value) (us : List Value), us.length = 1 → bindArgs (PySem.W.fnOf y qual params body scope .none kV doc pm an cdv ct) ⟨us, []⟩ = pure ([x].zip us))
    (plain : ∀ (a : Addr) (ns : List Int) (S : Sto), ns.length ≤ n → (∀ z ∈ ns, Builtin.Int.intBits z ≤ 1048576) → lstAt S a = some (ns.map D.int) → (∀ b, b ≠ a → S b = none) →
      wSs (GL K t lv) d.il (endD fun v _ => v = .bl true) (fun _ _ _ => False) (startD d.N [.ref a]) S) : LamX.LawAtS l w K (L2.CX l.prog w) (2 * lv + 1) n x mg fa h := by
  refine ⟨fd, [], toSp K (feOf (GL K t lv) d), fun p hp => (by cases hp), fun p hp => (by cases hp), fun p hp => (by cases hp), fun s u => ?_, fun H a ns hn hbits _ hS => ?_, fun base _ _ _ => ?_⟩
  · exact FD.bindsA (ps := [x]) (fun kV doc pm an cdv ct us hl => hb kV doc pm an cdv ct us hl) s [u] rfl
  · obtain ⟨S0, h1, h2, h3⟩ := script_st hS nl
    refine ⟨hnp.symm, [.ref a], S0, fun v _ => v = .bl true, fun _ _ => False, Reps.cons (by simp only [Rep]) Reps.nil, h1, plain a ns S0 hn hbits h2 h3, fun d S' v H' hd rv _ _ => ?_, fun x S' H' hx => hx.elim⟩
    subst hd
    exact repBl rv
  · refine fnok (T := T) (cs := d.il) FD (by rw [hN]; exact S) hnm hnp.symm (gok F lv) (by cases lv <;> rfl) (fun x hx => ?_) htr (fun ds Sx Kx Ex hl h => by rw [hN]; exact h)
    have := hr x hx
    cases lv <;> exact this
theorem blt_mem {x : Str} (h : bltB x = true) : x ∈ (["len", "sorted", "min", "max", "abs", "divmod", "all", "any", "int", "str", "list", "tuple", "range", "enumerate", "zip", "reversed", "isinstance", "set", "dict", "bool"] : List Str) := by
  have e : bltB x = (["len", "sorted", "min", "max", "abs", "divmod", "all", "any", "int", "str", "list", "tuple", "range", "enumerate", "zip", "reversed", "isinstance", "set", "dict", "bool"] : List Str).contains x := by
    unfold bltB
    simp only [List.contains_cons, List.contains_nil, Bool.or_false, Bool.or_assoc]
  rw [e] at h
  simpa using List.contains_iff_mem.mp h
/-! the head's run: the part of the heap by a written list of addresses -/
def obsLG (as : List Addr) (fa : List He.Fa) (fn : List He.DefD) (xs : PySem.W.Frag → Bool) (g : Addr → Option Obj) : He.AlD × Bool := obsX fa fn xs (He.frG g as)
def hookL (as : List Addr) (fa : List He.Fa) (fn : List He.DefD) (xs : PySem.W.Frag → Bool) : PySem.W.Hook where
  α := He.AlD × Bool
  obs := fun s => obsLG as fa fn xs s.heap.get?
  val := fun _ => (He.valD fn, true)
  says := fun _ h => ∃ K : PySem.W.Frag, K.In h ∧ SaysX fa fn xs K
  of := fun _ _ e => ⟨_, He.frG_in, e⟩
  keeps := fun _ _ _ ⟨K, hK, c⟩ k => ⟨K, PySem.W.Frag.In.keeps hK k, c⟩
theorem obsLG_eq {as : List Addr} {fa : List He.Fa} {fn : List He.DefD} {xs : PySem.W.Frag → Bool} {g : Addr → Option Obj} {s : Shared} (h : ∀ a, g a = s.heap.get? a) : obsLG as fa fn xs g = (hookL as fa fn xs).obs s := by
  have e : g = s.heap.get? := funext h
  rw [e] <;> rfl
theorem run_split2 {α A B C : Type} {x : Option α} {f : α → A} {g : α → B} {h : α → C} {a : A} {b : B} {c : C} (hf : x.map (fun s => (f s, g s)) = some (a, b)) (hh : x.map h = some c) : x.map (fun s => (f s, g s, h s)) = some (a, b, c) := by
  cases x with
  | none => cases hf
  | some s =>
    simp only [Option.map_some, Option.some.injEq, Prod.mk.injEq] at hf hh ⊢
    exact ⟨hf.1, hf.2, hh⟩
theorem obs_app {as : List Addr} {fa fa' : List He.Fa} {fn fn' : List He.DefD} {xs xs' : PySem.W.Frag → Bool} {x : Option PySem.W.SharedT} {ob ob' ob2 : PySem.W.SharedT → He.AlD × Bool} (e1 : ∀ s, ob s = obsLG as fa fn xs (HandSHeadRun.getT s)) (e2 : ∀ s, ob' s = obsLG as fa' fn' xs' (HandSHeadRun.getT s))
    (e3 : ∀ s, ob2 s = obsLG as (fa ++ fa') (fn ++ fn') (fun K => xs K && xs' K) (HandSHeadRun.getT s)) (h : x.map ob = some (He.valD fn, true)) (h' : x.map ob' = some (He.valD fn', true)) : x.map ob2 = some (He.valD (fn ++ fn'), true) := by
  cases x with
  | none => cases h
  | some s =>
    simp only [Option.map_some, Option.some.injEq] at h h' ⊢
    rw [e1] at h
    rw [e2] at h'
    rw [e3]
    unfold obsLG obsX He.obsD He.valD at h h' ⊢
    simp only [Prod.mk.injEq, Bool.and_eq_true] at h h' ⊢
    obtain ⟨⟨⟨a1, a2⟩, a3⟩, a4⟩ := h
    obtain ⟨⟨⟨b1, b2⟩, b3⟩, b4⟩ := h'
    refine ⟨⟨⟨?_, ?_⟩, ?_⟩, a4, b4⟩
    · rw [List.all_append, a1, b1]; rfl
    · rw [List.all_append, a2, b2]; rfl
    · rw [List.map_append, List.map_append, a3, b3]
end DL

/-! DL23: plain rules. -/
namespace DL
open PySem PySem.Spec PyProof.Rows
section
variable {K : PySem.W.Frag} {tab : LT} {n : Nat}
theorem att_of {p : Str × List Str} {f : Str} (h : decide (p ∈ tab.atts) = true) (hf : p.2.contains f = true) : (GL K tab n).att (He.ga K p.1) f = true := by
  have e : (GL K tab n).att (He.ga K p.1) f = tab.atts.any fun q => decide (He.ga K q.1 = He.ga K p.1) && q.2.contains f := by cases n <;> rfl
  rw [e, List.any_eq_true]
  exact ⟨p, of_decide_eq_true h, by rw [hf]; simp⟩
/-- the first of its name -/
theorem mth_of {C m : Str} {d : FDef} (h : (tab.mts.find? fun p => decide (p.1.2 = m)).map (fun p => p.1.1) = some C) (h2 : True := trivial) (hd : (tab.mts.find? fun p => decide (p.1.2 = m)).map (fun p => p.2) = some d := by rfl) : (GL K tab (n + 1)).mth (He.ga K C) m = some (feOf (GL K tab n) d) := by
  show ((tab.mts.find? fun p => decide (He.ga K p.1.1 = He.ga K C) && decide (p.1.2 = m)).map fun p => feOf (GL K tab n) p.2) = _
  have key : ∀ l : List ((Str × Str) × FDef), (l.find? fun p => decide (p.1.2 = m)).map (fun p => p.1.1) = some C → (l.find? fun p => decide (He.ga K p.1.1 = He.ga K C) && decide (p.1.2 = m)) = l.find? fun p => decide (p.1.2 = m) := by
    intro l
    induction l with
    | nil => intro h; simp at h
    | cons p l ih =>
      intro h
      simp only [List.find?_cons] at h ⊢
      by_cases e : p.1.2 = m
      · simp only [e, decide_true, Option.map_some, Option.some.injEq] at h
        simp only [e, h, decide_true, Bool.and_self]
      · simp only [e, decide_false, Bool.and_false] at h ⊢
        exact ih h
  rw [key _ h]
  cases e : tab.mts.find? fun p => decide (p.1.2 = m) with
  | none => rw [e] at hd; cases hd
  | some p => rw [e] at hd; simp only [Option.map_some, Option.some.injEq] at hd ⊢; rw [hd]
end
/-- a call of a def by its text -/
theorem wCall_of' {Γ : GE} {d : FDef} {ds es : List D} {S : Sto} {Kt_ : Kt} {X : KtE} (h : ds.length ≤ d.np ∧ d.np - ds.length ≤ d.df.length) (he : es = ds ++ d.df.drop (d.df.length - (d.np - ds.length)))
    (w : wSs Γ d.il (endD Kt_) (fun x _ S' => X x S') (startD d.N es) S) : wCall (feOf Γ d) ds S Kt_ X := by
  subst he
  unfold wCall fill
  rw [if_pos (show ds.length ≤ (feOf Γ d).np ∧ (feOf Γ d).np - ds.length ≤ (feOf Γ d).df.length from h)]
  exact w
/-- the loop of a for, by a word -/
theorem wLoop_of {stays : Sto → Prop} {turn : D → Env' → Sto → (Env' → Sto → Prop) → Prop} {after : Env' → Sto → Prop} (I : List D → Env' → Sto → Prop) (h0 : ∀ ρ S, I [] ρ S → stays S ∧ after ρ S)
    (h1 : ∀ d r ρ S (nx : Env' → Sto → Prop), I (d :: r) ρ S → (∀ ρ' S', I r ρ' S' → nx ρ' S') → stays S ∧ turn d ρ S nx) : ∀ items ρ S, I items ρ S → wLoop stays turn after items ρ S
  | [], ρ, S, i => h0 ρ S i
  | d :: r, ρ, S, i => h1 d r ρ S _ i (wLoop_of I h0 h1 r)
/-- nothing that stood is changed -/
def Ext (S S' : Sto) : Prop := ∀ a m, S a = some m → S' a = some m
theorem Ext.refl {S : Sto} : Ext S S := fun _ _ h => h
theorem Ext.trans {S S1 S2 : Sto} (a : Ext S S1) (b : Ext S1 S2) : Ext S S2 := fun x m h => b x m (a x m h)
theorem Ext.new {S : Sto} {p : Addr} {m : MO} (h : S p = none) : Ext S (put S p m) := fun a u e => by
  rw [put_ne (fun z => by rw [z, h] at e; cases e)]; exact e
theorem Ext.put {S S1 : Sto} {p : Addr} {m : MO} (h : Ext S S1) (n : S p = none) : Ext S (put S1 p m) := fun a u e => by
  rw [put_ne (fun z => by rw [z, n] at e; cases e)]; exact h a u e
theorem Ext.none_ {S S' : Sto} (h : Ext S S') {p : Addr} (n : S' p = none) : S p = none := by
  cases e : S p with
  | none => rfl
  | some m => rw [h p m e] at n; cases n
theorem put_none {S : Sto} {p q : Addr} {m : MO} : put S p m q = none ↔ q ≠ p ∧ S q = none := by
  by_cases h : q = p
  · subst h; simp [put_same]
  · simp [put_ne h, h]
theorem put_put {S : Sto} {p : Addr} {m m' : MO} : put (put S p m) p m' = put S p m' := by
  funext b
  by_cases h : b = p
  · subst h; rw [put_same, put_same]
  · rw [put_ne h, put_ne h, put_ne h]
theorem lst_of_ {S : Sto} {a : Addr} {ds : List D} (h : S a = some (.lst ds)) : lstAt S a = some ds := by unfold lstAt; rw [h]
theorem ofS_inj {a b : String} (h : Str.ofString a = Str.ofString b) : a = b := by
  rw [Str.ofString_eq_toList, Str.ofString_eq_toList] at h
  injection h with h
  have h := List.toArray_inj h
  have key : ∀ {l m : List Char}, l.map Char.toNat = m.map Char.toNat → l = m := by
    intro l
    induction l with
    | nil => intro m h; cases m with
      | nil => rfl
      | cons _ _ => simp at h
    | cons c l ih =>
      intro m h
      cases m with
      | nil => simp at h
      | cons d m =>
        simp only [List.map_cons, List.cons.injEq] at h
        rw [ih h.2, Char.toNat_inj.mp h.1]
  exact String.toList_inj.mp (key h)
theorem ofS_eq {a b : String} : (Str.ofString a = Str.ofString b) = (a = b) := propext ⟨ofS_inj, fun h => by rw [h]⟩
theorem ofS_beq {a b : String} : (Str.ofString a == Str.ofString b) = (a == b) := by
  by_cases h : a = b
  · subst h; simp
  · rw [beq_eq_false_iff_ne.mpr h, beq_eq_false_iff_ne.mpr fun e => h (ofS_inj e)]
theorem skip {Γ : GE} {i : Nat} {j k : Int} {a rest : List Sm} {N : DE} {X : ES} {ρ : Env'} {S : Sto} (h : ρ[i]? = some (some (.int k))) (hk : decide (k = j) = false) (w : wSs Γ rest N X ρ S) : wSs Γ (.ifs (.cmp .Eq (.var i) (.cst (.int j))) a [] :: rest) N X ρ S := by
  simp only [wSs, wS, wE, h, wCmp, wEq, wTru, tv, hk, Bool.false_eq_true, if_false]
  exact w
theorem take_ {Γ : GE} {i : Nat} {j : Int} {a rest : List Sm} {N : DE} {X : ES} {ρ : Env'} {S : Sto} (h : ρ[i]? = some (some (.int j))) (w : wSs Γ a { N with nx := wSs Γ rest N X } X ρ S) : wSs Γ (.ifs (.cmp .Eq (.var i) (.cst (.int j))) a [] :: rest) N X ρ S := by
  simp only [wSs, wS, wE, h, wCmp, wEq, wTru, tv, decide_true, if_true]
  exact w
theorem ret_ {Γ : GE} {e : Ex} {rest : List Sm} {N : DE} {X : ES} {ρ : Env'} {S : Sto} (w : wE Γ e ρ S N.rt (fun x S1 => X x ρ S1)) : wSs Γ (.ret e :: rest) N X ρ S := by
  simp only [wSs, wS]; exact w
theorem call_w {Γ : GE} {d : FDef} {ds es : List D} {S : Sto} {Kt_ : Kt} {X : KtE} (he : (if ds.length ≤ d.np ∧ d.np - ds.length ≤ d.df.length then some (ds ++ d.df.drop (d.df.length - (d.np - ds.length))) else none) = some es)
    (w : wSs Γ d.il (endD Kt_) (fun x _ S' => X x S') (startD d.N es) S) : wCall (feOf Γ d) ds S Kt_ X := by
  unfold wCall fill
  rw [show (if ds.length ≤ (feOf Γ d).np ∧ (feOf Γ d).np - ds.length ≤ (feOf Γ d).df.length then some (ds ++ (feOf Γ d).df.drop ((feOf Γ d).df.length - ((feOf Γ d).np - ds.length))) else none) = some es from he]
  exact w
/-- a comprehension without tests, its elements g of the items -/
theorem wComp_of {stays : Sto → Prop} {p : Addr} {turn : D → Sto → (Option D → Sto → Prop) → Prop} {Kc : Sto → Prop} (I : Sto → Prop) (g : D → D) (hst : ∀ S, I S → stays S) (hI : ∀ S m, I S → I (put S p m)) : ∀ (items acc : List D) (S : Sto),
    (∀ d ∈ items, ∀ (S : Sto) (R : Option D → Sto → Prop), I S → (∀ S', I S' → (∀ m, S p = some m → S' p = some m) → R (some (g d)) S') → turn d S R) →
    I S → S p = some (.lst acc) → acc.length + items.length ≤ 16777216 → (∀ S', I S' → S' p = some (.lst (acc ++ items.map g)) → Kc S') → wComp stays p turn Kc items acc S
  | [], acc, S, _, i, hp, _, k => ⟨hst S i, k S i (by simpa using hp)⟩
  | d :: ds, acc, S, ht, i, hp, hl, k => by
    refine ⟨hst S i, ht d List.mem_cons_self S _ i fun S' i' hk => ?_⟩
    rw [List.length_cons] at hl
    refine ⟨hk _ hp, by rw [sizeLine_eq]; omega, ?_⟩
    exact wComp_of I g hst hI ds _ _ (fun e he => ht e (List.mem_cons_of_mem _ he)) (hI S' _ i') put_same (by rw [List.length_append, List.length_singleton]; omega) fun S2 i2 h2 => k S2 i2 (by simpa using h2)
/-- a new object, the rest as it was -/
theorem wNew_of {m : MO} {S : Sto} {Kt_ : Kt} (h : ∀ p S', S p = none → Ext S S' → S' p = some m → Kt_ (.ref p) S') : wNew m S Kt_ := fun p hp => h p _ hp (Ext.new hp) put_same
theorem lstAt_ext {S S' : Sto} (h : Ext S S') {a : Addr} {ds : List D} (e : lstAt S a = some ds) : lstAt S' a = some ds := by
  unfold lstAt at e ⊢
  split at e
  · rename_i x hx; rw [h _ _ hx]; exact e
  · rename_i x hx; rw [h _ _ hx]; exact e
  · cases e
def isW : D → Bool
  | .int _ => true
  | _ => false
end DL

/-! DL24: plain rules: places, sorting. -/
namespace DL
open PySem PySem.Spec PyProof.Rows
theorem ci0 : ((0 : Nat) : Int) = 0 := rfl
theorem ci1 : ((1 : Nat) : Int) = 1 := rfl
theorem ci2 : ((2 : Nat) : Int) = 2 := rfl
theorem ci3 : ((3 : Nat) : Int) = 3 := rfl
theorem ci4 : ((4 : Nat) : Int) = 4 := rfl
theorem ci5 : ((5 : Nat) : Int) = 5 := rfl
theorem ci6 : ((6 : Nat) : Int) = 6 := rfl
theorem atI_nat {α : Type} {xs : List α} {j : Nat} {d : α} (h : xs[j]? = some d) : L2.atI xs (j : Int) = some d := by
  have hj : j < xs.length := by
    by_cases q : j < xs.length
    · exact q
    · rw [List.getElem?_eq_none (by omega)] at h; cases h
  unfold L2.atI L2.ixN
  rw [if_pos (by omega), if_pos (by omega)]
  exact h
theorem atI_zero {α : Type} {x : α} {xs : List α} : L2.atI (x :: xs) 0 = some x := atI_nat (j := 0) rfl
/-- a pin -/
def PinD (d : D) : Prop := ∃ x i, d = .tup [.str x, .int i]
def pinP : D → PyData
  | .tup [.str x, .int i] => .tuple [.str x, .int i]
  | _ => .none
theorem pd_pin {S : Sto} {d : D} (h : PinD d) : pd 8 S d = some (pinP d) := by
  obtain ⟨x, i, rfl⟩ := h; rfl
theorem pdl_pins {S : Sto} : ∀ {ds : List D}, (∀ d ∈ ds, PinD d) → pdl (pd 8 S) ds = some (ds.map pinP)
  | [], _ => rfl
  | d :: ds, h => by
    unfold pdl
    rw [pd_pin (h d List.mem_cons_self), pdl_pins fun e he => h e (List.mem_cons_of_mem _ he)]
    rfl
theorem sorted_pins {ds : List D} {S : Sto} {Kt_ : Kt} (h : ∀ d ∈ ds, PinD d) (hl : ds.length ≤ 1000000) (hk : wNew (.lst (ds.mergeSort (leS S))) S Kt_) : wSorted ds S Kt_ := by
  refine ⟨_, pdl_pins h, fun p hp q hq => ?_, .inl fun p hp => ?_, by rw [sizeLine_eq]; omega, fun p hp => ?_, hk⟩
  · obtain ⟨d, hd, rfl⟩ := List.mem_map.mp hp
    obtain ⟨e, he, rfl⟩ := List.mem_map.mp hq
    obtain ⟨x, i, rfl⟩ := h d hd
    obtain ⟨y, j, rfl⟩ := h e he
    rfl
  · obtain ⟨d, hd, rfl⟩ := List.mem_map.mp hp
    obtain ⟨x, i, rfl⟩ := h d hd
    exact ⟨_, _, rfl⟩
  · obtain ⟨d, hd, rfl⟩ := List.mem_map.mp hp
    obtain ⟨x, i, rfl⟩ := h d hd
    exact Nat.le_of_ble_eq_true rfl
theorem dget_none {kvs : List (D × D)} {k : D} (h : k ∉ kvs.map (·.1)) : dget kvs k = none := by
  unfold dget
  rw [List.find?_eq_none.mpr fun p hp => by simp only [decide_eq_true_eq]; exact fun e => h (List.mem_map.mpr ⟨p, hp, e⟩)]
  rfl
theorem dput_new {kvs : List (D × D)} {k v : D} (h : k ∉ kvs.map (·.1)) : dput kvs k v = kvs ++ [(k, v)] := by
  unfold dput
  rw [if_neg]
  intro e
  rw [List.any_eq_true] at e
  obtain ⟨p, hp, e⟩ := e
  exact h (List.mem_map.mpr ⟨p, hp, of_decide_eq_true e⟩)
end DL


namespace DL.K16
open PySem PySem.Spec PyProof.Rows
def d_check_copper : FDef := { np := 2, df := [], N := ["board", "cell"], il := [(.ifs (.notE (.meth (.var 0) "is_copper" [(.sub (.var 1) (.cst (.int 0))), (.sub (.var 1) (.cst (.int 1))), (.sub (.var 1) (.cst (.int 2)))])) [(.raise "NoCopper")] [])] }
def d_beside : FDef := { np := 2, df := [], N := ["board", "cell", "x", "y", "z", "found", "layer"], il := [(.asg (.tup [(.nm 2), (.nm 3), (.nm 4)]) (.var 1)), (.asg (.nm 5) (.lst [(.tup [(.bin .Sub (.var 2) (.cst (.int 1))), (.var 3), (.var 4)]), (.tup [(.var 2), (.bin .Sub (.var 3) (.cst (.int 1))), (.var 4)]), (.tup [(.var 2), (.bin .Add (.var 3) (.cst (.int 1))), (.var 4)]), (.tup [(.bin .Add (.var 2) (.cst (.int 1))), (.var 3), (.var 4)])])), (.ifs (.meth (.var 0) "has_hole" [(.var 2), (.var 3)]) [(.expr (.bm .extend (.var 5) [(.comp (.tup [(.var 2), (.var 3), (.var 6)]) [6] (.nm 6) (.range1 (.fld (.var 0) "layers")) [(.cmp .NotEq (.var 6) (.var 4))])]))] []), (.ret (.var 5))] }
def d_near : FDef := { np := 2, df := [], N := ["board", "cell", "other"], il := [(.expr (.call "check_copper" [(.var 0), (.var 1)])), (.ret (.bf .sorted [(.comp (.var 2) [2] (.nm 2) (.call "beside" [(.var 0), (.var 1)]) [(.meth (.var 0) "is_copper" [(.sub (.var 2) (.cst (.int 0))), (.sub (.var 2) (.cst (.int 1))), (.sub (.var 2) (.cst (.int 2)))])])]))] }
def d_come_to : FDef := { np := 2, df := [], N := ["board", "cell", "ahead", "row", "more", "one", "other"], il := [(.expr (.call "check_copper" [(.var 0), (.var 1)])), (.asg (.nm 2) (.alt (.dct [(.var 1), (.cst .non)] true) (.dct [(.var 1), (.cst .non)] false))), (.asg (.nm 3) (.lst [(.var 1)])), (.while (.cmp .NotEq (.var 3) (.lst [])) [(.asg (.nm 4) (.lst [])), (.for (.nm 5) (.var 3) [(.for (.nm 6) (.call "near" [(.var 0), (.var 5)]) [(.ifs (.cmp .NotIn (.var 6) (.var 2)) [(.setSub (.var 2) (.var 6) (.var 5)), (.expr (.bm .append (.var 4) [(.var 6)]))] [])])]), (.asg (.nm 3) (.var 4))]), (.ret (.var 2))] }
def d_island_of : FDef := { np := 2, df := [], N := ["board", "cell"], il := [(.ret (.bf .sorted [(.call "come_to" [(.var 0), (.var 1)])]))] }
def d_islands : FDef := { np := 1, df := [], N := ["board", "seen", "found", "cell", "other"], il := [(.asg (.nm 1) .dnew), (.asg (.nm 2) (.lst [])), (.for (.nm 3) (.meth (.var 0) "cells" []) [(.ifs (.cmp .NotIn (.var 3) (.var 1)) [(.expr (.bm .append (.var 2) [(.call "island_of" [(.var 0), (.var 3)])])), (.for (.nm 4) (.sub (.var 2) (.neg (.cst (.int 1)))) [(.setSub (.var 1) (.var 4) (.cst (.bl true)))])] [])]), (.ret (.var 2))] }
def d_is_whole : FDef := { np := 1, df := [], N := ["thing"], il := [(.ret (.andE (.isi (.var 0) "int") (.notE (.isi (.var 0) "bool"))))] }
def d_is_cell : FDef := { np := 1, df := [], N := ["thing", "number"], il := [(.ret (.andE (.isi (.var 0) "tuple") (.andE (.cmp .Eq (.bf .len [(.var 0)]) (.cst (.int 3))) (.bf .all [(.comp (.call "is_whole" [(.var 1)]) [1] (.nm 1) (.var 0) [])]))))] }
def d_check_places : FDef := { np := 3, df := [], N := ["board", "drawing", "places", "pin", "x", "y", "z"], il := [(.for (.nm 3) (.meth (.var 1) "pins" []) [(.ifs (.cmp .NotIn (.var 3) (.var 2)) [(.raise "NoPin")] []), (.ifs (.notE (.call "is_cell" [(.sub (.var 2) (.var 3))])) [(.raise "NoPin")] []), (.asg (.tup [(.nm 4), (.nm 5), (.nm 6)]) (.sub (.var 2) (.var 3))), (.ifs (.orE (.notE (.cmp2 .LtE .Lt (.cst (.int 0)) (.var 4) (.fld (.var 0) "wide"))) (.orE (.notE (.cmp2 .LtE .Lt (.cst (.int 0)) (.var 5) (.fld (.var 0) "high"))) (.notE (.cmp2 .LtE .Lt (.cst (.int 0)) (.var 6) (.fld (.var 0) "layers"))))) [(.raise "NoPin")] [])])] }
def d_homes_of : FDef := { np := 2, df := [], N := ["board", "places", "found", "number", "island", "pin"], il := [(.asg (.nm 2) .dnew), (.for (.tup [(.nm 3), (.nm 4)]) (.enum (.call "islands" [(.var 0)])) [(.for (.nm 5) (.var 1) [(.ifs (.cmp .In (.sub (.var 1) (.var 5)) (.var 4)) [(.setSub (.var 2) (.var 5) (.var 3))] [])])]), (.ret (.var 2))] }
def d_opens_of : FDef := { np := 3, df := [], N := ["name", "pins", "homes", "some", "pin"], il := [(.asg (.nm 3) (.comp (.var 4) [4] (.nm 4) (.bf .sorted [(.var 1)]) [(.cmp .In (.var 4) (.var 2))])), (.ret (.comp (.tup [(.cst (.str "open")), (.var 0), (.sub (.var 3) (.cst (.int 0))), (.var 4)]) [4] (.nm 4) (.var 3) [(.cmp .NotEq (.sub (.var 2) (.var 4)) (.sub (.var 2) (.sub (.var 3) (.cst (.int 0)))))]))] }
def d_shorts_of : FDef := { np := 3, df := [], N := ["one", "other", "homes", "first", "last", "pin", "at"], il := [(.asg (.nm 3) .dnew), (.asg (.nm 4) .dnew), (.for (.nm 5) (.bf .sorted [(.sub (.var 0) (.cst (.int 1)))]) [(.ifs (.cmp .In (.var 5) (.var 2)) [(.expr .nev)] [])]), (.for (.nm 5) (.bf .sorted [(.sub (.var 1) (.cst (.int 1)))]) [(.ifs (.cmp .In (.var 5) (.var 2)) [(.expr .nev)] [])]), (.ret (.comp (.tup [(.cst (.str "short")), (.sub (.var 0) (.cst (.int 0))), (.sub (.var 1) (.cst (.int 0))), (.sub (.var 3) (.var 6)), (.sub (.var 4) (.var 6))]) [6] (.nm 6) (.var 3) [(.cmp .In (.var 6) (.var 4))]))] }
def d_against : FDef := { np := 3, df := [], N := ["board", "drawing", "places", "homes", "found", "nets", "k", "other", "pin"], il := [(.expr (.call "check_places" [(.var 0), (.var 1), (.var 2)])), (.asg (.nm 3) (.call "homes_of" [(.var 0), (.var 2)])), (.asg (.nm 4) (.comp (.tup [(.cst (.str "bare")), (.var 8)]) [8] (.nm 8) (.meth (.var 1) "pins" []) [(.cmp .NotIn (.var 8) (.var 3))])), (.asg (.nm 5) (.bf .sorted [(.fld (.var 1) "nets")])), (.for (.nm 6) (.range1 (.bf .len [(.var 5)])) [(.expr (.bm .extend (.var 4) [(.call "opens_of" [(.sub (.sub (.var 5) (.var 6)) (.cst (.int 0))), (.sub (.sub (.var 5) (.var 6)) (.cst (.int 1))), (.var 3)])])), (.for (.nm 7) (.slc (.var 5) (some (.bin .Add (.var 6) (.cst (.int 1)))) none) [(.expr (.bm .extend (.var 4) [(.call "shorts_of" [(.sub (.var 5) (.var 6)), (.var 7), (.var 3)])]))])]), (.ret (.bf .sorted [(.var 4)]))] }
def d_steps : FDef := { np := 3, df := [], N := ["size", "through", "cell", "x", "y", "z", "wide", "high", "layers", "found", "across", "down", "change", "layer"], il := [(.asg (.tup [(.nm 3), (.nm 4), (.nm 5)]) (.var 2)), (.asg (.tup [(.nm 6), (.nm 7), (.nm 8)]) (.var 0)), (.asg (.nm 9) (.lst [])), (.for (.tup [(.nm 10), (.nm 11)]) (.lst [(.tup [(.bin .Sub (.var 3) (.cst (.int 1))), (.var 4)]), (.tup [(.bin .Add (.var 3) (.cst (.int 1))), (.var 4)]), (.tup [(.var 3), (.bin .Sub (.var 4) (.cst (.int 1)))]), (.tup [(.var 3), (.bin .Add (.var 4) (.cst (.int 1)))])]) [(.ifs (.andE (.cmp2 .LtE .Lt (.cst (.int 0)) (.var 10) (.var 6)) (.cmp2 .LtE .Lt (.cst (.int 0)) (.var 11) (.var 7))) [(.expr (.bm .append (.var 9) [(.tup [(.tup [(.var 10), (.var 11), (.var 5)]), (.cst (.int 0))])]))] [])]), (.asg (.nm 12) (.cst .non)), (.ifs (.cmp .Gt (.var 8) (.cst (.int 1))) [(.asg (.nm 12) .nev)] []), (.ifs (.cmp .IsNot (.var 12) (.cst .non)) [(.expr (.bm .extend (.var 9) [(.comp (.tup [(.tup [(.var 3), (.var 4), (.var 13)]), (.var 12)]) [13] (.nm 13) (.range1 (.var 8)) [(.cmp .NotEq (.var 13) (.var 5))])]))] []), (.ret (.var 9))] }
def d_spread : FDef := { np := 4, df := [], N := ["size", "price", "through", "starts", "numbers", "ahead", "waiting", "number", "cell", "back", "other", "change", "cost"], il := [(.asg (.nm 4) .dnew), (.asg (.nm 5) .dnew), (.asg (.nm 6) (.alt (.dct [(.cst (.int 0)), (.comp (.tup [(.var 8), (.cst .non)]) [8] (.nm 8) (.var 3) [(.cmp .IsNot .nev (.cst .non))])] true) (.dct [(.cst (.int 0)), (.comp (.tup [(.var 8), (.cst .non)]) [8] (.nm 8) (.var 3) [(.cmp .IsNot .nev (.cst .non))])] false))), (.while (.cmp .NotEq (.var 6) .dnew) [(.asg (.nm 7) .nev), (.for (.tup [(.nm 8), (.nm 9)]) (.bm .popAt (.var 6) [(.var 7)]) [(.ifs (.cmp .NotIn (.var 8) (.var 4)) [(.setSub (.var 4) (.var 8) (.var 7)), (.setSub (.var 5) (.var 8) (.var 9)), (.for (.tup [(.nm 10), (.nm 11)]) (.call "steps" [(.var 0), (.var 2), (.var 8)]) [(.asg (.nm 12) .nev), (.ifs (.andE (.cmp .IsNot (.var 12) (.cst .non)) (.cmp .NotIn (.var 10) (.var 4))) [(.expr (.bm .append .nev [(.tup [(.var 10), (.var 8)])]))] [])])] [])])]), (.ret (.tup [(.var 4), (.var 5)]))] }
def d_wave : FDef := { np := 5, df := [], N := ["size", "price", "through", "starts", "goals", "numbers", "ahead", "reached", "total", "goal", "way", "cell"], il := [(.asg (.tup [(.nm 5), (.nm 6)]) (.call "spread" [(.var 0), (.var 1), (.var 2), (.var 3)])), (.asg (.nm 7) (.comp (.tup [(.sub (.var 5) (.var 11)), (.var 11)]) [11] (.nm 11) (.var 4) [(.cmp .In (.var 11) (.var 5))])), (.ifs (.cmp .Eq (.var 7) (.lst [])) [(.ret (.tup [(.cst (.str "shut")), (.var 5)]))] []), (.asg (.tup [(.nm 8), (.nm 9)]) .nev), (.asg (.nm 10) (.lst [(.var 9)])), (.while (.cmp .IsNot (.sub (.var 6) (.sub (.var 10) (.neg (.cst (.int 1))))) (.cst .non)) [(.expr (.bm .append (.var 10) [(.sub (.var 6) (.sub (.var 10) (.neg (.cst (.int 1)))))]))]), (.ret (.tup [(.cst (.str "way")), (.bf .list [.nev]), (.var 8), (.var 5)]))] }
def d_Field_init : FDef := { np := 4, df := [], N := ["self", "board", "rules", "own", "cell"], il := [(.setFld (.var 0) "board" (.var 1)), (.setFld (.var 0) "rules" (.var 2)), (.setFld (.var 0) "own" .dnew), (.for (.nm 4) (.var 3) [(.setSub (.fld (.var 0) "own") (.var 4) (.cst (.bl true)))]), (.setFld (.var 0) "asked" .dnew), (.setFld (.var 0) "others" .dnew), (.for (.nm 4) (.meth (.var 1) "cells" []) [(.ifs (.cmp .NotIn (.var 4) (.fld (.var 0) "own")) [(.setSub (.fld (.var 0) "others") (.var 4) (.cst (.bl true)))] [])])] }
def d_Field_near_foreign : FDef := { np := 2, df := [], N := ["self", "cell", "x", "y", "z", "gap", "down", "across", "spot"], il := [(.asg (.tup [(.nm 2), (.nm 3), (.nm 4)]) (.var 1)), (.asg (.nm 5) (.fld (.fld (.var 0) "rules") "gap")), (.for (.nm 6) (.range2 (.bin .Sub (.cst (.int 0)) (.var 5)) (.bin .Add (.var 5) (.cst (.int 1)))) [(.for (.nm 7) (.range2 (.bin .Sub (.cst (.int 0)) (.var 5)) (.bin .Add (.var 5) (.cst (.int 1)))) [(.ifs (.cmp .In (.tup [(.bin .Add (.var 2) (.var 7)), (.bin .Add (.var 3) (.var 6)), (.var 4)]) (.fld (.var 0) "others")) [(.ret (.cst (.bl true)))] [])])]), (.for (.nm 8) (.lst [(.tup [(.bin .Sub (.var 2) (.cst (.int 1))), (.var 3), (.var 4)]), (.tup [(.bin .Add (.var 2) (.cst (.int 1))), (.var 3), (.var 4)]), (.tup [(.var 2), (.bin .Sub (.var 3) (.cst (.int 1))), (.var 4)]), (.tup [(.var 2), (.bin .Add (.var 3) (.cst (.int 1))), (.var 4)])]) [(.ifs (.cmp .In (.var 8) (.fld (.var 0) "others")) [(.ret (.cst (.bl true)))] [])]), (.ret (.andE (.meth (.fld (.var 0) "board") "has_hole" [(.var 2), (.var 3)]) (.meth (.var 0) "foreign_column" [(.var 2), (.var 3)])))] }
def d_Field_foreign_column : FDef := { np := 3, df := [], N := ["self", "x", "y", "z"], il := [(.ret (.bf .any [(.comp (.cmp .In (.tup [(.var 1), (.var 2), (.var 3)]) (.fld (.var 0) "others")) [3] (.nm 3) (.range1 (.fld (.fld (.var 0) "board") "layers")) [])]))] }
def d_Field_kept_clear : FDef := { np := 2, df := [], N := ["self", "cell", "x", "y", "z", "left", "above", "wide", "high", "layer"], il := [(.asg (.tup [(.nm 2), (.nm 3), (.nm 4)]) (.var 1)), (.for (.tup [(.nm 5), (.nm 6), (.nm 7), (.nm 8), (.nm 9)]) (.fld (.fld (.var 0) "rules") "keeps") [(.ifs (.andE (.cmp .Eq (.var 4) (.var 9)) (.andE (.cmp2 .LtE .Lt (.var 5) (.var 2) (.bin .Add (.var 5) (.var 7))) (.cmp2 .LtE .Lt (.var 6) (.var 3) (.bin .Add (.var 6) (.var 8))))) [(.ret (.cst (.bl true)))] [])]), (.ret (.cst (.bl false)))] }
def d_Field_price : FDef := { np := 2, df := [], N := ["self", "cell"], il := [(.ifs (.cmp .NotIn (.var 1) (.fld (.var 0) "asked")) [(.setSub (.fld (.var 0) "asked") (.var 1) (.meth (.var 0) "is_open" [(.var 1)]))] []), (.ifs (.sub (.fld (.var 0) "asked") (.var 1)) [(.ret (.cst (.int 1)))] []), (.ret (.cst .non))] }
def d_Field_is_open : FDef := { np := 2, df := [], N := ["self", "cell"], il := [(.ifs (.cmp .In (.var 1) (.fld (.var 0) "own")) [(.ret (.cst (.bl true)))] []), (.ret (.notE (.orE (.cmp .In (.var 1) (.fld (.var 0) "others")) (.orE (.meth (.var 0) "kept_clear" [(.var 1)]) (.meth (.var 0) "near_foreign" [(.var 1)])))))] }
def d_Field_through : FDef := { np := 3, df := [], N := ["self", "x", "y"], il := [(.ifs (.meth (.var 0) "foreign_column" [(.var 1), (.var 2)]) [(.ret (.cst .non))] []), (.ifs (.meth (.fld (.var 0) "board") "has_hole" [(.var 1), (.var 2)]) [(.ret (.glo "OLD_HOLE"))] []), (.ret (.glo "NEW_HOLE"))] }
def d_put_way : FDef := { np := 2, df := [], N := ["board", "cells", "k"], il := [(.expr (.meth (.var 0) "put" [(.var 1)])), (.for (.nm 2) (.range2 (.cst (.int 1)) (.bf .len [(.var 1)])) [(.ifs (.cmp .NotEq (.sub (.sub (.var 1) (.var 2)) (.cst (.int 2))) (.sub (.sub (.var 1) (.bin .Sub (.var 2) (.cst (.int 1)))) (.cst (.int 2)))) [(.expr (.meth (.var 0) "drill" [(.sub (.sub (.var 1) (.var 2)) (.cst (.int 0))), (.sub (.sub (.var 1) (.var 2)) (.cst (.int 1)))]))] [])])] }
def d_way_for : FDef := { np := 3, df := [], N := ["board", "rules", "spots", "home", "goals", "spot", "field", "price", "through", "cell", "x", "y"], il := [(.asg (.nm 3) (.call "island_of" [(.var 0), (.sub (.var 2) (.cst (.int 0)))])), (.asg (.nm 4) (.lst [])), (.for (.nm 5) (.var 2) [(.ifs (.andE (.cmp .NotIn (.var 5) (.var 3)) (.cmp .NotIn (.var 5) (.var 4))) [(.asg (.nm 4) (.bin .Add (.var 4) (.call "island_of" [(.var 0), (.var 5)])))] [])]), (.ifs (.cmp .Eq (.var 4) (.lst [])) [(.ret (.cst .non))] []), (.asg (.nm 6) (.mk "Field" [(.var 0), (.var 1), (.bin .Add (.var 3) (.var 4))])), .nev, .nev, (.ret (.call "wave" [(.tup [(.fld (.var 0) "wide"), (.fld (.var 0) "high"), (.fld (.var 0) "layers")]), (.var 7), (.var 8), (.var 3), (.var 4)]))] }
def d_lay_net : FDef := { np := 3, df := [], N := ["board", "rules", "spots", "ways", "found"], il := [(.asg (.nm 3) (.lst [])), (.asg (.nm 4) (.call "way_for" [(.var 0), (.var 1), (.var 2)])), (.while (.cmp .IsNot (.var 4) (.cst .non)) [(.ifs (.cmp .Eq (.sub (.var 4) (.cst (.int 0))) (.cst (.str "shut"))) [(.ret (.tup [(.var 3), (.sub (.var 4) (.cst (.int 1)))]))] []), (.expr (.call "put_way" [(.var 0), (.sub (.var 4) (.cst (.int 1)))])), (.expr (.bm .append (.var 3) [(.sub (.var 4) (.cst (.int 1)))])), (.asg (.nm 4) (.call "way_for" [(.var 0), (.var 1), (.var 2)]))]), (.ret (.tup [(.var 3), (.cst .non)]))] }
def d_check_lay : FDef := { np := 4, df := [], N := ["board", "rules", "drawing", "places", "row"], il := [(.ifs (.orE (.cmp .NotEq (.fld (.var 1) "width") (.cst (.int 1))) (.cmp .NotEq (.fld (.var 1) "rim") (.cst (.int 0)))) [(.raise "NoRules")] []), (.ifs (.cmp .NotEq (.comp (.var 4) [4] (.nm 4) (.call "against" [(.var 0), (.var 2), (.var 3)]) [(.cmp .NotEq (.sub (.var 4) (.cst (.int 0))) (.cst (.str "open")))]) (.lst [])) [(.raise "NoLay")] [])] }
def d_checked_order : FDef := { np := 2, df := [], N := ["drawing", "order", "names", "net", "name"], il := [(.asg (.nm 2) (.comp (.sub (.var 3) (.cst (.int 0))) [3] (.nm 3) (.fld (.var 0) "nets") [])), (.ifs (.cmp .Is (.var 1) (.cst .non)) [(.ret (.var 2))] []), (.ifs (.orE (.notE (.isi (.var 1) "list")) (.notE (.bf .all [(.comp (.isi (.var 4) "str") [4] (.nm 4) (.var 1) [])]))) [(.raise "NoDrawing")] []), (.ifs (.cmp .NotEq (.bf .sorted [(.var 1)]) (.bf .sorted [(.var 2)])) [(.raise "NoDrawing")] []), (.ret (.bf .list [(.var 1)]))] }
def d_lay_all : FDef := { np := 5, df := [.non], N := ["board", "rules", "drawing", "places", "order", "names", "other", "nets", "name", "pins", "ways", "spots", "found", "numbers", "pin", "cells"], il := [(.asg (.nm 5) (.call "checked_order" [(.var 2), (.var 4)])), (.expr (.call "check_lay" [(.var 0), (.var 1), (.var 2), (.var 3)])), (.asg (.nm 6) (.meth (.var 0) "copy" [])), (.asg (.nm 7) .dnew), (.for (.tup [(.nm 8), (.nm 9)]) (.fld (.var 2) "nets") [(.setSub (.var 7) (.var 8) (.bf .sorted [(.var 9)]))]), (.asg (.nm 10) (.lst [])), (.for (.nm 8) (.var 5) [(.asg (.nm 11) (.comp (.sub (.var 3) (.var 14)) [14] (.nm 14) (.sub (.var 7) (.var 8)) [])), (.ifs (.cmp .NotEq (.var 11) (.lst [])) [(.asg (.tup [(.nm 12), (.nm 13)]) (.call "lay_net" [(.var 6), (.var 1), (.var 11)])), (.ifs (.cmp .IsNot (.var 13) (.cst .non)) [(.ret (.tup [(.cst (.str "shut")), (.var 8), (.bin .Add (.var 10) (.comp (.tup [(.var 8), (.var 15)]) [15] (.nm 15) (.var 12) [])), (.var 13)]))] []), (.asg (.nm 10) (.bin .Add (.var 10) (.comp (.tup [(.var 8), (.var 15)]) [15] (.nm 15) (.var 12) [])))] [])]), (.ret (.tup [(.cst (.str "laid")), (.var 6), (.var 10)]))] }
def d_is_measure : FDef := { np := 2, df := [], N := ["number", "most"], il := [(.ret (.andE (.isi (.var 0) "int") (.andE (.notE (.isi (.var 0) "bool")) (.cmp2 .LtE .LtE (.cst (.int 1)) (.var 0) (.var 1)))))] }
def d_Board_init : FDef := { np := 4, df := [.int 1], N := ["self", "wide", "high", "layers", "z"], il := [(.ifs (.orE (.notE (.call "is_measure" [(.var 1), (.glo "MOST")])) (.orE (.notE (.call "is_measure" [(.var 2), (.glo "MOST")])) (.notE (.call "is_measure" [(.var 3), (.glo "MOST_LAYERS")])))) [(.raise "NoBoard")] []), (.setFld (.var 0) "wide" (.var 1)), (.setFld (.var 0) "high" (.var 2)), (.setFld (.var 0) "layers" (.var 3)), (.setFld (.var 0) "copper" (.comp (.bin .Mult (.lst [(.cst (.int 0))]) (.var 2)) [4] (.nm 4) (.range1 (.var 3)) [])), (.setFld (.var 0) "drilled" (.bin .Mult (.lst [(.cst (.int 0))]) (.var 2)))] }
def d_Board_is_square : FDef := { np := 3, df := [], N := ["self", "x", "y"], il := [(.ret (.andE (.cmp2 .LtE .Lt (.cst (.int 0)) (.var 1) (.fld (.var 0) "wide")) (.cmp2 .LtE .Lt (.cst (.int 0)) (.var 2) (.fld (.var 0) "high"))))] }
def d_Board_check : FDef := { np := 2, df := [], N := ["self", "cells", "x", "y", "z"], il := [(.for (.tup [(.nm 2), (.nm 3), (.nm 4)]) (.var 1) [(.ifs (.orE (.notE (.meth (.var 0) "is_square" [(.var 2), (.var 3)])) (.notE (.cmp2 .LtE .Lt (.cst (.int 0)) (.var 4) (.fld (.var 0) "layers")))) [(.raise "NoPlace")] [])])] }
def d_Board_put : FDef := { np := 2, df := [], N := ["self", "cells", "x", "y", "z"], il := [(.expr (.meth (.var 0) "check" [(.var 1)])), (.for (.tup [(.nm 2), (.nm 3), (.nm 4)]) (.var 1) [(.setSub (.sub (.fld (.var 0) "copper") (.var 4)) (.var 3) (.bin .BitOr (.sub (.sub (.fld (.var 0) "copper") (.var 4)) (.var 3)) (.bin .LShift (.cst (.int 1)) (.var 2))))])] }
def d_Board_drill : FDef := { np := 3, df := [], N := ["self", "x", "y"], il := [(.expr (.meth (.var 0) "check" [(.lst [(.tup [(.var 1), (.var 2), (.cst (.int 0))])])])), (.setSub (.fld (.var 0) "drilled") (.var 2) (.bin .BitOr (.sub (.fld (.var 0) "drilled") (.var 2)) (.bin .LShift (.cst (.int 1)) (.var 1))))] }
def d_Board_is_copper : FDef := { np := 4, df := [.int 0], N := ["self", "x", "y", "z"], il := [(.ifs (.orE (.notE (.meth (.var 0) "is_square" [(.var 1), (.var 2)])) (.notE (.cmp2 .LtE .Lt (.cst (.int 0)) (.var 3) (.fld (.var 0) "layers")))) [(.ret (.cst (.bl false)))] []), (.ret (.cmp .Eq (.bin .BitAnd (.bin .RShift (.sub (.sub (.fld (.var 0) "copper") (.var 3)) (.var 2)) (.var 1)) (.cst (.int 1))) (.cst (.int 1))))] }
def d_Board_has_hole : FDef := { np := 3, df := [], N := ["self", "x", "y"], il := [(.ret (.andE (.meth (.var 0) "is_square" [(.var 1), (.var 2)]) (.cmp .Eq (.bin .BitAnd (.bin .RShift (.sub (.fld (.var 0) "drilled") (.var 2)) (.var 1)) (.cst (.int 1))) (.cst (.int 1)))))] }
def d_Board_squares : FDef := { np := 1, df := [], N := ["self", "k"], il := [(.ret (.comp (.bf .divmod [(.var 1), (.fld (.var 0) "high")]) [1] (.nm 1) (.range1 (.bin .Mult (.fld (.var 0) "wide") (.fld (.var 0) "high"))) []))] }
def d_Board_cells : FDef := { np := 2, df := [.non], N := ["self", "z", "found", "x", "y", "layer"], il := [(.asg (.nm 2) (.lst [])), (.for (.tup [(.nm 3), (.nm 4)]) (.meth (.var 0) "squares" []) [(.for (.nm 5) (.range1 (.fld (.var 0) "layers")) [(.ifs (.andE (.orE (.cmp .Is (.var 1) (.cst .non)) (.cmp .Eq (.var 1) (.var 5))) (.meth (.var 0) "is_copper" [(.var 3), (.var 4), (.var 5)])) [(.expr (.bm .append (.var 2) [(.tup [(.var 3), (.var 4), (.var 5)])]))] [])])]), (.ret (.var 2))] }
def d_Board_holes : FDef := { np := 1, df := [], N := ["self", "spot"], il := [(.ret (.comp (.var 1) [1] (.nm 1) (.meth (.var 0) "squares" []) [(.meth (.var 0) "has_hole" [(.sub (.var 1) (.cst (.int 0))), (.sub (.var 1) (.cst (.int 1)))])]))] }
def d_Board_filled : FDef := { np := 3, df := [], N := ["self", "cells", "holes", "x", "y"], il := [(.expr (.meth (.var 0) "put" [(.var 1)])), (.for (.tup [(.nm 3), (.nm 4)]) (.var 2) [(.expr (.meth (.var 0) "drill" [(.var 3), (.var 4)]))]), (.ret (.var 0))] }
def d_Board_copy : FDef := { np := 1, df := [], N := ["self"], il := [(.ret (.meth (.mk "Board" [(.fld (.var 0) "wide"), (.fld (.var 0) "high"), (.fld (.var 0) "layers")]) "filled" [(.meth (.var 0) "cells" []), (.meth (.var 0) "holes" [])]))] }
def d_Board_turned : FDef := { np := 1, df := [], N := ["self", "last", "cells", "x", "y", "z"], il := [(.asg (.nm 1) (.bin .Sub (.fld (.var 0) "high") (.cst (.int 1)))), (.asg (.nm 2) (.comp (.tup [(.bin .Sub (.var 1) (.var 4)), (.var 3), (.var 5)]) [3, 4, 5] (.tup [(.nm 3), (.nm 4), (.nm 5)]) (.meth (.var 0) "cells" []) [])), (.ret (.meth (.mk "Board" [(.fld (.var 0) "high"), (.fld (.var 0) "wide"), (.fld (.var 0) "layers")]) "filled" [(.var 2), (.comp (.tup [(.bin .Sub (.var 1) (.var 4)), (.var 3)]) [3, 4] (.tup [(.nm 3), (.nm 4)]) (.meth (.var 0) "holes" []) [])]))] }
def d_check_spans : FDef := { np := 1, df := [], N := ["spans", "nets", "net", "left", "right"], il := [(.asg (.nm 1) (.comp (.var 2) [2, 3, 4] (.tup [(.nm 2), (.nm 3), (.nm 4)]) (.var 0) [])), (.for (.tup [(.nm 2), (.nm 3), (.nm 4)]) (.var 0) [(.ifs (.orE (.cmp .Gt (.var 3) (.var 4)) (.cmp .Gt (.bm .count (.var 1) [(.var 2)]) (.cst (.int 1)))) [(.raise "NoSpan")] [])])] }
def d_row_for : FDef := { np := 2, df := [], N := ["rows", "left", "row"], il := [(.for (.nm 2) (.var 0) [(.ifs (.cmp .Lt (.sub (.sub (.var 2) (.neg (.cst (.int 1)))) (.cst (.int 2))) (.var 1)) [(.ret (.var 2))] [])]), (.ret (.cst .non))] }
def d_lanes : FDef := { np := 1, df := [], N := ["spans", "rows", "column", "span", "row", "nets", "one", "net", "left", "right"], il := [(.expr (.call "check_spans" [(.var 0)])), (.asg (.nm 1) (.lst [])), (.asg (.nm 2) (.cst .non)), (.for (.nm 3) .nev [(.asg (.nm 4) (.call "row_for" [(.var 1), (.sub (.var 3) (.cst (.int 1)))])), (.ifs (.cmp .Is (.var 4) (.cst .non)) [(.expr (.bm .append (.var 1) [(.lst [(.var 3)])])), (.asg (.nm 2) (.sub (.var 3) (.cst (.int 1))))] [(.expr (.bm .append (.var 4) [(.var 3)]))])]), (.asg (.nm 5) (.bf .sorted [(.comp (.var 7) [7, 8, 9] (.tup [(.nm 7), (.nm 8), (.nm 9)]) (.var 0) [(.andE (.cmp .IsNot (.var 2) (.cst .non)) (.cmp2 .LtE .LtE (.var 8) (.var 2) (.var 9)))])])), (.ret (.tup [(.cst (.str "lanes")), (.var 1), (.var 2), (.var 5)]))] }
def d_is_name : FDef := { np := 1, df := [], N := ["text", "sign"], il := [(.ifs (.orE (.notE (.isi (.var 0) "str")) (.orE (.cmp .Eq (.var 0) (.cst (.str ""))) (.orE (.cmp .Gt (.bf .len [(.var 0)]) (.glo "MOST_SIGNS")) (.cmp .NotIn (.sub (.var 0) (.cst (.int 0))) (.glo "SMALL"))))) [(.ret (.cst (.bl false)))] []), (.ret (.bf .all [(.comp (.cmp .In (.var 1) (.bin .Add (.glo "SMALL") (.glo "FIGURES_drawings"))) [1] (.nm 1) (.var 0) [])]))] }
def d_are_tuples : FDef := { np := 2, df := [], N := ["things", "many", "thing"], il := [(.ret (.bf .all [(.comp (.andE (.isi (.var 2) "tuple") (.cmp .Eq (.bf .len [(.var 2)]) (.var 1))) [2] (.nm 2) (.var 0) [])]))] }
def d_is_pin : FDef := { np := 1, df := [], N := ["thing"], il := [(.ifs (.orE (.notE (.isi (.var 0) "tuple")) (.cmp .NotEq (.bf .len [(.var 0)]) (.cst (.int 2)))) [(.ret (.cst (.bl false)))] []), (.ret (.andE (.isi (.sub (.var 0) (.cst (.int 0))) "str") (.call "is_whole" [(.sub (.var 0) (.cst (.int 1)))])))] }
def d_check_kinds : FDef := { np := 2, df := [], N := ["parts", "nets", "name", "pins", "pin"], il := [(.ifs (.orE (.notE (.call "are_tuples" [(.var 0), (.cst (.int 3))])) (.notE (.call "are_tuples" [(.var 1), (.cst (.int 2))]))) [(.raise "NoDrawing")] []), (.for (.tup [(.nm 2), (.nm 3)]) (.var 1) [(.ifs (.orE (.notE (.isi (.var 3) "list")) (.notE (.bf .all [(.comp (.call "is_pin" [(.var 4)]) [4] (.nm 4) (.var 3) [])]))) [(.raise "NoDrawing")] [])])] }
def d_check_names : FDef := { np := 1, df := [], N := ["names", "name"], il := [(.for (.nm 1) (.var 0) [(.ifs (.orE (.notE (.call "is_name" [(.var 1)])) (.cmp .Gt (.bm .count (.var 0) [(.var 1)]) (.cst (.int 1)))) [(.raise "NoDrawing")] [])])] }
def d_pins_of : FDef := { np := 1, df := [], N := ["parts", "found", "name", "kind", "many", "number"], il := [(.asg (.nm 1) (.lst [])), (.for (.tup [(.nm 2), (.nm 3), (.nm 4)]) (.var 0) [(.ifs (.orE (.notE (.call "is_name" [(.var 3)])) (.orE (.notE (.call "is_whole" [(.var 4)])) (.orE (.cmp .Lt (.var 4) (.cst (.int 1))) (.cmp .Gt (.var 4) (.glo "MOST_PINS"))))) [(.raise "NoDrawing")] []), (.expr (.bm .extend (.var 1) [(.comp (.tup [(.var 2), (.var 5)]) [5] (.nm 5) (.range1 (.var 4)) [])]))]), (.ret (.bf .sorted [(.var 1)]))] }
def d_Drawing_init : FDef := { np := 3, df := [], N := ["self", "parts", "nets", "name", "pins", "pin", "part", "net"], il := [(.ifs (.orE (.cmp .Gt (.bf .len [(.var 1)]) (.glo "MOST_PARTS")) (.cmp .Gt (.bf .len [(.var 2)]) (.glo "MOST_NETS"))) [(.raise "NoDrawing")] []), (.expr (.call "check_kinds" [(.var 1), (.var 2)])), (.expr (.call "check_names" [(.comp (.sub (.var 6) (.cst (.int 0))) [6] (.nm 6) (.var 1) [])])), (.expr (.call "check_names" [(.comp (.sub (.var 7) (.cst (.int 0))) [7] (.nm 7) (.var 2) [])])), (.setFld (.var 0) "parts" (.comp (.bf .tuple [(.var 6)]) [6] (.nm 6) (.var 1) [])), (.setFld (.var 0) "nets" (.comp (.tup [(.var 3), (.bf .list [(.var 4)])]) [3, 4] (.tup [(.nm 3), (.nm 4)]) (.var 2) [])), (.setFld (.var 0) "homes" .dnew), (.for (.tup [(.nm 3), (.nm 4)]) (.fld (.var 0) "nets") [(.for (.nm 5) (.var 4) [(.ifs (.cmp .In (.var 5) (.fld (.var 0) "homes")) [(.raise "NoDrawing")] []), (.setSub (.fld (.var 0) "homes") (.var 5) (.var 3))])]), (.ifs (.orE (.cmp .In (.lst []) (.comp (.var 4) [3, 4] (.tup [(.nm 3), (.nm 4)]) (.fld (.var 0) "nets") [])) (.cmp .NotEq (.bf .sorted [(.fld (.var 0) "homes")]) (.call "pins_of" [(.fld (.var 0) "parts")]))) [(.raise "NoDrawing")] [])] }
def d_Drawing_pins : FDef := { np := 1, df := [], N := ["self"], il := [(.ret (.call "pins_of" [(.fld (.var 0) "parts")]))] }
def d_Drawing_net_of : FDef := { np := 2, df := [], N := ["self", "pin"], il := [(.ifs (.orE (.notE (.call "is_pin" [(.var 1)])) (.cmp .NotIn (.var 1) (.fld (.var 0) "homes"))) [(.raise "NoPin")] []), (.ret (.sub (.fld (.var 0) "homes") (.var 1)))] }
def d_sign : FDef := { np := 4, df := [], N := ["board", "x", "y", "z"], il := [(.ret (.sub (.glo "SIGNS") (.bin .Add (.bin .Mult (.cst (.int 2)) (.bf .int [(.meth (.var 0) "has_hole" [(.var 1), (.var 2)])])) (.bf .int [(.meth (.var 0) "is_copper" [(.var 1), (.var 2), (.var 3)])]))))] }
def d_picture : FDef := { np := 1, df := [], N := ["board", "rows", "z", "y", "x", "row"], il := [(.asg (.nm 1) (.lst [.nev])), (.for (.nm 2) (.range1 (.fld (.var 0) "layers")) [(.for (.nm 3) (.range1 (.fld (.var 0) "high")) [(.expr (.bm .append (.var 1) [(.bm .join (.cst (.str "")) [(.comp (.call "sign" [(.var 0), (.var 4), (.var 3), (.var 2)]) [4] (.nm 4) (.range1 (.fld (.var 0) "wide")) [])])]))])]), (.ret (.bm .join (.cst (.str "")) [(.comp (.bin .Add (.var 5) (.cst (.str "\n"))) [5] (.nm 5) (.var 1) [])]))] }
def d_sure : FDef := { np := 1, df := [], N := ["good"], il := [(.ifs (.notE (.var 0)) [(.raise "NoPicture")] [])] }
def d_measure : FDef := { np := 1, df := [], N := ["word"], il := [(.expr (.call "sure" [(.andE (.cmp2 .Lt .LtE (.cst (.int 0)) (.bf .len [(.var 0)]) (.glo "LONGEST")) (.cmp .Eq (.bm .strip (.var 0) [(.glo "FIGURES_pictures")]) (.cst (.str ""))))])), (.ret (.bf .int [(.var 0)]))] }
def d_empty_board : FDef := { np := 1, df := [], N := ["words", "numbers", "board", "word"], il := [(.expr (.call "sure" [(.andE (.cmp .Eq (.bf .len [(.var 0)]) (.cst (.int 4))) (.cmp .Eq (.sub (.var 0) (.cst (.int 0))) (.cst (.str "board"))))])), (.asg (.nm 1) (.comp (.call "measure" [(.var 3)]) [3] (.nm 3) (.slc (.var 0) (some (.cst (.int 1))) none) [])), (.try [(.asg (.nm 2) (.mk "Board" [(.sub (.var 1) (.cst (.int 0))), (.sub (.var 1) (.cst (.int 1))), (.sub (.var 1) (.cst (.int 2)))]))] "NoBoard" none [.nev]), (.ret (.var 2))] }
def d_put_sign : FDef := { np := 5, df := [], N := ["board", "x", "y", "z", "one"], il := [(.expr (.call "sure" [(.cmp .In (.var 4) (.glo "SIGNS"))])), (.ifs (.cmp .In (.var 4) (.cst (.str "#O"))) [(.expr (.meth (.var 0) "put" [(.lst [(.tup [(.var 1), (.var 2), (.var 3)])])]))] []), (.ifs (.cmp .In (.var 4) (.cst (.str "oO"))) [(.expr (.meth (.var 0) "drill" [(.var 1), (.var 2)]))] [])] }
def d_read_picture : FDef := { np := 1, df := [], N := ["text", "rows", "board", "k", "row", "z", "y", "x", "one"], il := [(.expr (.call "sure" [(.andE (.isi (.var 0) "str") (.bm .endswith (.var 0) [(.cst (.str "\n"))]))])), (.asg (.nm 1) (.slc (.bm .split (.var 0) [(.cst (.str "\n"))]) none (some (.neg (.cst (.int 1)))))), (.asg (.nm 2) (.call "empty_board" [(.bm .split (.sub (.var 1) (.cst (.int 0))) [(.cst (.str " "))])])), (.expr (.call "sure" [(.cmp .Eq (.bf .len [(.var 1)]) (.bin .Add (.cst (.int 1)) (.bin .Mult (.fld (.var 2) "layers") (.fld (.var 2) "high"))))])), (.for (.tup [(.nm 3), (.nm 4)]) (.enum (.slc (.var 1) (some (.cst (.int 1))) none)) [(.expr (.call "sure" [(.cmp .Eq (.bf .len [(.var 4)]) (.fld (.var 2) "wide"))])), (.asg (.tup [(.nm 5), (.nm 6)]) (.bf .divmod [(.var 3), (.fld (.var 2) "high")])), (.for (.tup [(.nm 7), (.nm 8)]) (.enum (.var 4)) [(.expr (.call "put_sign" [(.var 2), (.var 7), (.var 6), (.var 5), (.var 8)]))])]), (.expr (.call "sure" [(.cmp .Eq (.call "picture" [(.var 2)]) (.var 0))])), (.ret (.var 2))] }
def d_within : FDef := { np := 3, df := [], N := ["number", "least", "most"], il := [(.ret (.andE (.call "is_whole" [(.var 0)]) (.cmp2 .LtE .LtE (.var 1) (.var 0) (.var 2))))] }
def d_is_keep : FDef := { np := 1, df := [], N := ["keep", "x", "y", "wide", "high", "z", "ahead", "number"], il := [(.ifs (.orE (.notE (.isi (.var 0) "tuple")) (.cmp .NotEq (.bf .len [(.var 0)]) (.cst (.int 5)))) [(.ret (.cst (.bl false)))] []), (.asg (.tup [(.nm 1), (.nm 2), (.nm 3), (.nm 4), (.nm 5)]) (.var 0)), (.asg (.nm 6) (.comp (.call "within" [(.var 7), (.cst (.int 0)), (.glo "MOST_NUMBER")]) [7] (.nm 7) (.tup [(.var 1), (.var 2), (.var 5)]) [])), (.ret (.andE (.bf .all [(.var 6)]) (.andE (.call "within" [(.var 3), (.cst (.int 1)), (.glo "MOST_NUMBER")]) (.call "within" [(.var 4), (.cst (.int 1)), (.glo "MOST_NUMBER")]))))] }
def d_Rules_init : FDef := { np := 5, df := [], N := ["self", "gap", "width", "rim", "keeps", "keep"], il := [(.ifs (.orE (.notE (.call "within" [(.var 1), (.cst (.int 0)), (.cst (.int 2))])) (.orE (.notE (.call "within" [(.var 2), (.cst (.int 1)), (.cst (.int 3))])) (.notE (.call "within" [(.var 3), (.cst (.int 0)), (.cst (.int 1))])))) [(.raise "NoRules")] []), (.ifs (.orE (.cmp .Gt (.bf .len [(.var 4)]) (.glo "MOST_KEEPS")) (.notE (.bf .all [(.comp (.call "is_keep" [(.var 5)]) [5] (.nm 5) (.var 4) [])]))) [(.raise "NoRules")] []), (.setFld (.var 0) "gap" (.var 1)), (.setFld (.var 0) "width" (.var 2)), (.setFld (.var 0) "rim" (.var 3)), (.setFld (.var 0) "keeps" (.comp (.bf .tuple [(.var 5)]) [5] (.nm 5) (.var 4) []))] }
def d_Rules_told : FDef := { np := 1, df := [], N := ["self", "rows", "keep", "number", "row"], il := [(.asg (.nm 1) (.lst [(.bin .Add (.cst (.str "gap ")) (.bf .str [(.fld (.var 0) "gap")])), (.bin .Add (.cst (.str "width ")) (.bf .str [(.fld (.var 0) "width")])), (.bin .Add (.cst (.str "rim ")) (.bf .str [(.fld (.var 0) "rim")]))])), (.for (.nm 2) (.fld (.var 0) "keeps") [(.expr (.bm .append (.var 1) [(.bm .join (.cst (.str " ")) [(.bin .Add (.lst [(.cst (.str "keep"))]) (.comp (.bf .str [(.var 3)]) [3] (.nm 3) (.var 2) []))])]))]), (.ret (.bm .join (.cst (.str "")) [(.comp (.bin .Add (.var 4) (.cst (.str "\n"))) [4] (.nm 4) (.var 1) [])]))] }
def d_check_numbers : FDef := { np := 2, df := [], N := ["numbers", "least", "number"], il := [(.for (.nm 2) (.var 0) [(.ifs (.orE (.notE (.call "is_whole" [(.var 2)])) (.andE (.cmp .IsNot (.var 1) (.cst .non)) (.cmp .Lt (.var 2) (.var 1)))) [(.raise "NoShape")] [])])] }
def d_places_of : FDef := { np := 4, df := [], N := ["x", "y", "wide", "high", "found", "across", "down"], il := [(.asg (.nm 4) (.lst [])), (.for (.nm 5) (.range2 (.var 0) (.bin .Add (.var 0) (.var 2))) [(.expr (.bm .extend (.var 4) [(.comp (.tup [(.var 5), (.var 6)]) [6] (.nm 6) (.range2 (.var 1) (.bin .Add (.var 1) (.var 3))) [])]))]), (.ret (.var 4))] }
def d_texted : FDef := { np := 2, df := [], N := ["word", "numbers", "number"], il := [(.ret (.bm .join (.cst (.str " ")) [(.bin .Add (.lst [(.var 0)]) (.comp (.bf .str [(.var 2)]) [2] (.nm 2) (.var 1) []))]))] }
def d_Shape_cells : FDef := { np := 1, df := [], N := ["self"], il := [(.ret (.lst []))] }
def d_Shape_ends : FDef := { np := 1, df := [], N := ["self"], il := [(.ret (.lst []))] }
def d_Shape_turned : FDef := { np := 2, df := [], N := ["self", "high"], il := [(.ret (.var 0))] }
def d_Shape_told : FDef := { np := 1, df := [], N := ["self"], il := [(.ret (.cst (.str "")))] }
def d_Block_init : FDef := { np := 5, df := [], N := ["self", "x", "y", "wide", "high"], il := [(.expr (.call "check_numbers" [(.lst [(.var 1), (.var 2)]), (.cst .non)])), (.expr (.call "check_numbers" [(.lst [(.var 3), (.var 4)]), (.cst (.int 1))])), (.setFld (.var 0) "x" (.var 1)), (.setFld (.var 0) "y" (.var 2)), (.setFld (.var 0) "wide" (.var 3)), (.setFld (.var 0) "high" (.var 4))] }
def d_Block_cells : FDef := { np := 1, df := [], N := ["self"], il := [(.ret (.call "places_of" [(.fld (.var 0) "x"), (.fld (.var 0) "y"), (.fld (.var 0) "wide"), (.fld (.var 0) "high")]))] }
def d_Block_ends : FDef := { np := 1, df := [], N := ["self"], il := [(.ret (.lst [(.tup [(.fld (.var 0) "x"), (.fld (.var 0) "y")]), (.tup [(.bin .Sub (.bin .Add (.fld (.var 0) "x") (.fld (.var 0) "wide")) (.cst (.int 1))), (.bin .Sub (.bin .Add (.fld (.var 0) "y") (.fld (.var 0) "high")) (.cst (.int 1)))])]))] }
def d_Block_turned : FDef := { np := 2, df := [], N := ["self", "high"], il := [(.ret (.mk "Block" [(.bin .Sub (.bin .Sub (.var 1) (.fld (.var 0) "y")) (.fld (.var 0) "high")), (.fld (.var 0) "x"), (.fld (.var 0) "high"), (.fld (.var 0) "wide")]))] }
def d_Block_told : FDef := { np := 1, df := [], N := ["self"], il := [(.ret (.call "texted" [(.cst (.str "block")), (.lst [(.fld (.var 0) "x"), (.fld (.var 0) "y"), (.fld (.var 0) "wide"), (.fld (.var 0) "high")])]))] }
def d__law_cell : FDef := { np := 2, df := [], N := ["script", "k"], il := [(.ifs (.cmp .Lt (.var 1) (.bf .len [(.var 0)])) [(.ret (.sub (.var 0) (.var 1)))] []), (.ret (.cst (.int 0)))] }
def d__law_bare : FDef := { np := 1, df := [], N := ["more", "drawing", "places"], il := [(.asg (.nm 1) (.mk "Drawing" [(.lst [(.tup [(.cst (.str "a")), (.cst (.str "r")), (.cst (.int 2))])]), (.lst [(.tup [(.cst (.str "n")), (.lst [(.tup [(.cst (.str "a")), (.cst (.int 0))]), (.tup [(.cst (.str "a")), (.cst (.int 1))])])])])])), (.asg (.nm 2) (.alt (.dct [(.tup [(.cst (.str "a")), (.cst (.int 0))]), (.tup [(.cst (.int 0)), (.cst (.int 0)), (.cst (.int 0))]), (.tup [(.cst (.str "a")), (.cst (.int 1))]), (.tup [(.cst (.int 1)), (.bin .Mod (.var 0) (.cst (.int 2))), (.cst (.int 0))])] true) (.dct [(.tup [(.cst (.str "a")), (.cst (.int 0))]), (.tup [(.cst (.int 0)), (.cst (.int 0)), (.cst (.int 0))]), (.tup [(.cst (.str "a")), (.cst (.int 1))]), (.tup [(.cst (.int 1)), (.bin .Mod (.var 0) (.cst (.int 2))), (.cst (.int 0))])] false))), (.ret (.call "lay_all" [(.mk "Board" [(.cst (.int 2)), (.cst (.int 2))]), (.mk "Rules" [(.cst (.int 0)), (.cst (.int 1)), (.cst (.int 0)), (.lst [])]), (.var 1), (.var 2)]))] }
def d__law_done : FDef := { np := 2, df := [], N := ["k", "more"], il := [(.ifs (.cmp .Eq (.var 0) (.cst (.int 0))) [(.ret (.mk "Block" [(.var 1), (.cst (.int 0)), (.cst (.int 0)), (.cst (.int 1))]))] []), (.ifs (.cmp .Eq (.var 0) (.cst (.int 1))) [(.ret (.mk "Board" [(.cst (.int 0)), (.bin .Add (.cst (.int 1)) (.bin .Mod (.var 1) (.cst (.int 12))))]))] []), (.ifs (.cmp .Eq (.var 0) (.cst (.int 2))) [(.ret (.meth (.mk "Board" [(.cst (.int 2)), (.cst (.int 2))]) "drill" [(.bin .Add (.cst (.int 2)) (.var 1)), (.cst (.int 0))]))] []), (.ifs (.cmp .Eq (.var 0) (.cst (.int 3))) [(.ret (.call "read_picture" [(.bin .Mult (.cst (.str "x")) (.bin .Mod (.var 1) (.cst (.int 5))))]))] []), (.ifs (.cmp .Eq (.var 0) (.cst (.int 4))) [(.ret (.call "near" [(.mk "Board" [(.cst (.int 2)), (.cst (.int 2))]), (.tup [(.bin .Mod (.var 1) (.cst (.int 2))), (.cst (.int 1)), (.cst (.int 0))])]))] []), (.ifs (.cmp .Eq (.var 0) (.cst (.int 5))) [(.ret (.mk "Rules" [(.bin .Add (.cst (.int 3)) (.var 1)), (.cst (.int 1)), (.cst (.int 0)), (.lst [])]))] []), (.ifs (.cmp .Eq (.var 0) (.cst (.int 6))) [(.ret (.mk "Drawing" [(.lst [(.tup [(.cst (.str "a")), (.cst (.str "r")), (.bin .Add (.cst (.int 1)) (.bin .Mod (.var 1) (.cst (.int 8))))])]), (.lst [])]))] []), (.ifs (.cmp .Eq (.var 0) (.cst (.int 7))) [(.ret (.meth (.mk "Drawing" [(.lst [(.tup [(.cst (.str "a")), (.cst (.str "r")), (.cst (.int 1))])]), (.lst [(.tup [(.cst (.str "n")), (.lst [(.tup [(.cst (.str "a")), (.cst (.int 0))])])])])]) "net_of" [(.tup [(.cst (.str "a")), (.bin .Add (.cst (.int 1)) (.var 1))])]))] []), (.ifs (.cmp .Eq (.var 0) (.cst (.int 8))) [(.ret (.call "lanes" [(.lst [(.tup [(.cst (.str "n")), (.bin .Add (.cst (.int 1)) (.var 1)), (.var 1)])])]))] []), (.ret (.call "_law_bare" [(.var 1)]))] }
def d__law_kinds : FDef := { np := 2, df := [], N := ["k", "more", "told", "e"], il := [(.asg (.nm 2) (.lst [])), (.try [(.expr (.call "_law_done" [(.var 0), (.var 1)]))] "CopperError" (some 3) [(.asg (.nm 2) (.lst [(.isx (.var 3) "NoShape"), (.isx (.var 3) "NoBoard"), (.isx (.var 3) "NoPlace"), (.isx (.var 3) "NoPicture")])), (.asg (.nm 2) (.bin .Add (.var 2) (.lst [(.isx (.var 3) "NoCopper"), (.isx (.var 3) "NoRules"), (.isx (.var 3) "NoDrawing"), (.isx (.var 3) "NoPin")]))), (.asg (.nm 2) (.bin .Add (.var 2) (.lst [(.isx (.var 3) "NoSpan"), (.isx (.var 3) "NoLay"), (.isx (.var 3) "ValueError")])))]), (.ret (.var 2))] }
def d_law : FDef := { np := 1, df := [], N := ["script", "more", "rest", "left", "k", "turn", "j"], il := [(.asg (.nm 1) (.bin .Mod (.call "_law_cell" [(.var 0), (.cst (.int 0))]) (.bin .Pow (.cst (.int 10)) (.cst (.int 39))))), (.asg (.nm 2) (.call "_law_cell" [(.var 0), (.cst (.int 1))])), (.asg (.nm 3) (.lrg (.cst (.int 10)))), (.while (.cmp .NotEq (.var 3) (.lst [])) [(.asg (.nm 4) (.bm .popAt (.var 3) [(.bin .Mod (.var 2) (.bf .len [(.var 3)]))])), (.asg (.nm 2) (.bin .FloorDiv (.var 2) (.cst (.int 10)))), (.for (.nm 5) (.range1 (.cst (.int 2))) [(.ifs (.cmp .NotEq (.call "_law_kinds" [(.var 4), (.bin .Add (.var 1) (.var 5))]) (.bin .Add (.comp (.cmp .Eq (.var 4) (.var 6)) [6] (.nm 6) (.range1 (.cst (.int 10))) []) (.lst [(.cst (.bl true))]))) [(.ret (.cst (.bl false)))] [])])]), (.ret (.cst (.bl true)))] }
def tFns : List (Str × FDef) := ([("check_copper", d_check_copper), ("beside", d_beside), ("near", d_near), ("come_to", d_come_to), ("island_of", d_island_of), ("islands", d_islands), ("is_whole", d_is_whole), ("is_cell", d_is_cell), ("check_places", d_check_places), ("homes_of", d_homes_of)] : List (Str × FDef)) ++ ([("opens_of", d_opens_of), ("shorts_of", d_shorts_of), ("against", d_against), ("steps", d_steps), ("spread", d_spread), ("wave", d_wave), ("put_way", d_put_way), ("way_for", d_way_for), ("lay_net", d_lay_net), ("check_lay", d_check_lay)] : List (Str × FDef)) ++ ([("checked_order", d_checked_order), ("lay_all", d_lay_all), ("is_measure", d_is_measure), ("check_spans", d_check_spans), ("row_for", d_row_for), ("lanes", d_lanes), ("is_name", d_is_name), ("are_tuples", d_are_tuples), ("is_pin", d_is_pin), ("check_kinds", d_check_kinds)] : List (Str × FDef)) ++ ([("check_names", d_check_names), ("pins_of", d_pins_of), ("sign", d_sign), ("picture", d_picture), ("sure", d_sure), ("measure", d_measure), ("empty_board", d_empty_board), ("put_sign", d_put_sign), ("read_picture", d_read_picture), ("within", d_within)] : List (Str × FDef)) ++ ([("is_keep", d_is_keep), ("check_numbers", d_check_numbers), ("places_of", d_places_of), ("texted", d_texted), ("_law_cell", d__law_cell), ("_law_bare", d__law_bare), ("_law_done", d__law_done), ("_law_kinds", d__law_kinds), ("law", d_law)] : List (Str × FDef))
def tMks : List (Str × FDef) := ([("Field", d_Field_init), ("Board", d_Board_init), ("Drawing", d_Drawing_init), ("Rules", d_Rules_init), ("Block", d_Block_init)] : List (Str × FDef))
def tMts : List ((Str × Str) × FDef) := ([(("Field", "near_foreign"), d_Field_near_foreign), (("Field", "foreign_column"), d_Field_foreign_column), (("Field", "kept_clear"), d_Field_kept_clear), (("Field", "price"), d_Field_price), (("Field", "is_open"), d_Field_is_open), (("Field", "through"), d_Field_through), (("Board", "is_square"), d_Board_is_square), (("Board", "check"), d_Board_check), (("Board", "put"), d_Board_put), (("Board", "drill"), d_Board_drill)] : List ((Str × Str) × FDef)) ++ ([(("Board", "is_copper"), d_Board_is_copper), (("Board", "has_hole"), d_Board_has_hole), (("Board", "squares"), d_Board_squares), (("Board", "cells"), d_Board_cells), (("Board", "holes"), d_Board_holes), (("Board", "filled"), d_Board_filled), (("Board", "copy"), d_Board_copy), (("Board", "turned"), d_Board_turned), (("Drawing", "pins"), d_Drawing_pins), (("Drawing", "net_of"), d_Drawing_net_of)] : List ((Str × Str) × FDef)) ++ ([(("Rules", "told"), d_Rules_told), (("Shape", "cells"), d_Shape_cells), (("Shape", "ends"), d_Shape_ends), (("Shape", "turned"), d_Shape_turned), (("Shape", "told"), d_Shape_told), (("Block", "cells"), d_Block_cells), (("Block", "ends"), d_Block_ends), (("Block", "turned"), d_Block_turned), (("Block", "told"), d_Block_told)] : List ((Str × Str) × FDef))
def tVals : List (Str × D) := ([("NEW_HOLE", .int 3), ("OLD_HOLE", .int 1), ("MOST", .int 12), ("MOST_LAYERS", .int 3), ("SMALL", .str "abcdefghijklmnopqrstuvwxyz"), ("FIGURES_drawings", .str "0123456789"), ("MOST_PARTS", .int 8), ("MOST_PINS", .int 8), ("MOST_NETS", .int 24), ("MOST_SIGNS", .int 8)] : List (Str × D)) ++ ([("FIGURES_pictures", .str "0123456789"), ("LONGEST", .int 2), ("SIGNS", .str ".#oO"), ("MOST_KEEPS", .int 12), ("MOST_NUMBER", .int 9999999999999999999999999999999999999999)] : List (Str × D))
def tAtts : List (Str × List Str) := ([("Field", ["asked", "board", "others", "own", "rules"]), ("Board", ["copper", "drilled", "high", "layers", "wide"]), ("Drawing", ["homes", "nets", "parts"]), ("Rules", ["gap", "keeps", "rim", "width"]), ("Shape", []), ("Block", ["high", "wide", "x", "y"])] : List (Str × List Str))
def tRss : List Str := (["CopperError", "NoShape", "NoBoard", "NoPlace", "NoPicture", "NoCopper", "NoRules", "NoDrawing", "NoPin", "NoSpan"] : List Str) ++ (["NoLay"] : List Str)
def tExc : List ((Str × Str) × Bool) := ([(("NoBoard", "CopperError"), true), (("NoBoard", "NoBoard"), true), (("NoBoard", "NoCopper"), false), (("NoBoard", "NoDrawing"), false), (("NoBoard", "NoLay"), false), (("NoBoard", "NoPicture"), false), (("NoBoard", "NoPin"), false), (("NoBoard", "NoPlace"), false), (("NoBoard", "NoRules"), false), (("NoBoard", "NoShape"), false)] : List ((Str × Str) × Bool)) ++ ([(("NoBoard", "NoSpan"), false), (("NoBoard", "ValueError"), true), (("NoCopper", "CopperError"), true), (("NoCopper", "NoBoard"), false), (("NoCopper", "NoCopper"), true), (("NoCopper", "NoDrawing"), false), (("NoCopper", "NoLay"), false), (("NoCopper", "NoPicture"), false), (("NoCopper", "NoPin"), false), (("NoCopper", "NoPlace"), false)] : List ((Str × Str) × Bool)) ++ ([(("NoCopper", "NoRules"), false), (("NoCopper", "NoShape"), false), (("NoCopper", "NoSpan"), false), (("NoCopper", "ValueError"), true), (("NoDrawing", "CopperError"), true), (("NoDrawing", "NoBoard"), false), (("NoDrawing", "NoCopper"), false), (("NoDrawing", "NoDrawing"), true), (("NoDrawing", "NoLay"), false), (("NoDrawing", "NoPicture"), false)] : List ((Str × Str) × Bool)) ++ ([(("NoDrawing", "NoPin"), false), (("NoDrawing", "NoPlace"), false), (("NoDrawing", "NoRules"), false), (("NoDrawing", "NoShape"), false), (("NoDrawing", "NoSpan"), false), (("NoDrawing", "ValueError"), true), (("NoLay", "CopperError"), true), (("NoLay", "NoBoard"), false), (("NoLay", "NoCopper"), false), (("NoLay", "NoDrawing"), false)] : List ((Str × Str) × Bool)) ++ ([(("NoLay", "NoLay"), true), (("NoLay", "NoPicture"), false), (("NoLay", "NoPin"), false), (("NoLay", "NoPlace"), false), (("NoLay", "NoRules"), false), (("NoLay", "NoShape"), false), (("NoLay", "NoSpan"), false), (("NoLay", "ValueError"), true), (("NoPicture", "CopperError"), true), (("NoPicture", "NoBoard"), false)] : List ((Str × Str) × Bool)) ++ ([(("NoPicture", "NoCopper"), false), (("NoPicture", "NoDrawing"), false), (("NoPicture", "NoLay"), false), (("NoPicture", "NoPicture"), true), (("NoPicture", "NoPin"), false), (("NoPicture", "NoPlace"), false), (("NoPicture", "NoRules"), false), (("NoPicture", "NoShape"), false), (("NoPicture", "NoSpan"), false), (("NoPicture", "ValueError"), true)] : List ((Str × Str) × Bool)) ++ ([(("NoPin", "CopperError"), true), (("NoPin", "NoBoard"), false), (("NoPin", "NoCopper"), false), (("NoPin", "NoDrawing"), false), (("NoPin", "NoLay"), false), (("NoPin", "NoPicture"), false), (("NoPin", "NoPin"), true), (("NoPin", "NoPlace"), false), (("NoPin", "NoRules"), false), (("NoPin", "NoShape"), false)] : List ((Str × Str) × Bool)) ++ ([(("NoPin", "NoSpan"), false), (("NoPin", "ValueError"), true), (("NoPlace", "CopperError"), true), (("NoPlace", "NoBoard"), false), (("NoPlace", "NoCopper"), false), (("NoPlace", "NoDrawing"), false), (("NoPlace", "NoLay"), false), (("NoPlace", "NoPicture"), false), (("NoPlace", "NoPin"), false), (("NoPlace", "NoPlace"), true)] : List ((Str × Str) × Bool)) ++ ([(("NoPlace", "NoRules"), false), (("NoPlace", "NoShape"), false), (("NoPlace", "NoSpan"), false), (("NoPlace", "ValueError"), true), (("NoRules", "CopperError"), true), (("NoRules", "NoBoard"), false), (("NoRules", "NoCopper"), false), (("NoRules", "NoDrawing"), false), (("NoRules", "NoLay"), false), (("NoRules", "NoPicture"), false)] : List ((Str × Str) × Bool)) ++ ([(("NoRules", "NoPin"), false), (("NoRules", "NoPlace"), false), (("NoRules", "NoRules"), true), (("NoRules", "NoShape"), false), (("NoRules", "NoSpan"), false), (("NoRules", "ValueError"), true), (("NoShape", "CopperError"), true), (("NoShape", "NoBoard"), false), (("NoShape", "NoCopper"), false), (("NoShape", "NoDrawing"), false)] : List ((Str × Str) × Bool)) ++ ([(("NoShape", "NoLay"), false), (("NoShape", "NoPicture"), false), (("NoShape", "NoPin"), false), (("NoShape", "NoPlace"), false), (("NoShape", "NoRules"), false), (("NoShape", "NoShape"), true), (("NoShape", "NoSpan"), false), (("NoShape", "ValueError"), true), (("NoSpan", "CopperError"), true), (("NoSpan", "NoBoard"), false)] : List ((Str × Str) × Bool)) ++ ([(("NoSpan", "NoCopper"), false), (("NoSpan", "NoDrawing"), false), (("NoSpan", "NoLay"), false), (("NoSpan", "NoPicture"), false), (("NoSpan", "NoPin"), false), (("NoSpan", "NoPlace"), false), (("NoSpan", "NoRules"), false), (("NoSpan", "NoShape"), false), (("NoSpan", "NoSpan"), true), (("NoSpan", "ValueError"), true)] : List ((Str × Str) × Bool))
def tab : LT := { fns := tFns, mks := tMks, mts := tMts, vals := tVals, atts := tAtts, rss := tRss, exc := tExc }
section
variable (K : PySem.W.Frag) (n : Nat)
theorem fn_check_copper : (GL K tab (n + 1)).fn "check_copper" = some (feOf (GL K tab n) d_check_copper) := rfl
theorem fn_beside : (GL K tab (n + 1)).fn "beside" = some (feOf (GL K tab n) d_beside) := rfl
theorem fn_near : (GL K tab (n + 1)).fn "near" = some (feOf (GL K tab n) d_near) := rfl
theorem fn_come_to : (GL K tab (n + 1)).fn "come_to" = some (feOf (GL K tab n) d_come_to) := rfl
theorem fn_island_of : (GL K tab (n + 1)).fn "island_of" = some (feOf (GL K tab n) d_island_of) := rfl
theorem fn_islands : (GL K tab (n + 1)).fn "islands" = some (feOf (GL K tab n) d_islands) := rfl
theorem fn_is_whole : (GL K tab (n + 1)).fn "is_whole" = some (feOf (GL K tab n) d_is_whole) := rfl
theorem fn_is_cell : (GL K tab (n + 1)).fn "is_cell" = some (feOf (GL K tab n) d_is_cell) := rfl
theorem fn_check_places : (GL K tab (n + 1)).fn "check_places" = some (feOf (GL K tab n) d_check_places) := rfl
theorem fn_homes_of : (GL K tab (n + 1)).fn "homes_of" = some (feOf (GL K tab n) d_homes_of) := rfl
theorem fn_opens_of : (GL K tab (n + 1)).fn "opens_of" = some (feOf (GL K tab n) d_opens_of) := rfl
theorem fn_shorts_of : (GL K tab (n + 1)).fn "shorts_of" = some (feOf (GL K tab n) d_shorts_of) := rfl
theorem fn_against : (GL K tab (n + 1)).fn "against" = some (feOf (GL K tab n) d_against) := rfl
theorem fn_steps : (GL K tab (n + 1)).fn "steps" = some (feOf (GL K tab n) d_steps) := rfl
theorem fn_spread : (GL K tab (n + 1)).fn "spread" = some (feOf (GL K tab n) d_spread) := rfl
theorem fn_wave : (GL K tab (n + 1)).fn "wave" = some (feOf (GL K tab n) d_wave) := rfl
theorem fn_put_way : (GL K tab (n + 1)).fn "put_way" = some (feOf (GL K tab n) d_put_way) := rfl
theorem fn_way_for : (GL K tab (n + 1)).fn "way_for" = some (feOf (GL K tab n) d_way_for) := rfl
theorem fn_lay_net : (GL K tab (n + 1)).fn "lay_net" = some (feOf (GL K tab n) d_lay_net) := rfl
theorem fn_check_lay : (GL K tab (n + 1)).fn "check_lay" = some (feOf (GL K tab n) d_check_lay) := rfl
theorem fn_checked_order : (GL K tab (n + 1)).fn "checked_order" = some (feOf (GL K tab n) d_checked_order) := rfl
theorem fn_lay_all : (GL K tab (n + 1)).fn "lay_all" = some (feOf (GL K tab n) d_lay_all) := rfl
theorem fn_is_measure : (GL K tab (n + 1)).fn "is_measure" = some (feOf (GL K tab n) d_is_measure) := rfl
theorem fn_check_spans : (GL K tab (n + 1)).fn "check_spans" = some (feOf (GL K tab n) d_check_spans) := rfl
theorem fn_row_for : (GL K tab (n + 1)).fn "row_for" = some (feOf (GL K tab n) d_row_for) := rfl
theorem fn_lanes : (GL K tab (n + 1)).fn "lanes" = some (feOf (GL K tab n) d_lanes) := rfl
theorem fn_is_name : (GL K tab (n + 1)).fn "is_name" = some (feOf (GL K tab n) d_is_name) := rfl
theorem fn_are_tuples : (GL K tab (n + 1)).fn "are_tuples" = some (feOf (GL K tab n) d_are_tuples) := rfl
theorem fn_is_pin : (GL K tab (n + 1)).fn "is_pin" = some (feOf (GL K tab n) d_is_pin) := rfl
theorem fn_check_kinds : (GL K tab (n + 1)).fn "check_kinds" = some (feOf (GL K tab n) d_check_kinds) := rfl
theorem fn_check_names : (GL K tab (n + 1)).fn "check_names" = some (feOf (GL K tab n) d_check_names) := rfl
theorem fn_pins_of : (GL K tab (n + 1)).fn "pins_of" = some (feOf (GL K tab n) d_pins_of) := rfl
theorem fn_sign : (GL K tab (n + 1)).fn "sign" = some (feOf (GL K tab n) d_sign) := rfl
theorem fn_picture : (GL K tab (n + 1)).fn "picture" = some (feOf (GL K tab n) d_picture) := rfl
theorem fn_sure : (GL K tab (n + 1)).fn "sure" = some (feOf (GL K tab n) d_sure) := rfl
theorem fn_measure : (GL K tab (n + 1)).fn "measure" = some (feOf (GL K tab n) d_measure) := rfl
theorem fn_empty_board : (GL K tab (n + 1)).fn "empty_board" = some (feOf (GL K tab n) d_empty_board) := rfl
theorem fn_put_sign : (GL K tab (n + 1)).fn "put_sign" = some (feOf (GL K tab n) d_put_sign) := rfl
theorem fn_read_picture : (GL K tab (n + 1)).fn "read_picture" = some (feOf (GL K tab n) d_read_picture) := rfl
theorem fn_within : (GL K tab (n + 1)).fn "within" = some (feOf (GL K tab n) d_within) := rfl
theorem fn_is_keep : (GL K tab (n + 1)).fn "is_keep" = some (feOf (GL K tab n) d_is_keep) := rfl
theorem fn_check_numbers : (GL K tab (n + 1)).fn "check_numbers" = some (feOf (GL K tab n) d_check_numbers) := rfl
theorem fn_places_of : (GL K tab (n + 1)).fn "places_of" = some (feOf (GL K tab n) d_places_of) := rfl
theorem fn_texted : (GL K tab (n + 1)).fn "texted" = some (feOf (GL K tab n) d_texted) := rfl
theorem fn__law_cell : (GL K tab (n + 1)).fn "_law_cell" = some (feOf (GL K tab n) d__law_cell) := rfl
theorem fn__law_bare : (GL K tab (n + 1)).fn "_law_bare" = some (feOf (GL K tab n) d__law_bare) := rfl
theorem fn__law_done : (GL K tab (n + 1)).fn "_law_done" = some (feOf (GL K tab n) d__law_done) := rfl
theorem fn__law_kinds : (GL K tab (n + 1)).fn "_law_kinds" = some (feOf (GL K tab n) d__law_kinds) := rfl
theorem fn_law : (GL K tab (n + 1)).fn "law" = some (feOf (GL K tab n) d_law) := rfl
theorem mk_Field : (GL K tab (n + 1)).cls "Field" = some (He.ga K "Field", some (feOf (GL K tab n) d_Field_init)) := rfl
theorem mk_Board : (GL K tab (n + 1)).cls "Board" = some (He.ga K "Board", some (feOf (GL K tab n) d_Board_init)) := rfl
theorem mk_Drawing : (GL K tab (n + 1)).cls "Drawing" = some (He.ga K "Drawing", some (feOf (GL K tab n) d_Drawing_init)) := rfl
theorem mk_Rules : (GL K tab (n + 1)).cls "Rules" = some (He.ga K "Rules", some (feOf (GL K tab n) d_Rules_init)) := rfl
theorem mk_Block : (GL K tab (n + 1)).cls "Block" = some (He.ga K "Block", some (feOf (GL K tab n) d_Block_init)) := rfl
theorem mt_Field_near_foreign : (GL K tab (n + 1)).mth (He.ga K "Field") "near_foreign" = some (feOf (GL K tab n) d_Field_near_foreign) := mth_of (tab := tab) (by decide +kernel) (by decide +kernel)
theorem mt_Field_foreign_column : (GL K tab (n + 1)).mth (He.ga K "Field") "foreign_column" = some (feOf (GL K tab n) d_Field_foreign_column) := mth_of (tab := tab) (by decide +kernel) (by decide +kernel)
theorem mt_Field_kept_clear : (GL K tab (n + 1)).mth (He.ga K "Field") "kept_clear" = some (feOf (GL K tab n) d_Field_kept_clear) := mth_of (tab := tab) (by decide +kernel) (by decide +kernel)
theorem mt_Field_price : (GL K tab (n + 1)).mth (He.ga K "Field") "price" = some (feOf (GL K tab n) d_Field_price) := mth_of (tab := tab) (by decide +kernel) (by decide +kernel)
theorem mt_Field_is_open : (GL K tab (n + 1)).mth (He.ga K "Field") "is_open" = some (feOf (GL K tab n) d_Field_is_open) := mth_of (tab := tab) (by decide +kernel) (by decide +kernel)
theorem mt_Field_through : (GL K tab (n + 1)).mth (He.ga K "Field") "through" = some (feOf (GL K tab n) d_Field_through) := mth_of (tab := tab) (by decide +kernel) (by decide +kernel)
theorem mt_Board_is_square : (GL K tab (n + 1)).mth (He.ga K "Board") "is_square" = some (feOf (GL K tab n) d_Board_is_square) := mth_of (tab := tab) (by decide +kernel) (by decide +kernel)
theorem mt_Board_check : (GL K tab (n + 1)).mth (He.ga K "Board") "check" = some (feOf (GL K tab n) d_Board_check) := mth_of (tab := tab) (by decide +kernel) (by decide +kernel)
theorem mt_Board_put : (GL K tab (n + 1)).mth (He.ga K "Board") "put" = some (feOf (GL K tab n) d_Board_put) := mth_of (tab := tab) (by decide +kernel) (by decide +kernel)
theorem mt_Board_drill : (GL K tab (n + 1)).mth (He.ga K "Board") "drill" = some (feOf (GL K tab n) d_Board_drill) := mth_of (tab := tab) (by decide +kernel) (by decide +kernel)
theorem mt_Board_is_copper : (GL K tab (n + 1)).mth (He.ga K "Board") "is_copper" = some (feOf (GL K tab n) d_Board_is_copper) := mth_of (tab := tab) (by decide +kernel) (by decide +kernel)
theorem mt_Board_has_hole : (GL K tab (n + 1)).mth (He.ga K "Board") "has_hole" = some (feOf (GL K tab n) d_Board_has_hole) := mth_of (tab := tab) (by decide +kernel) (by decide +kernel)
theorem mt_Board_squares : (GL K tab (n + 1)).mth (He.ga K "Board") "squares" = some (feOf (GL K tab n) d_Board_squares) := mth_of (tab := tab) (by decide +kernel) (by decide +kernel)
theorem mt_Board_cells : (GL K tab (n + 1)).mth (He.ga K "Board") "cells" = some (feOf (GL K tab n) d_Board_cells) := mth_of (tab := tab) (by decide +kernel) (by decide +kernel)
theorem mt_Board_holes : (GL K tab (n + 1)).mth (He.ga K "Board") "holes" = some (feOf (GL K tab n) d_Board_holes) := mth_of (tab := tab) (by decide +kernel) (by decide +kernel)
theorem mt_Board_filled : (GL K tab (n + 1)).mth (He.ga K "Board") "filled" = some (feOf (GL K tab n) d_Board_filled) := mth_of (tab := tab) (by decide +kernel) (by decide +kernel)
theorem mt_Board_copy : (GL K tab (n + 1)).mth (He.ga K "Board") "copy" = some (feOf (GL K tab n) d_Board_copy) := mth_of (tab := tab) (by decide +kernel) (by decide +kernel)
theorem mt_Board_turned : (GL K tab (n + 1)).mth (He.ga K "Board") "turned" = some (feOf (GL K tab n) d_Board_turned) := mth_of (tab := tab) (by decide +kernel) (by decide +kernel)
theorem mt_Drawing_pins : (GL K tab (n + 1)).mth (He.ga K "Drawing") "pins" = some (feOf (GL K tab n) d_Drawing_pins) := mth_of (tab := tab) (by decide +kernel) (by decide +kernel)
theorem mt_Drawing_net_of : (GL K tab (n + 1)).mth (He.ga K "Drawing") "net_of" = some (feOf (GL K tab n) d_Drawing_net_of) := mth_of (tab := tab) (by decide +kernel) (by decide +kernel)
theorem mt_Rules_told : (GL K tab (n + 1)).mth (He.ga K "Rules") "told" = some (feOf (GL K tab n) d_Rules_told) := mth_of (tab := tab) (by decide +kernel) (by decide +kernel)
theorem mt_Shape_ends : (GL K tab (n + 1)).mth (He.ga K "Shape") "ends" = some (feOf (GL K tab n) d_Shape_ends) := mth_of (tab := tab) (by decide +kernel) (by decide +kernel)
theorem at_Field_asked : (GL K tab n).att (He.ga K "Field") "asked" = true := att_of (tab := tab) (p := ("Field", ["asked", "board", "others", "own", "rules"])) (by decide +kernel) (by decide +kernel)
theorem at_Field_board : (GL K tab n).att (He.ga K "Field") "board" = true := att_of (tab := tab) (p := ("Field", ["asked", "board", "others", "own", "rules"])) (by decide +kernel) (by decide +kernel)
theorem at_Field_others : (GL K tab n).att (He.ga K "Field") "others" = true := att_of (tab := tab) (p := ("Field", ["asked", "board", "others", "own", "rules"])) (by decide +kernel) (by decide +kernel)
theorem at_Field_own : (GL K tab n).att (He.ga K "Field") "own" = true := att_of (tab := tab) (p := ("Field", ["asked", "board", "others", "own", "rules"])) (by decide +kernel) (by decide +kernel)
theorem at_Field_rules : (GL K tab n).att (He.ga K "Field") "rules" = true := att_of (tab := tab) (p := ("Field", ["asked", "board", "others", "own", "rules"])) (by decide +kernel) (by decide +kernel)
theorem at_Board_copper : (GL K tab n).att (He.ga K "Board") "copper" = true := att_of (tab := tab) (p := ("Board", ["copper", "drilled", "high", "layers", "wide"])) (by decide +kernel) (by decide +kernel)
theorem at_Board_drilled : (GL K tab n).att (He.ga K "Board") "drilled" = true := att_of (tab := tab) (p := ("Board", ["copper", "drilled", "high", "layers", "wide"])) (by decide +kernel) (by decide +kernel)
theorem at_Board_high : (GL K tab n).att (He.ga K "Board") "high" = true := att_of (tab := tab) (p := ("Board", ["copper", "drilled", "high", "layers", "wide"])) (by decide +kernel) (by decide +kernel)
theorem at_Board_layers : (GL K tab n).att (He.ga K "Board") "layers" = true := att_of (tab := tab) (p := ("Board", ["copper", "drilled", "high", "layers", "wide"])) (by decide +kernel) (by decide +kernel)
theorem at_Board_wide : (GL K tab n).att (He.ga K "Board") "wide" = true := att_of (tab := tab) (p := ("Board", ["copper", "drilled", "high", "layers", "wide"])) (by decide +kernel) (by decide +kernel)
theorem at_Drawing_homes : (GL K tab n).att (He.ga K "Drawing") "homes" = true := att_of (tab := tab) (p := ("Drawing", ["homes", "nets", "parts"])) (by decide +kernel) (by decide +kernel)
theorem at_Drawing_nets : (GL K tab n).att (He.ga K "Drawing") "nets" = true := att_of (tab := tab) (p := ("Drawing", ["homes", "nets", "parts"])) (by decide +kernel) (by decide +kernel)
theorem at_Drawing_parts : (GL K tab n).att (He.ga K "Drawing") "parts" = true := att_of (tab := tab) (p := ("Drawing", ["homes", "nets", "parts"])) (by decide +kernel) (by decide +kernel)
theorem at_Rules_gap : (GL K tab n).att (He.ga K "Rules") "gap" = true := att_of (tab := tab) (p := ("Rules", ["gap", "keeps", "rim", "width"])) (by decide +kernel) (by decide +kernel)
theorem at_Rules_keeps : (GL K tab n).att (He.ga K "Rules") "keeps" = true := att_of (tab := tab) (p := ("Rules", ["gap", "keeps", "rim", "width"])) (by decide +kernel) (by decide +kernel)
theorem at_Rules_rim : (GL K tab n).att (He.ga K "Rules") "rim" = true := att_of (tab := tab) (p := ("Rules", ["gap", "keeps", "rim", "width"])) (by decide +kernel) (by decide +kernel)
theorem at_Rules_width : (GL K tab n).att (He.ga K "Rules") "width" = true := att_of (tab := tab) (p := ("Rules", ["gap", "keeps", "rim", "width"])) (by decide +kernel) (by decide +kernel)
theorem at_Block_high : (GL K tab n).att (He.ga K "Block") "high" = true := att_of (tab := tab) (p := ("Block", ["high", "wide", "x", "y"])) (by decide +kernel) (by decide +kernel)
theorem at_Block_wide : (GL K tab n).att (He.ga K "Block") "wide" = true := att_of (tab := tab) (p := ("Block", ["high", "wide", "x", "y"])) (by decide +kernel) (by decide +kernel)
theorem at_Block_x : (GL K tab n).att (He.ga K "Block") "x" = true := att_of (tab := tab) (p := ("Block", ["high", "wide", "x", "y"])) (by decide +kernel) (by decide +kernel)
theorem at_Block_y : (GL K tab n).att (He.ga K "Block") "y" = true := att_of (tab := tab) (p := ("Block", ["high", "wide", "x", "y"])) (by decide +kernel) (by decide +kernel)
theorem ex_NoBoard_CopperError : (GL K tab n).exc "NoBoard" "CopperError" = some true := by cases n <;> rfl
theorem ex_NoBoard_NoBoard : (GL K tab n).exc "NoBoard" "NoBoard" = some true := by cases n <;> rfl
theorem ex_NoBoard_NoCopper : (GL K tab n).exc "NoBoard" "NoCopper" = some false := by cases n <;> rfl
theorem ex_NoBoard_NoDrawing : (GL K tab n).exc "NoBoard" "NoDrawing" = some false := by cases n <;> rfl
theorem ex_NoBoard_NoLay : (GL K tab n).exc "NoBoard" "NoLay" = some false := by cases n <;> rfl
theorem ex_NoBoard_NoPicture : (GL K tab n).exc "NoBoard" "NoPicture" = some false := by cases n <;> rfl
theorem ex_NoBoard_NoPin : (GL K tab n).exc "NoBoard" "NoPin" = some false := by cases n <;> rfl
theorem ex_NoBoard_NoPlace : (GL K tab n).exc "NoBoard" "NoPlace" = some false := by cases n <;> rfl
theorem ex_NoBoard_NoRules : (GL K tab n).exc "NoBoard" "NoRules" = some false := by cases n <;> rfl
theorem ex_NoBoard_NoShape : (GL K tab n).exc "NoBoard" "NoShape" = some false := by cases n <;> rfl
theorem ex_NoBoard_NoSpan : (GL K tab n).exc "NoBoard" "NoSpan" = some false := by cases n <;> rfl
theorem ex_NoBoard_ValueError : (GL K tab n).exc "NoBoard" "ValueError" = some true := by cases n <;> rfl
theorem ex_NoCopper_CopperError : (GL K tab n).exc "NoCopper" "CopperError" = some true := by cases n <;> rfl
theorem ex_NoCopper_NoBoard : (GL K tab n).exc "NoCopper" "NoBoard" = some false := by cases n <;> rfl
theorem ex_NoCopper_NoCopper : (GL K tab n).exc "NoCopper" "NoCopper" = some true := by cases n <;> rfl
theorem ex_NoCopper_NoDrawing : (GL K tab n).exc "NoCopper" "NoDrawing" = some false := by cases n <;> rfl
theorem ex_NoCopper_NoLay : (GL K tab n).exc "NoCopper" "NoLay" = some false := by cases n <;> rfl
theorem ex_NoCopper_NoPicture : (GL K tab n).exc "NoCopper" "NoPicture" = some false := by cases n <;> rfl
theorem ex_NoCopper_NoPin : (GL K tab n).exc "NoCopper" "NoPin" = some false := by cases n <;> rfl
theorem ex_NoCopper_NoPlace : (GL K tab n).exc "NoCopper" "NoPlace" = some false := by cases n <;> rfl
theorem ex_NoCopper_NoRules : (GL K tab n).exc "NoCopper" "NoRules" = some false := by cases n <;> rfl
theorem ex_NoCopper_NoShape : (GL K tab n).exc "NoCopper" "NoShape" = some false := by cases n <;> rfl
theorem ex_NoCopper_NoSpan : (GL K tab n).exc "NoCopper" "NoSpan" = some false := by cases n <;> rfl
theorem ex_NoCopper_ValueError : (GL K tab n).exc "NoCopper" "ValueError" = some true := by cases n <;> rfl
theorem ex_NoDrawing_CopperError : (GL K tab n).exc "NoDrawing" "CopperError" = some true := by cases n <;> rfl
theorem ex_NoDrawing_NoBoard : (GL K tab n).exc "NoDrawing" "NoBoard" = some false := by cases n <;> rfl
theorem ex_NoDrawing_NoCopper : (GL K tab n).exc "NoDrawing" "NoCopper" = some false := by cases n <;> rfl
theorem ex_NoDrawing_NoDrawing : (GL K tab n).exc "NoDrawing" "NoDrawing" = some true := by cases n <;> rfl
theorem ex_NoDrawing_NoLay : (GL K tab n).exc "NoDrawing" "NoLay" = some false := by cases n <;> rfl
theorem ex_NoDrawing_NoPicture : (GL K tab n).exc "NoDrawing" "NoPicture" = some false := by cases n <;> rfl
theorem ex_NoDrawing_NoPin : (GL K tab n).exc "NoDrawing" "NoPin" = some false := by cases n <;> rfl
theorem ex_NoDrawing_NoPlace : (GL K tab n).exc "NoDrawing" "NoPlace" = some false := by cases n <;> rfl
theorem ex_NoDrawing_NoRules : (GL K tab n).exc "NoDrawing" "NoRules" = some false := by cases n <;> rfl
theorem ex_NoDrawing_NoShape : (GL K tab n).exc "NoDrawing" "NoShape" = some false := by cases n <;> rfl
theorem ex_NoDrawing_NoSpan : (GL K tab n).exc "NoDrawing" "NoSpan" = some false := by cases n <;> rfl
theorem ex_NoDrawing_ValueError : (GL K tab n).exc "NoDrawing" "ValueError" = some true := by cases n <;> rfl
theorem ex_NoLay_CopperError : (GL K tab n).exc "NoLay" "CopperError" = some true := by cases n <;> rfl
theorem ex_NoLay_NoBoard : (GL K tab n).exc "NoLay" "NoBoard" = some false := by cases n <;> rfl
theorem ex_NoLay_NoCopper : (GL K tab n).exc "NoLay" "NoCopper" = some false := by cases n <;> rfl
theorem ex_NoLay_NoDrawing : (GL K tab n).exc "NoLay" "NoDrawing" = some false := by cases n <;> rfl
theorem ex_NoLay_NoLay : (GL K tab n).exc "NoLay" "NoLay" = some true := by cases n <;> rfl
theorem ex_NoLay_NoPicture : (GL K tab n).exc "NoLay" "NoPicture" = some false := by cases n <;> rfl
theorem ex_NoLay_NoPin : (GL K tab n).exc "NoLay" "NoPin" = some false := by cases n <;> rfl
theorem ex_NoLay_NoPlace : (GL K tab n).exc "NoLay" "NoPlace" = some false := by cases n <;> rfl
theorem ex_NoLay_NoRules : (GL K tab n).exc "NoLay" "NoRules" = some false := by cases n <;> rfl
theorem ex_NoLay_NoShape : (GL K tab n).exc "NoLay" "NoShape" = some false := by cases n <;> rfl
theorem ex_NoLay_NoSpan : (GL K tab n).exc "NoLay" "NoSpan" = some false := by cases n <;> rfl
theorem ex_NoLay_ValueError : (GL K tab n).exc "NoLay" "ValueError" = some true := by cases n <;> rfl
theorem ex_NoPicture_CopperError : (GL K tab n).exc "NoPicture" "CopperError" = some true := by cases n <;> rfl
theorem ex_NoPicture_NoBoard : (GL K tab n).exc "NoPicture" "NoBoard" = some false := by cases n <;> rfl
theorem ex_NoPicture_NoCopper : (GL K tab n).exc "NoPicture" "NoCopper" = some false := by cases n <;> rfl
theorem ex_NoPicture_NoDrawing : (GL K tab n).exc "NoPicture" "NoDrawing" = some false := by cases n <;> rfl
theorem ex_NoPicture_NoLay : (GL K tab n).exc "NoPicture" "NoLay" = some false := by cases n <;> rfl
theorem ex_NoPicture_NoPicture : (GL K tab n).exc "NoPicture" "NoPicture" = some true := by cases n <;> rfl
theorem ex_NoPicture_NoPin : (GL K tab n).exc "NoPicture" "NoPin" = some false := by cases n <;> rfl
theorem ex_NoPicture_NoPlace : (GL K tab n).exc "NoPicture" "NoPlace" = some false := by cases n <;> rfl
theorem ex_NoPicture_NoRules : (GL K tab n).exc "NoPicture" "NoRules" = some false := by cases n <;> rfl
theorem ex_NoPicture_NoShape : (GL K tab n).exc "NoPicture" "NoShape" = some false := by cases n <;> rfl
theorem ex_NoPicture_NoSpan : (GL K tab n).exc "NoPicture" "NoSpan" = some false := by cases n <;> rfl
theorem ex_NoPicture_ValueError : (GL K tab n).exc "NoPicture" "ValueError" = some true := by cases n <;> rfl
theorem ex_NoPin_CopperError : (GL K tab n).exc "NoPin" "CopperError" = some true := by cases n <;> rfl
theorem ex_NoPin_NoBoard : (GL K tab n).exc "NoPin" "NoBoard" = some false := by cases n <;> rfl
theorem ex_NoPin_NoCopper : (GL K tab n).exc "NoPin" "NoCopper" = some false := by cases n <;> rfl
theorem ex_NoPin_NoDrawing : (GL K tab n).exc "NoPin" "NoDrawing" = some false := by cases n <;> rfl
theorem ex_NoPin_NoLay : (GL K tab n).exc "NoPin" "NoLay" = some false := by cases n <;> rfl
theorem ex_NoPin_NoPicture : (GL K tab n).exc "NoPin" "NoPicture" = some false := by cases n <;> rfl
theorem ex_NoPin_NoPin : (GL K tab n).exc "NoPin" "NoPin" = some true := by cases n <;> rfl
theorem ex_NoPin_NoPlace : (GL K tab n).exc "NoPin" "NoPlace" = some false := by cases n <;> rfl
theorem ex_NoPin_NoRules : (GL K tab n).exc "NoPin" "NoRules" = some false := by cases n <;> rfl
theorem ex_NoPin_NoShape : (GL K tab n).exc "NoPin" "NoShape" = some false := by cases n <;> rfl
theorem ex_NoPin_NoSpan : (GL K tab n).exc "NoPin" "NoSpan" = some false := by cases n <;> rfl
theorem ex_NoPin_ValueError : (GL K tab n).exc "NoPin" "ValueError" = some true := by cases n <;> rfl
theorem ex_NoPlace_CopperError : (GL K tab n).exc "NoPlace" "CopperError" = some true := by cases n <;> rfl
theorem ex_NoPlace_NoBoard : (GL K tab n).exc "NoPlace" "NoBoard" = some false := by cases n <;> rfl
theorem ex_NoPlace_NoCopper : (GL K tab n).exc "NoPlace" "NoCopper" = some false := by cases n <;> rfl
theorem ex_NoPlace_NoDrawing : (GL K tab n).exc "NoPlace" "NoDrawing" = some false := by cases n <;> rfl
theorem ex_NoPlace_NoLay : (GL K tab n).exc "NoPlace" "NoLay" = some false := by cases n <;> rfl
theorem ex_NoPlace_NoPicture : (GL K tab n).exc "NoPlace" "NoPicture" = some false := by cases n <;> rfl
theorem ex_NoPlace_NoPin : (GL K tab n).exc "NoPlace" "NoPin" = some false := by cases n <;> rfl
theorem ex_NoPlace_NoPlace : (GL K tab n).exc "NoPlace" "NoPlace" = some true := by cases n <;> rfl
theorem ex_NoPlace_NoRules : (GL K tab n).exc "NoPlace" "NoRules" = some false := by cases n <;> rfl
theorem ex_NoPlace_NoShape : (GL K tab n).exc "NoPlace" "NoShape" = some false := by cases n <;> rfl
theorem ex_NoPlace_NoSpan : (GL K tab n).exc "NoPlace" "NoSpan" = some false := by cases n <;> rfl
theorem ex_NoPlace_ValueError : (GL K tab n).exc "NoPlace" "ValueError" = some true := by cases n <;> rfl
theorem ex_NoRules_CopperError : (GL K tab n).exc "NoRules" "CopperError" = some true := by cases n <;> rfl
theorem ex_NoRules_NoBoard : (GL K tab n).exc "NoRules" "NoBoard" = some false := by cases n <;> rfl
theorem ex_NoRules_NoCopper : (GL K tab n).exc "NoRules" "NoCopper" = some false := by cases n <;> rfl
theorem ex_NoRules_NoDrawing : (GL K tab n).exc "NoRules" "NoDrawing" = some false := by cases n <;> rfl
theorem ex_NoRules_NoLay : (GL K tab n).exc "NoRules" "NoLay" = some false := by cases n <;> rfl
theorem ex_NoRules_NoPicture : (GL K tab n).exc "NoRules" "NoPicture" = some false := by cases n <;> rfl
theorem ex_NoRules_NoPin : (GL K tab n).exc "NoRules" "NoPin" = some false := by cases n <;> rfl
theorem ex_NoRules_NoPlace : (GL K tab n).exc "NoRules" "NoPlace" = some false := by cases n <;> rfl
theorem ex_NoRules_NoRules : (GL K tab n).exc "NoRules" "NoRules" = some true := by cases n <;> rfl
theorem ex_NoRules_NoShape : (GL K tab n).exc "NoRules" "NoShape" = some false := by cases n <;> rfl
theorem ex_NoRules_NoSpan : (GL K tab n).exc "NoRules" "NoSpan" = some false := by cases n <;> rfl
theorem ex_NoRules_ValueError : (GL K tab n).exc "NoRules" "ValueError" = some true := by cases n <;> rfl
theorem ex_NoShape_CopperError : (GL K tab n).exc "NoShape" "CopperError" = some true := by cases n <;> rfl
theorem ex_NoShape_NoBoard : (GL K tab n).exc "NoShape" "NoBoard" = some false := by cases n <;> rfl
theorem ex_NoShape_NoCopper : (GL K tab n).exc "NoShape" "NoCopper" = some false := by cases n <;> rfl
theorem ex_NoShape_NoDrawing : (GL K tab n).exc "NoShape" "NoDrawing" = some false := by cases n <;> rfl
theorem ex_NoShape_NoLay : (GL K tab n).exc "NoShape" "NoLay" = some false := by cases n <;> rfl
theorem ex_NoShape_NoPicture : (GL K tab n).exc "NoShape" "NoPicture" = some false := by cases n <;> rfl
theorem ex_NoShape_NoPin : (GL K tab n).exc "NoShape" "NoPin" = some false := by cases n <;> rfl
theorem ex_NoShape_NoPlace : (GL K tab n).exc "NoShape" "NoPlace" = some false := by cases n <;> rfl
theorem ex_NoShape_NoRules : (GL K tab n).exc "NoShape" "NoRules" = some false := by cases n <;> rfl
theorem ex_NoShape_NoShape : (GL K tab n).exc "NoShape" "NoShape" = some true := by cases n <;> rfl
theorem ex_NoShape_NoSpan : (GL K tab n).exc "NoShape" "NoSpan" = some false := by cases n <;> rfl
theorem ex_NoShape_ValueError : (GL K tab n).exc "NoShape" "ValueError" = some true := by cases n <;> rfl
theorem ex_NoSpan_CopperError : (GL K tab n).exc "NoSpan" "CopperError" = some true := by cases n <;> rfl
theorem ex_NoSpan_NoBoard : (GL K tab n).exc "NoSpan" "NoBoard" = some false := by cases n <;> rfl
theorem ex_NoSpan_NoCopper : (GL K tab n).exc "NoSpan" "NoCopper" = some false := by cases n <;> rfl
theorem ex_NoSpan_NoDrawing : (GL K tab n).exc "NoSpan" "NoDrawing" = some false := by cases n <;> rfl
theorem ex_NoSpan_NoLay : (GL K tab n).exc "NoSpan" "NoLay" = some false := by cases n <;> rfl
theorem ex_NoSpan_NoPicture : (GL K tab n).exc "NoSpan" "NoPicture" = some false := by cases n <;> rfl
theorem ex_NoSpan_NoPin : (GL K tab n).exc "NoSpan" "NoPin" = some false := by cases n <;> rfl
theorem ex_NoSpan_NoPlace : (GL K tab n).exc "NoSpan" "NoPlace" = some false := by cases n <;> rfl
theorem ex_NoSpan_NoRules : (GL K tab n).exc "NoSpan" "NoRules" = some false := by cases n <;> rfl
theorem ex_NoSpan_NoShape : (GL K tab n).exc "NoSpan" "NoShape" = some false := by cases n <;> rfl
theorem ex_NoSpan_NoSpan : (GL K tab n).exc "NoSpan" "NoSpan" = some true := by cases n <;> rfl
theorem ex_NoSpan_ValueError : (GL K tab n).exc "NoSpan" "ValueError" = some true := by cases n <;> rfl
theorem va_NEW_HOLE : (GL K tab n).val "NEW_HOLE" = some (.int 3) := by cases n <;> rfl
theorem va_OLD_HOLE : (GL K tab n).val "OLD_HOLE" = some (.int 1) := by cases n <;> rfl
theorem va_MOST : (GL K tab n).val "MOST" = some (.int 12) := by cases n <;> rfl
theorem va_MOST_LAYERS : (GL K tab n).val "MOST_LAYERS" = some (.int 3) := by cases n <;> rfl
theorem va_SMALL : (GL K tab n).val "SMALL" = some (.str "abcdefghijklmnopqrstuvwxyz") := by cases n <;> rfl
theorem va_FIGURES_drawings : (GL K tab n).val "FIGURES_drawings" = some (.str "0123456789") := by cases n <;> rfl
theorem va_MOST_PARTS : (GL K tab n).val "MOST_PARTS" = some (.int 8) := by cases n <;> rfl
theorem va_MOST_PINS : (GL K tab n).val "MOST_PINS" = some (.int 8) := by cases n <;> rfl
theorem va_MOST_NETS : (GL K tab n).val "MOST_NETS" = some (.int 24) := by cases n <;> rfl
theorem va_MOST_SIGNS : (GL K tab n).val "MOST_SIGNS" = some (.int 8) := by cases n <;> rfl
theorem va_FIGURES_pictures : (GL K tab n).val "FIGURES_pictures" = some (.str "0123456789") := by cases n <;> rfl
theorem va_LONGEST : (GL K tab n).val "LONGEST" = some (.int 2) := by cases n <;> rfl
theorem va_SIGNS : (GL K tab n).val "SIGNS" = some (.str ".#oO") := by cases n <;> rfl
theorem va_MOST_KEEPS : (GL K tab n).val "MOST_KEEPS" = some (.int 12) := by cases n <;> rfl
theorem va_MOST_NUMBER : (GL K tab n).val "MOST_NUMBER" = some (.int 9999999999999999999999999999999999999999) := by cases n <;> rfl
end
end DL.K16

namespace DL.K16
open PySem PySem.Spec PyProof.Rows
section
variable (K : PySem.W.Frag) (n : Nat)
theorem wSub_tup {ds : List D} {i : Int} {d : D} {S : Sto} {Kt_ : Kt} (h : L2.atI ds i = some d) (w : Kt_ d S) : wSub (.tup ds) (.int i) S Kt_ := ⟨i, d, rfl, h, w⟩
theorem wSub_tup' {ds : List D} {i : Int} {d : D} {S : Sto} {Kt_ : Kt} (h : L2.atI ds i = some d) : Kt_ d S → wSub (.tup ds) (.int i) S Kt_ := fun w => ⟨i, d, rfl, h, w⟩
theorem wSub_lst {a : Addr} {ds : List D} {i : Int} {d : D} {S : Sto} {Kt_ : Kt} (e : S a = some (.lst ds)) (h : L2.atI ds i = some d) (w : Kt_ d S) : wSub (.ref a) (.int i) S Kt_ := by
  unfold wSub
  simp only [e]
  exact ⟨ds, i, d, lst_of_ e, rfl, h, w⟩
/-- is_whole -/
theorem tyOf_isW {d : D} {S : Sto} {t : String} (e : tyOf d S = some t) : (isTy t "int" && !(isTy t "bool")) = isW d ∧ (isTy t "int" = false → isW d = false) := by
  cases d <;> simp only [tyOf, Option.some.injEq] at e <;> first
    | (subst e; simp only [isW]; decide)
    | (simp only [isW]; revert e; split <;> intro e <;> first | (cases e; decide) | cases e)
    | cases e
theorem c_whole {d : D} {S : Sto} {Kt_ : Kt} {X : KtE} (ht : (tyOf d S).isSome = true) (hk : Kt_ (.bl (isW d)) S) : wCall (feOf (GL K tab n) d_is_whole) [d] S Kt_ X := by
  simp only [wCall, fill, feOf, d_is_whole, ↓wSs, ↓wS, ↓wE, ↓wEs, ↓wI, ↓wIfs, ↓wO, ↓wTg, ↓wTgs, ↓reduceIte, ofS_eq, ofS_beq, String.reduceEq, String.reduceBEq, List.lookup_cons, List.lookup_nil, wipeD, startD, endD, nmO, List.map_cons, List.map_nil, List.cons_append, List.nil_append, List.append_nil, List.getElem?_cons_zero, List.getElem?_cons_succ, List.length_cons, List.length_nil, List.replicate_succ, List.replicate_zero, List.set_cons_zero, List.set_cons_succ, if_true, if_false, Bool.false_eq_true, reduceIte, Bool.not_true, Bool.not_false, wTru, tv, Nat.zero_add, Nat.reduceAdd, ci0, ci1, ci2, ci3, ci4, ci5, ci6, Nat.reduceSub, Nat.sub_self, Nat.le_refl, Nat.reduceLeDiff, sizeLine_eq, Nat.reduceLT, true_and, and_true, and_self, Bool.and_false, Bool.or_false, Bool.or_true, Bool.and_true, Bool.true_and, Bool.true_or, Bool.false_or, Bool.false_and, decide_true, decide_false, ne_eq, not_true_eq_false, not_false_eq_true, List.drop_zero, List.drop_nil, List.drop_succ_cons]
  cases e : tyOf d S with
  | none => rw [e] at ht; cases ht
  | some t =>
    obtain ⟨h1, h2⟩ := tyOf_isW e
    cases hi : isTy t "int" with
    | true =>
      rw [hi, Bool.true_and] at h1
      simp only [hi, reduceIte, h1]; exact hk
    | false => simp only [hi, Bool.false_eq_true, reduceIte]; rw [h2 hi] at hk; exact hk
theorem c_numbers {a : Addr} {ns : List Int} {least : D} {S : Sto} {Kt_ : Kt} {X : KtE} (ha : lstAt S a = some (ns.map D.int))
    (h : (least = .non ∧ Kt_ .non S) ∨ ∃ l : Int, least = .int l ∧ if ns.all (fun n => decide (l ≤ n)) = true then Kt_ .non S else X "NoShape" S) : wCall (feOf (GL K tab (n + 1)) d_check_numbers) [.ref a, least] S Kt_ X := by
  simp only [wCall, fill, feOf, d_check_numbers, ↓wSs, ↓wS, ↓wE, ↓wEs, ↓wI, ↓wIfs, ↓wO, ↓wTg, ↓wTgs, ↓reduceIte, ofS_eq, ofS_beq, String.reduceEq, String.reduceBEq, List.lookup_cons, List.lookup_nil, wipeD, startD, endD, nmO, List.map_cons, List.map_nil, List.cons_append, List.nil_append, List.append_nil, List.getElem?_cons_zero, List.getElem?_cons_succ, List.length_cons, List.length_nil, List.replicate_succ, List.replicate_zero, List.set_cons_zero, List.set_cons_succ, if_true, if_false, Bool.false_eq_true, reduceIte, Bool.not_true, Bool.not_false, wTru, tv, Nat.zero_add, Nat.reduceAdd, ci0, ci1, ci2, ci3, ci4, ci5, ci6, Nat.reduceSub, Nat.sub_self, Nat.le_refl, Nat.reduceLeDiff, sizeLine_eq, Nat.reduceLT, true_and, and_true, and_self, Bool.and_false, Bool.or_false, Bool.or_true, Bool.and_true, Bool.true_and, Bool.true_or, Bool.false_or, Bool.false_and, decide_true, decide_false, ne_eq, not_true_eq_false, not_false_eq_true, List.drop_zero, List.drop_nil, List.drop_succ_cons, wIter, ha, fn_is_whole]
  refine wLoop_of (fun r ρ S' => S' = S ∧ ρ[1]? = some (some least) ∧ 2 < ρ.length ∧ ∃ ms : List Int, r = ms.map D.int ∧ ((least = .non ∧ Kt_ .non S) ∨ ∃ l : Int, least = .int l ∧ if ms.all (fun n => decide (l ≤ n)) = true then Kt_ .non S else X "NoShape" S)) ?_ ?_ _ _ _ ⟨rfl, rfl, by simp, ns, rfl, h⟩ <;> clear h
  · rintro ρ S' ⟨rfl, h1, h2, ms, hm, h⟩
    refine ⟨ha, ?_⟩
    cases ms with
    | nil =>
      rcases h with h | ⟨l, _, h⟩
      · exact h.2
      · simpa using h
    | cons m ms => cases hm
  · rintro d r ρ S' nx ⟨rfl, h1, h2, ms, hm, h⟩ hnx
    refine ⟨ha, ?_⟩
    cases ms with
    | nil => cases hm
    | cons m ms =>
      simp only [List.map_cons, List.cons.injEq] at hm
      obtain ⟨rfl, rfl⟩ := hm
      have g1 : (ρ.set 2 (some (.int m)))[1]? = some (some least) := by rw [List.getElem?_set_ne (by decide)]; exact h1
      have g2 : (ρ.set 2 (some (.int m)))[2]? = some (some (.int m)) := List.getElem?_set_self h2
      have go : ((least = .non ∧ Kt_ .non S') ∨ ∃ l : Int, least = .int l ∧ if ms.all (fun n => decide (l ≤ n)) = true then Kt_ .non S' else X "NoShape" S') → nx (ρ.set 2 (some (.int m))) S' := fun h => hnx _ _ ⟨rfl, g1, by simpa using h2, ms, rfl, h⟩
      simp only [↓wSs, ↓wS, ↓wE, ↓wEs, ↓wI, ↓wIfs, ↓wO, ↓wTg, ↓wTgs, ↓reduceIte, ofS_eq, ofS_beq, String.reduceEq, String.reduceBEq, List.lookup_cons, List.lookup_nil, wipeD, startD, endD, nmO, List.map_cons, List.map_nil, List.cons_append, List.nil_append, List.append_nil, List.getElem?_cons_zero, List.getElem?_cons_succ, List.length_cons, List.length_nil, List.replicate_succ, List.replicate_zero, List.set_cons_zero, List.set_cons_succ, if_true, if_false, Bool.false_eq_true, reduceIte, Bool.not_true, Bool.not_false, wTru, tv, Nat.zero_add, Nat.reduceAdd, ci0, ci1, ci2, ci3, ci4, ci5, ci6, Nat.reduceSub, Nat.sub_self, Nat.le_refl, Nat.reduceLeDiff, sizeLine_eq, Nat.reduceLT, true_and, and_true, and_self, Bool.and_false, Bool.or_false, Bool.or_true, Bool.and_true, Bool.true_and, Bool.true_or, Bool.false_or, Bool.false_and, decide_true, decide_false, ne_eq, not_true_eq_false, not_false_eq_true, List.drop_zero, List.drop_nil, List.drop_succ_cons, g1, g2]
      refine c_whole K n rfl ?_
      simp only [isW, ↓wSs, ↓wS, ↓wE, ↓wEs, ↓wI, ↓wIfs, ↓wO, ↓wTg, ↓wTgs, ↓reduceIte, ofS_eq, ofS_beq, String.reduceEq, String.reduceBEq, List.lookup_cons, List.lookup_nil, wipeD, startD, endD, nmO, List.map_cons, List.map_nil, List.cons_append, List.nil_append, List.append_nil, List.getElem?_cons_zero, List.getElem?_cons_succ, List.length_cons, List.length_nil, List.replicate_succ, List.replicate_zero, List.set_cons_zero, List.set_cons_succ, if_true, if_false, Bool.false_eq_true, reduceIte, Bool.not_true, Bool.not_false, wTru, tv, Nat.zero_add, Nat.reduceAdd, ci0, ci1, ci2, ci3, ci4, ci5, ci6, Nat.reduceSub, Nat.sub_self, Nat.le_refl, Nat.reduceLeDiff, sizeLine_eq, Nat.reduceLT, true_and, and_true, and_self, Bool.and_false, Bool.or_false, Bool.or_true, Bool.and_true, Bool.true_and, Bool.true_or, Bool.false_or, Bool.false_and, decide_true, decide_false, ne_eq, not_true_eq_false, not_false_eq_true, List.drop_zero, List.drop_nil, List.drop_succ_cons, wCmp, wLt]
      rcases h with ⟨rfl, h⟩ | ⟨l, rfl, h⟩
      · simp only [↓wSs, ↓wS, ↓wE, ↓wEs, ↓wI, ↓wIfs, ↓wO, ↓wTg, ↓wTgs, ↓reduceIte, ofS_eq, ofS_beq, String.reduceEq, String.reduceBEq, List.lookup_cons, List.lookup_nil, wipeD, startD, endD, nmO, List.map_cons, List.map_nil, List.cons_append, List.nil_append, List.append_nil, List.getElem?_cons_zero, List.getElem?_cons_succ, List.length_cons, List.length_nil, List.replicate_succ, List.replicate_zero, List.set_cons_zero, List.set_cons_succ, if_true, if_false, Bool.false_eq_true, reduceIte, Bool.not_true, Bool.not_false, wTru, tv, Nat.zero_add, Nat.reduceAdd, ci0, ci1, ci2, ci3, ci4, ci5, ci6, Nat.reduceSub, Nat.sub_self, Nat.le_refl, Nat.reduceLeDiff, sizeLine_eq, Nat.reduceLT, true_and, and_true, and_self, Bool.and_false, Bool.or_false, Bool.or_true, Bool.and_true, Bool.true_and, Bool.true_or, Bool.false_or, Bool.false_and, decide_true, decide_false, ne_eq, not_true_eq_false, not_false_eq_true, List.drop_zero, List.drop_nil, List.drop_succ_cons, decide_true]
        exact go (.inl ⟨rfl, h⟩)
      · simp only [↓wSs, ↓wS, ↓wE, ↓wEs, ↓wI, ↓wIfs, ↓wO, ↓wTg, ↓wTgs, ↓reduceIte, ofS_eq, ofS_beq, String.reduceEq, String.reduceBEq, List.lookup_cons, List.lookup_nil, wipeD, startD, endD, nmO, List.map_cons, List.map_nil, List.cons_append, List.nil_append, List.append_nil, List.getElem?_cons_zero, List.getElem?_cons_succ, List.length_cons, List.length_nil, List.replicate_succ, List.replicate_zero, List.set_cons_zero, List.set_cons_succ, if_true, if_false, Bool.false_eq_true, reduceIte, Bool.not_true, Bool.not_false, wTru, tv, Nat.zero_add, Nat.reduceAdd, ci0, ci1, ci2, ci3, ci4, ci5, ci6, Nat.reduceSub, Nat.sub_self, Nat.le_refl, Nat.reduceLeDiff, sizeLine_eq, Nat.reduceLT, true_and, and_true, and_self, Bool.and_false, Bool.or_false, Bool.or_true, Bool.and_true, Bool.true_and, Bool.true_or, Bool.false_or, Bool.false_and, decide_true, decide_false, ne_eq, not_true_eq_false, not_false_eq_true, List.drop_zero, List.drop_nil, List.drop_succ_cons, reduceCtorEq, decide_false]
        by_cases hn : m < l
        · simp only [hn, decide_true, reduceIte]
          rw [List.all_cons, decide_eq_false (by omega : ¬ l ≤ m), Bool.false_and, if_neg Bool.false_ne_true] at h
          exact h
        · simp only [hn, decide_false, Bool.false_eq_true, reduceIte]
          rw [List.all_cons, decide_eq_true (by omega : l ≤ m), Bool.true_and] at h
          exact go (.inr ⟨l, rfl, h⟩)
/-- the classes of the deeds -/
theorem done0 {m : Int} {S : Sto} {Kt_ : Kt} {X : KtE} (hX : ∀ S', Ext S S' → X "NoShape" S') : wCall (feOf (GL K tab (n + 4)) d__law_done) [.int 0, .int m] S Kt_ X := by
  refine call_w rfl (take_ rfl (ret_ ?_))
  simp only [↓wSs, ↓wS, ↓wE, ↓wEs, ↓wI, ↓wIfs, ↓wO, ↓wTg, ↓wTgs, ↓reduceIte, ofS_eq, ofS_beq, String.reduceEq, String.reduceBEq, List.lookup_cons, List.lookup_nil, wipeD, startD, endD, nmO, List.map_cons, List.map_nil, List.cons_append, List.nil_append, List.append_nil, List.getElem?_cons_zero, List.getElem?_cons_succ, List.length_cons, List.length_nil, List.replicate_succ, List.replicate_zero, List.set_cons_zero, List.set_cons_succ, if_true, if_false, Bool.false_eq_true, reduceIte, Bool.not_true, Bool.not_false, wTru, tv, Nat.zero_add, Nat.reduceAdd, ci0, ci1, ci2, ci3, ci4, ci5, ci6, Nat.reduceSub, Nat.sub_self, Nat.le_refl, Nat.reduceLeDiff, sizeLine_eq, Nat.reduceLT, true_and, and_true, and_self, Bool.and_false, Bool.or_false, Bool.or_true, Bool.and_true, Bool.true_and, Bool.true_or, Bool.false_or, Bool.false_and, decide_true, decide_false, ne_eq, not_true_eq_false, not_false_eq_true, List.drop_zero, List.drop_nil, List.drop_succ_cons, mk_Block]
  intro p hp
  simp only [wCall, fill, feOf, d_Block_init, ↓wSs, ↓wS, ↓wE, ↓wEs, ↓wI, ↓wIfs, ↓wO, ↓wTg, ↓wTgs, ↓reduceIte, ofS_eq, ofS_beq, String.reduceEq, String.reduceBEq, List.lookup_cons, List.lookup_nil, wipeD, startD, endD, nmO, List.map_cons, List.map_nil, List.cons_append, List.nil_append, List.append_nil, List.getElem?_cons_zero, List.getElem?_cons_succ, List.length_cons, List.length_nil, List.replicate_succ, List.replicate_zero, List.set_cons_zero, List.set_cons_succ, if_true, if_false, Bool.false_eq_true, reduceIte, Bool.not_true, Bool.not_false, wTru, tv, Nat.zero_add, Nat.reduceAdd, ci0, ci1, ci2, ci3, ci4, ci5, ci6, Nat.reduceSub, Nat.sub_self, Nat.le_refl, Nat.reduceLeDiff, sizeLine_eq, Nat.reduceLT, true_and, and_true, and_self, Bool.and_false, Bool.or_false, Bool.or_true, Bool.and_true, Bool.true_and, Bool.true_or, Bool.false_or, Bool.false_and, decide_true, decide_false, ne_eq, not_true_eq_false, not_false_eq_true, List.drop_zero, List.drop_nil, List.drop_succ_cons, wNew, fn_check_numbers]
  intro q hq
  rw [put_none] at hq
  refine c_numbers K (n + 1) (ns := [m, 0]) (by unfold lstAt; rw [put_same]; rfl) (.inl ⟨rfl, ?_⟩)
  intro r hr
  refine c_numbers K (n + 1) (ns := [0, 1]) (by unfold lstAt; rw [put_same]; rfl) (.inr ⟨1, rfl, ?_⟩)
  rw [put_none, put_none] at hr
  exact hX _ (((Ext.refl.put hp).put hq.2).put hr.2.2)
theorem done1 {m : Int} {S : Sto} {Kt_ : Kt} {X : KtE} (hX : ∀ S', Ext S S' → X "NoBoard" S') : wCall (feOf (GL K tab (n + 4)) d__law_done) [.int 1, .int m] S Kt_ X := by
  refine call_w rfl (skip rfl rfl (take_ rfl (ret_ ?_)))
  simp only [↓wSs, ↓wS, ↓wE, ↓wEs, ↓wI, ↓wIfs, ↓wO, ↓wTg, ↓wTgs, ↓reduceIte, ofS_eq, ofS_beq, String.reduceEq, String.reduceBEq, List.lookup_cons, List.lookup_nil, wipeD, startD, endD, nmO, List.map_cons, List.map_nil, List.cons_append, List.nil_append, List.append_nil, List.getElem?_cons_zero, List.getElem?_cons_succ, List.length_cons, List.length_nil, List.replicate_succ, List.replicate_zero, List.set_cons_zero, List.set_cons_succ, if_true, if_false, Bool.false_eq_true, reduceIte, Bool.not_true, Bool.not_false, wTru, tv, Nat.zero_add, Nat.reduceAdd, ci0, ci1, ci2, ci3, ci4, ci5, ci6, Nat.reduceSub, Nat.sub_self, Nat.le_refl, Nat.reduceLeDiff, sizeLine_eq, Nat.reduceLT, true_and, and_true, and_self, Bool.and_false, Bool.or_false, Bool.or_true, Bool.and_true, Bool.true_and, Bool.true_or, Bool.false_or, Bool.false_and, decide_true, decide_false, ne_eq, not_true_eq_false, not_false_eq_true, List.drop_zero, List.drop_nil, List.drop_succ_cons, mk_Board, wBin]
  refine ⟨by omega, ?_⟩
  intro p hp
  simp only [wCall, fill, feOf, d_Board_init, ↓wSs, ↓wS, ↓wE, ↓wEs, ↓wI, ↓wIfs, ↓wO, ↓wTg, ↓wTgs, ↓reduceIte, ofS_eq, ofS_beq, String.reduceEq, String.reduceBEq, List.lookup_cons, List.lookup_nil, wipeD, startD, endD, nmO, List.map_cons, List.map_nil, List.cons_append, List.nil_append, List.append_nil, List.getElem?_cons_zero, List.getElem?_cons_succ, List.length_cons, List.length_nil, List.replicate_succ, List.replicate_zero, List.set_cons_zero, List.set_cons_succ, if_true, if_false, Bool.false_eq_true, reduceIte, Bool.not_true, Bool.not_false, wTru, tv, Nat.zero_add, Nat.reduceAdd, ci0, ci1, ci2, ci3, ci4, ci5, ci6, Nat.reduceSub, Nat.sub_self, Nat.le_refl, Nat.reduceLeDiff, sizeLine_eq, Nat.reduceLT, true_and, and_true, and_self, Bool.and_false, Bool.or_false, Bool.or_true, Bool.and_true, Bool.true_and, Bool.true_or, Bool.false_or, Bool.false_and, decide_true, decide_false, ne_eq, not_true_eq_false, not_false_eq_true, List.drop_zero, List.drop_nil, List.drop_succ_cons, va_MOST, fn_is_measure, d_is_measure, tyOf, wCmp, wLe, isTy, Bool.or_false, Bool.true_or, Bool.false_and, Bool.or_self, Int.reduceLE, decide_false]
  exact hX _ (Ext.refl.put hp)
/-- a board of two by two -/
def boardAt (S : Sto) (b : Addr) : Prop := ∃ c r0 d, S b = some (.ins (He.ga K "Board") [("wide", .int 2), ("high", .int 2), ("layers", .int 1), ("copper", .ref c), ("drilled", .ref d)]) ∧ S c = some (.lst [.ref r0]) ∧ S r0 = some (.lst [.int 0, .int 0]) ∧ S d = some (.lst [.int 0, .int 0])
theorem mkBoard {S : Sto} {post : Addr → Sto → Prop} {X : KtE} (hk : ∀ p S', S p = none → Ext S S' → boardAt K S' p → post p S') (p : Addr) (hp : S p = none) :
    wCall (feOf (GL K tab (n + 2)) d_Board_init) [.ref p, .int 2, .int 2] (put S p (.ins (He.ga K "Board") [])) (fun v S2 => v = .non ∧ post p S2) X := by
  simp only [wCall, fill, feOf, d_Board_init, ↓wSs, ↓wS, ↓wE, ↓wEs, ↓wI, ↓wIfs, ↓wO, ↓wTg, ↓wTgs, ↓reduceIte, ofS_eq, ofS_beq, String.reduceEq, String.reduceBEq, List.lookup_cons, List.lookup_nil, wipeD, startD, endD, nmO, List.map_cons, List.map_nil, List.cons_append, List.nil_append, List.append_nil, List.getElem?_cons_zero, List.getElem?_cons_succ, List.length_cons, List.length_nil, List.replicate_succ, List.replicate_zero, List.set_cons_zero, List.set_cons_succ, if_true, if_false, Bool.false_eq_true, reduceIte, Bool.not_true, Bool.not_false, wTru, tv, Nat.zero_add, Nat.reduceAdd, ci0, ci1, ci2, ci3, ci4, ci5, ci6, Nat.reduceSub, Nat.sub_self, Nat.le_refl, Nat.reduceLeDiff, sizeLine_eq, Nat.reduceLT, true_and, and_true, and_self, Bool.and_false, Bool.or_false, Bool.or_true, Bool.and_true, Bool.true_and, Bool.true_or, Bool.false_or, Bool.false_and, decide_true, decide_false, ne_eq, not_true_eq_false, not_false_eq_true, List.drop_zero, List.drop_nil, List.drop_succ_cons, va_MOST, va_MOST_LAYERS, fn_is_measure, d_is_measure, tyOf, wCmp, wLe, isTy, Bool.or_false, Bool.true_or, Bool.false_and, Bool.or_self, Int.reduceLE, decide_false, decide_true, put_same, at_Board_wide, at_Board_high, at_Board_layers, putD]
  refine ⟨⟨by decide, by decide⟩, fun q hq => ?_⟩
  simp only [put_none] at hq
  have hqp : q ≠ p := hq.1
  rw [show rangeD 0 (Int.toNat 1) = [.int 0] from rfl]
  simp only [wComp, wNew, true_and]
  intro r hr
  simp only [put_none] at hr
  simp only [wBin, put_same]
  refine ⟨by decide, by decide, by decide, fun u hu => ?_⟩
  simp only [put_none] at hu
  obtain ⟨-, -, -, -, hq0⟩ := hq
  obtain ⟨hrq, hrp, -, -, -, hr0⟩ := hr
  obtain ⟨hur, huq, hup, -, -, -, hu0⟩ := hu
  rw [show (List.replicate (Int.toNat 2) [D.int 0]).flatten = [.int 0, .int 0] from rfl]
  simp only [put_same, put_put, put_ne hqp, put_ne hqp.symm, put_ne hrq, put_ne hrq.symm, put_ne hrp, put_ne hrp.symm, put_ne hur, put_ne hur.symm, put_ne huq, put_ne huq.symm, put_ne hup, put_ne hup.symm, at_Board_copper, putD, ↓wSs, ↓wS, ↓wE, ↓wEs, ↓wI, ↓wIfs, ↓wO, ↓wTg, ↓wTgs, ↓reduceIte, ofS_eq, ofS_beq, String.reduceEq, String.reduceBEq, List.lookup_cons, List.lookup_nil, wipeD, startD, endD, nmO, List.map_cons, List.map_nil, List.cons_append, List.nil_append, List.append_nil, List.getElem?_cons_zero, List.getElem?_cons_succ, List.length_cons, List.length_nil, List.replicate_succ, List.replicate_zero, List.set_cons_zero, List.set_cons_succ, if_true, if_false, Bool.false_eq_true, reduceIte, Bool.not_true, Bool.not_false, wTru, tv, Nat.zero_add, Nat.reduceAdd, ci0, ci1, ci2, ci3, ci4, ci5, ci6, Nat.reduceSub, Nat.sub_self, Nat.le_refl, Nat.reduceLeDiff, sizeLine_eq, Nat.reduceLT, true_and, and_true, and_self, Bool.and_false, Bool.or_false, Bool.or_true, Bool.and_true, Bool.true_and, Bool.true_or, Bool.false_or, Bool.false_and, decide_true, decide_false, ne_eq, not_true_eq_false, not_false_eq_true, List.drop_zero, List.drop_nil, List.drop_succ_cons]
  intro v hv
  simp only [put_none] at hv
  refine ⟨by decide, by decide, by decide, fun x hx => ?_⟩
  simp only [put_none] at hx
  obtain ⟨hvp, hvq, hvu, hvr, -, -, hv0⟩ := hv
  obtain ⟨hxv, hxp, hxq, hxu, hxr, -, -, hx0⟩ := hx
  simp only [put_same, put_put, put_ne hvp, put_ne hvp.symm, put_ne hxp, put_ne hxp.symm, put_ne hxv, put_ne hxv.symm, at_Board_drilled, putD, ↓wSs, ↓wS, ↓wE, ↓wEs, ↓wI, ↓wIfs, ↓wO, ↓wTg, ↓wTgs, ↓reduceIte, ofS_eq, ofS_beq, String.reduceEq, String.reduceBEq, List.lookup_cons, List.lookup_nil, wipeD, startD, endD, nmO, List.map_cons, List.map_nil, List.cons_append, List.nil_append, List.append_nil, List.getElem?_cons_zero, List.getElem?_cons_succ, List.length_cons, List.length_nil, List.replicate_succ, List.replicate_zero, List.set_cons_zero, List.set_cons_succ, if_true, if_false, Bool.false_eq_true, reduceIte, Bool.not_true, Bool.not_false, wTru, tv, Nat.zero_add, Nat.reduceAdd, ci0, ci1, ci2, ci3, ci4, ci5, ci6, Nat.reduceSub, Nat.sub_self, Nat.le_refl, Nat.reduceLeDiff, sizeLine_eq, Nat.reduceLT, true_and, and_true, and_self, Bool.and_false, Bool.or_false, Bool.or_true, Bool.and_true, Bool.true_and, Bool.true_or, Bool.false_or, Bool.false_and, decide_true, decide_false, ne_eq, not_true_eq_false, not_false_eq_true, List.drop_zero, List.drop_nil, List.drop_succ_cons]
  refine hk p _ hp (by repeat (first | exact Ext.refl | refine Ext.put ?_ (by assumption))) ⟨q, u, x, put_same, ?_, ?_, ?_⟩ <;>
    simp only [put_same, put_ne hqp, put_ne hqp.symm, put_ne hrq, put_ne hrq.symm, put_ne hrp, put_ne hrp.symm, put_ne hur, put_ne hur.symm, put_ne huq, put_ne huq.symm, put_ne hup, put_ne hup.symm, put_ne hvp, put_ne hvq, put_ne hvu, put_ne hvr, put_ne hxp, put_ne hxq, put_ne hxu, put_ne hxv, put_ne hvp.symm, put_ne hvq.symm, put_ne hvu.symm, put_ne hxp.symm, put_ne hxq.symm, put_ne hxu.symm]
end
end DL.K16

namespace DL.K16
open PySem PySem.Spec PyProof.Rows
section
variable (K : PySem.W.Frag) (n : Nat)
theorem bls_true (m : List D) : m.map (fun _ => D.bl true) = (List.replicate m.length true).map D.bl := by
  induction m with
  | nil => rfl
  | cons d m ih => simp only [List.map_cons, List.length_cons, List.replicate_succ, ih]
theorem all_true (k : Nat) : (List.replicate k true).all id = true := by
  induction k with
  | zero => rfl
  | succ k ih => rw [List.replicate_succ, List.all_cons, ih]; rfl
theorem wAll_true {a : Addr} {m : List D} {S : Sto} {Kt_ : Kt} (h : S a = some (.lst ([] ++ m.map fun _ => D.bl true))) (hk : Kt_ (.bl true) S) : wBf .all [.ref a] S Kt_ := by
  simp only [wBf]
  refine ⟨List.replicate m.length true, by rw [lst_of_ h, List.nil_append, bls_true], ?_⟩
  rw [all_true]; exact hk
theorem c_are_tuples {a : Addr} {ds : List D} {k : Int} {S : Sto} {Kt_ : Kt} {X : KtE} (ha : lstAt S a = some ds) (hl : ds.length ≤ 1000) (h : ∀ d ∈ ds, ∃ es, d = .tup es ∧ (es.length : Int) = k) (hk : ∀ S', Ext S S' → Kt_ (.bl true) S') :
    wCall (feOf (GL K tab n) d_are_tuples) [.ref a, .int k] S Kt_ X := by
  refine call_w rfl ?_
  simp only [d_are_tuples, ↓wSs, ↓wS, ↓wE, ↓wEs, ↓wI, ↓wIfs, ↓wO, ↓wTg, ↓wTgs, ↓reduceIte, ofS_eq, ofS_beq, String.reduceEq, String.reduceBEq, List.lookup_cons, List.lookup_nil, wipeD, startD, endD, nmO, List.map_cons, List.map_nil, List.cons_append, List.nil_append, List.append_nil, List.getElem?_cons_zero, List.getElem?_cons_succ, List.length_cons, List.length_nil, List.replicate_succ, List.replicate_zero, List.set_cons_zero, List.set_cons_succ, if_true, if_false, Bool.false_eq_true, reduceIte, Bool.not_true, Bool.not_false, wTru, tv, Nat.zero_add, Nat.reduceAdd, ci0, ci1, ci2, ci3, ci4, ci5, ci6, Nat.reduceSub, Nat.sub_self, Nat.le_refl, Nat.reduceLeDiff, sizeLine_eq, Nat.reduceLT, true_and, and_true, and_self, Bool.and_false, Bool.or_false, Bool.or_true, Bool.and_true, Bool.true_and, Bool.true_or, Bool.false_or, Bool.false_and, decide_true, decide_false, ne_eq, not_true_eq_false, not_false_eq_true, List.drop_zero, List.drop_nil, List.drop_succ_cons, wIter, ha]
  intro p hp
  refine wComp_of (fun S' => Ext S S') (fun _ => .bl true) (fun S' e => lstAt_ext e ha) (fun S' m e => e.put hp) _ _ _ (fun d hd S1 R e1 hR => ?_) (Ext.refl.put hp) put_same (by rw [List.length_nil]; omega) (fun S2 e2 h2 => ?_)
  · obtain ⟨es, rfl, hes⟩ := h d hd
    simp only [↓wSs, ↓wS, ↓wE, ↓wEs, ↓wI, ↓wIfs, ↓wO, ↓wTg, ↓wTgs, ↓reduceIte, ofS_eq, ofS_beq, String.reduceEq, String.reduceBEq, List.lookup_cons, List.lookup_nil, wipeD, startD, endD, nmO, List.map_cons, List.map_nil, List.cons_append, List.nil_append, List.append_nil, List.getElem?_cons_zero, List.getElem?_cons_succ, List.length_cons, List.length_nil, List.replicate_succ, List.replicate_zero, List.set_cons_zero, List.set_cons_succ, if_true, if_false, Bool.false_eq_true, reduceIte, Bool.not_true, Bool.not_false, wTru, tv, Nat.zero_add, Nat.reduceAdd, ci0, ci1, ci2, ci3, ci4, ci5, ci6, Nat.reduceSub, Nat.sub_self, Nat.le_refl, Nat.reduceLeDiff, sizeLine_eq, Nat.reduceLT, true_and, and_true, and_self, Bool.and_false, Bool.or_false, Bool.or_true, Bool.and_true, Bool.true_and, Bool.true_or, Bool.false_or, Bool.false_and, decide_true, decide_false, ne_eq, not_true_eq_false, not_false_eq_true, List.drop_zero, List.drop_nil, List.drop_succ_cons, tyOf, isTy, wBf, wCmp, wEq, hes]
    exact hR _ e1 fun _ z => z
  · exact wAll_true h2 (hk _ e2)
theorem c_is_pin {d : D} {S : Sto} {Kt_ : Kt} {X : KtE} (h : PinD d) (hk : Kt_ (.bl true) S) : wCall (feOf (GL K tab (n + 1)) d_is_pin) [d] S Kt_ X := by
  obtain ⟨x, i, rfl⟩ := h
  refine call_w rfl ?_
  simp only [d_is_pin, ↓wSs, ↓wS, ↓wE, ↓wEs, ↓wI, ↓wIfs, ↓wO, ↓wTg, ↓wTgs, ↓reduceIte, ofS_eq, ofS_beq, String.reduceEq, String.reduceBEq, List.lookup_cons, List.lookup_nil, wipeD, startD, endD, nmO, List.map_cons, List.map_nil, List.cons_append, List.nil_append, List.append_nil, List.getElem?_cons_zero, List.getElem?_cons_succ, List.length_cons, List.length_nil, List.replicate_succ, List.replicate_zero, List.set_cons_zero, List.set_cons_succ, if_true, if_false, Bool.false_eq_true, reduceIte, Bool.not_true, Bool.not_false, wTru, tv, Nat.zero_add, Nat.reduceAdd, ci0, ci1, ci2, ci3, ci4, ci5, ci6, Nat.reduceSub, Nat.sub_self, Nat.le_refl, Nat.reduceLeDiff, sizeLine_eq, Nat.reduceLT, true_and, and_true, and_self, Bool.and_false, Bool.or_false, Bool.or_true, Bool.and_true, Bool.true_and, Bool.true_or, Bool.false_or, Bool.false_and, decide_true, decide_false, ne_eq, not_true_eq_false, not_false_eq_true, List.drop_zero, List.drop_nil, List.drop_succ_cons, tyOf, isTy, wBf, wCmp, wEq]
  refine wSub_tup atI_zero ?_
  simp only [↓wSs, ↓wS, ↓wE, ↓wEs, ↓wI, ↓wIfs, ↓wO, ↓wTg, ↓wTgs, ↓reduceIte, ofS_eq, ofS_beq, String.reduceEq, String.reduceBEq, List.lookup_cons, List.lookup_nil, wipeD, startD, endD, nmO, List.map_cons, List.map_nil, List.cons_append, List.nil_append, List.append_nil, List.getElem?_cons_zero, List.getElem?_cons_succ, List.length_cons, List.length_nil, List.replicate_succ, List.replicate_zero, List.set_cons_zero, List.set_cons_succ, if_true, if_false, Bool.false_eq_true, reduceIte, Bool.not_true, Bool.not_false, wTru, tv, Nat.zero_add, Nat.reduceAdd, ci0, ci1, ci2, ci3, ci4, ci5, ci6, Nat.reduceSub, Nat.sub_self, Nat.le_refl, Nat.reduceLeDiff, sizeLine_eq, Nat.reduceLT, true_and, and_true, and_self, Bool.and_false, Bool.or_false, Bool.or_true, Bool.and_true, Bool.true_and, Bool.true_or, Bool.false_or, Bool.false_and, decide_true, decide_false, ne_eq, not_true_eq_false, not_false_eq_true, List.drop_zero, List.drop_nil, List.drop_succ_cons, fn_is_whole]
  refine wSub_tup (atI_nat (j := 1) rfl) ?_
  exact c_whole K n rfl hk
def NetD (S : Sto) (d : D) : Prop := ∃ x c ps, d = .tup [.str x, .ref c] ∧ S c = some (.lst ps) ∧ (∀ d ∈ ps, PinD d) ∧ ps.length ≤ 1000
theorem NetD.ext {S S' : Sto} {d : D} (h : NetD S d) (e : Ext S S') : NetD S' d := let ⟨x, c, ps, h1, h2, h3, h4⟩ := h; ⟨x, c, ps, h1, e _ _ h2, h3, h4⟩
theorem c_check_kinds {a b : Addr} {ps ns : List D} {S : Sto} {Kt_ : Kt} {X : KtE} (ha : lstAt S a = some ps) (hal : ps.length ≤ 1000) (hp : ∀ d ∈ ps, ∃ es, d = .tup es ∧ (es.length : Int) = 3) (hb : lstAt S b = some ns) (hbl : ns.length ≤ 1000) (hn : ∀ d ∈ ns, NetD S d)
    (hk : ∀ S', Ext S S' → Kt_ .non S') : wCall (feOf (GL K tab (n + 2)) d_check_kinds) [.ref a, .ref b] S Kt_ X := by
  refine call_w rfl ?_
  simp only [d_check_kinds, ↓wSs, ↓wS, ↓wE, ↓wEs, ↓wI, ↓wIfs, ↓wO, ↓wTg, ↓wTgs, ↓reduceIte, ofS_eq, ofS_beq, String.reduceEq, String.reduceBEq, List.lookup_cons, List.lookup_nil, wipeD, startD, endD, nmO, List.map_cons, List.map_nil, List.cons_append, List.nil_append, List.append_nil, List.getElem?_cons_zero, List.getElem?_cons_succ, List.length_cons, List.length_nil, List.replicate_succ, List.replicate_zero, List.set_cons_zero, List.set_cons_succ, if_true, if_false, Bool.false_eq_true, reduceIte, Bool.not_true, Bool.not_false, wTru, tv, Nat.zero_add, Nat.reduceAdd, ci0, ci1, ci2, ci3, ci4, ci5, ci6, Nat.reduceSub, Nat.sub_self, Nat.le_refl, Nat.reduceLeDiff, sizeLine_eq, Nat.reduceLT, true_and, and_true, and_self, Bool.and_false, Bool.or_false, Bool.or_true, Bool.and_true, Bool.true_and, Bool.true_or, Bool.false_or, Bool.false_and, decide_true, decide_false, ne_eq, not_true_eq_false, not_false_eq_true, List.drop_zero, List.drop_nil, List.drop_succ_cons, fn_are_tuples]
  refine c_are_tuples K (n + 1) ha hal hp fun S1 e1 => ?_
  simp only [↓wSs, ↓wS, ↓wE, ↓wEs, ↓wI, ↓wIfs, ↓wO, ↓wTg, ↓wTgs, ↓reduceIte, ofS_eq, ofS_beq, String.reduceEq, String.reduceBEq, List.lookup_cons, List.lookup_nil, wipeD, startD, endD, nmO, List.map_cons, List.map_nil, List.cons_append, List.nil_append, List.append_nil, List.getElem?_cons_zero, List.getElem?_cons_succ, List.length_cons, List.length_nil, List.replicate_succ, List.replicate_zero, List.set_cons_zero, List.set_cons_succ, if_true, if_false, Bool.false_eq_true, reduceIte, Bool.not_true, Bool.not_false, wTru, tv, Nat.zero_add, Nat.reduceAdd, ci0, ci1, ci2, ci3, ci4, ci5, ci6, Nat.reduceSub, Nat.sub_self, Nat.le_refl, Nat.reduceLeDiff, sizeLine_eq, Nat.reduceLT, true_and, and_true, and_self, Bool.and_false, Bool.or_false, Bool.or_true, Bool.and_true, Bool.true_and, Bool.true_or, Bool.false_or, Bool.false_and, decide_true, decide_false, ne_eq, not_true_eq_false, not_false_eq_true, List.drop_zero, List.drop_nil, List.drop_succ_cons]
  refine c_are_tuples K (n + 1) (lstAt_ext e1 hb) hbl (fun d hd => let ⟨x, c, ps, h, _⟩ := hn d hd; ⟨_, h, rfl⟩) fun S2 e2 => ?_
  have e12 := e1.trans e2
  simp only [↓wSs, ↓wS, ↓wE, ↓wEs, ↓wI, ↓wIfs, ↓wO, ↓wTg, ↓wTgs, ↓reduceIte, ofS_eq, ofS_beq, String.reduceEq, String.reduceBEq, List.lookup_cons, List.lookup_nil, wipeD, startD, endD, nmO, List.map_cons, List.map_nil, List.cons_append, List.nil_append, List.append_nil, List.getElem?_cons_zero, List.getElem?_cons_succ, List.length_cons, List.length_nil, List.replicate_succ, List.replicate_zero, List.set_cons_zero, List.set_cons_succ, if_true, if_false, Bool.false_eq_true, reduceIte, Bool.not_true, Bool.not_false, wTru, tv, Nat.zero_add, Nat.reduceAdd, ci0, ci1, ci2, ci3, ci4, ci5, ci6, Nat.reduceSub, Nat.sub_self, Nat.le_refl, Nat.reduceLeDiff, sizeLine_eq, Nat.reduceLT, true_and, and_true, and_self, Bool.and_false, Bool.or_false, Bool.or_true, Bool.and_true, Bool.true_and, Bool.true_or, Bool.false_or, Bool.false_and, decide_true, decide_false, ne_eq, not_true_eq_false, not_false_eq_true, List.drop_zero, List.drop_nil, List.drop_succ_cons, wIter, lstAt_ext e12 hb]
  refine wLoop_of (fun r ρ S' => Ext S S' ∧ (∀ d ∈ r, d ∈ ns) ∧ ∃ o2 o3 o4, ρ = [some (.ref a), some (.ref b), o2, o3, o4]) ?_ ?_ _ _ _ ⟨e12, fun _ h => h, _, _, _, rfl⟩
  · rintro ρ S' ⟨e, _, _⟩
    exact ⟨lstAt_ext e hb, hk _ e⟩
  · rintro d r ρ S' nx ⟨e, hr, o2, o3, o4, rfl⟩ hnx
    refine ⟨lstAt_ext e hb, ?_⟩
    obtain ⟨x, c, qs, rfl, hc, hq, hql⟩ := (hn d (hr d List.mem_cons_self)).ext e
    simp only [↓wSs, ↓wS, ↓wE, ↓wEs, ↓wI, ↓wIfs, ↓wO, ↓wTg, ↓wTgs, ↓reduceIte, ofS_eq, ofS_beq, String.reduceEq, String.reduceBEq, List.lookup_cons, List.lookup_nil, wipeD, startD, endD, nmO, List.map_cons, List.map_nil, List.cons_append, List.nil_append, List.append_nil, List.getElem?_cons_zero, List.getElem?_cons_succ, List.length_cons, List.length_nil, List.replicate_succ, List.replicate_zero, List.set_cons_zero, List.set_cons_succ, if_true, if_false, Bool.false_eq_true, reduceIte, Bool.not_true, Bool.not_false, wTru, tv, Nat.zero_add, Nat.reduceAdd, ci0, ci1, ci2, ci3, ci4, ci5, ci6, Nat.reduceSub, Nat.sub_self, Nat.le_refl, Nat.reduceLeDiff, sizeLine_eq, Nat.reduceLT, true_and, and_true, and_self, Bool.and_false, Bool.or_false, Bool.or_true, Bool.and_true, Bool.true_and, Bool.true_or, Bool.false_or, Bool.false_and, decide_true, decide_false, ne_eq, not_true_eq_false, not_false_eq_true, List.drop_zero, List.drop_nil, List.drop_succ_cons, tyOf, hc, isTy, wIter, lst_of_ hc, fn_is_pin]
    intro p hp
    refine wComp_of (fun S2 => Ext S' S2) (fun _ => .bl true) (fun S2 e2 => lst_of_ (e2 _ _ hc)) (fun S2 m e2 => e2.put hp) _ _ _ (fun d hd S2 R e2 hR => ?_) (Ext.refl.put hp) put_same (by rw [List.length_nil]; omega) (fun S3 e3 h3 => ?_)
    · refine c_is_pin K n (hq d hd) ?_
      exact hR _ e2 fun _ z => z
    · refine wAll_true h3 ?_
      simp only [↓wSs, ↓wS, ↓wE, ↓wEs, ↓wI, ↓wIfs, ↓wO, ↓wTg, ↓wTgs, ↓reduceIte, ofS_eq, ofS_beq, String.reduceEq, String.reduceBEq, List.lookup_cons, List.lookup_nil, wipeD, startD, endD, nmO, List.map_cons, List.map_nil, List.cons_append, List.nil_append, List.append_nil, List.getElem?_cons_zero, List.getElem?_cons_succ, List.length_cons, List.length_nil, List.replicate_succ, List.replicate_zero, List.set_cons_zero, List.set_cons_succ, if_true, if_false, Bool.false_eq_true, reduceIte, Bool.not_true, Bool.not_false, wTru, tv, Nat.zero_add, Nat.reduceAdd, ci0, ci1, ci2, ci3, ci4, ci5, ci6, Nat.reduceSub, Nat.sub_self, Nat.le_refl, Nat.reduceLeDiff, sizeLine_eq, Nat.reduceLT, true_and, and_true, and_self, Bool.and_false, Bool.or_false, Bool.or_true, Bool.and_true, Bool.true_and, Bool.true_or, Bool.false_or, Bool.false_and, decide_true, decide_false, ne_eq, not_true_eq_false, not_false_eq_true, List.drop_zero, List.drop_nil, List.drop_succ_cons]
      exact hnx _ _ ⟨e.trans e3, fun d hd => hr d (List.mem_cons_of_mem _ hd), _, _, _, rfl⟩
theorem c_is_name {x : Str} {c : Nat} {cs : List Nat} {S : Sto} {Kt_ : Kt} {X : KtE} (hx : x.cps.toList = c :: cs) (hl : x.length ≤ 8) (hc : c ∈ (Str.ofString "abcdefghijklmnopqrstuvwxyz").cps.toList) (hs : ∀ z ∈ x.cps.toList, z ∈ (Str.ofString "abcdefghijklmnopqrstuvwxyz" ++ Str.ofString "0123456789").cps.toList) (hk : ∀ S', Ext S S' → Kt_ (.bl true) S') :
    wCall (feOf (GL K tab n) d_is_name) [.str x] S Kt_ X := by
  have hne : x ≠ Str.ofString "" := fun e => by rw [e] at hx; revert hx; exact nofun
  refine call_w rfl ?_
  simp only [d_is_name, ↓wSs, ↓wS, ↓wE, ↓wEs, ↓wI, ↓wIfs, ↓wO, ↓wTg, ↓wTgs, ↓reduceIte, ofS_eq, ofS_beq, String.reduceEq, String.reduceBEq, List.lookup_cons, List.lookup_nil, wipeD, startD, endD, nmO, List.map_cons, List.map_nil, List.cons_append, List.nil_append, List.append_nil, List.getElem?_cons_zero, List.getElem?_cons_succ, List.length_cons, List.length_nil, List.replicate_succ, List.replicate_zero, List.set_cons_zero, List.set_cons_succ, if_true, if_false, Bool.false_eq_true, reduceIte, Bool.not_true, Bool.not_false, wTru, tv, Nat.zero_add, Nat.reduceAdd, ci0, ci1, ci2, ci3, ci4, ci5, ci6, Nat.reduceSub, Nat.sub_self, Nat.le_refl, Nat.reduceLeDiff, sizeLine_eq, Nat.reduceLT, true_and, and_true, and_self, Bool.and_false, Bool.or_false, Bool.or_true, Bool.and_true, Bool.true_and, Bool.true_or, Bool.false_or, Bool.false_and, decide_true, decide_false, ne_eq, not_true_eq_false, not_false_eq_true, List.drop_zero, List.drop_nil, List.drop_succ_cons, tyOf, isTy, wCmp, wEq, hne, wBf, wGt, va_MOST_SIGNS, va_SMALL, va_FIGURES_drawings]
  have h8 : ¬ ((8 : Int) < (x.length : Int)) := by omega
  have hlen : x.cps.toList.length = x.length := rfl
  simp only [h8, ↓wSs, ↓wS, ↓wE, ↓wEs, ↓wI, ↓wIfs, ↓wO, ↓wTg, ↓wTgs, ↓reduceIte, ofS_eq, ofS_beq, String.reduceEq, String.reduceBEq, List.lookup_cons, List.lookup_nil, wipeD, startD, endD, nmO, List.map_cons, List.map_nil, List.cons_append, List.nil_append, List.append_nil, List.getElem?_cons_zero, List.getElem?_cons_succ, List.length_cons, List.length_nil, List.replicate_succ, List.replicate_zero, List.set_cons_zero, List.set_cons_succ, if_true, if_false, Bool.false_eq_true, reduceIte, Bool.not_true, Bool.not_false, wTru, tv, Nat.zero_add, Nat.reduceAdd, ci0, ci1, ci2, ci3, ci4, ci5, ci6, Nat.reduceSub, Nat.sub_self, Nat.le_refl, Nat.reduceLeDiff, sizeLine_eq, Nat.reduceLT, true_and, and_true, and_self, Bool.and_false, Bool.or_false, Bool.or_true, Bool.and_true, Bool.true_and, Bool.true_or, Bool.false_or, Bool.false_and, decide_true, decide_false, ne_eq, not_true_eq_false, not_false_eq_true, List.drop_zero, List.drop_nil, List.drop_succ_cons]
  refine ⟨by omega, 0, c, rfl, by rw [sizeLine_eq]; omega, ?_, c, rfl, ?_⟩
  · rw [hx]; exact atI_zero
  · simp only [hc, ↓wSs, ↓wS, ↓wE, ↓wEs, ↓wI, ↓wIfs, ↓wO, ↓wTg, ↓wTgs, ↓reduceIte, ofS_eq, ofS_beq, String.reduceEq, String.reduceBEq, List.lookup_cons, List.lookup_nil, wipeD, startD, endD, nmO, List.map_cons, List.map_nil, List.cons_append, List.nil_append, List.append_nil, List.getElem?_cons_zero, List.getElem?_cons_succ, List.length_cons, List.length_nil, List.replicate_succ, List.replicate_zero, List.set_cons_zero, List.set_cons_succ, if_true, if_false, Bool.false_eq_true, reduceIte, Bool.not_true, Bool.not_false, wTru, tv, Nat.zero_add, Nat.reduceAdd, ci0, ci1, ci2, ci3, ci4, ci5, ci6, Nat.reduceSub, Nat.sub_self, Nat.le_refl, Nat.reduceLeDiff, sizeLine_eq, Nat.reduceLT, true_and, and_true, and_self, Bool.and_false, Bool.or_false, Bool.or_true, Bool.and_true, Bool.true_and, Bool.true_or, Bool.false_or, Bool.false_and, decide_true, decide_false, ne_eq, not_true_eq_false, not_false_eq_true, List.drop_zero, List.drop_nil, List.drop_succ_cons, wIter]
    intro p hp
    refine wComp_of (fun S2 => Ext S S2) (fun _ => .bl true) (fun S2 e2 => trivial) (fun S2 m e2 => e2.put hp) _ _ _ (fun d hd S2 R e2 hR => ?_) (Ext.refl.put hp) put_same (by rw [List.length_nil, List.length_map]; omega) (fun S3 e3 h3 => ?_)
    · rw [List.mem_map] at hd
      obtain ⟨z, hz, rfl⟩ := hd
      simp only [wBin, wIn]
      refine ⟨by decide +kernel, z, rfl, ?_⟩
      rw [decide_eq_true (hs z hz)]
      exact hR _ e2 fun _ z => z
    · refine ⟨List.replicate x.cps.toList.length true, ?_, ?_⟩
      · rw [lst_of_ h3, List.nil_append, List.map_map]
        congr 1
        have : ∀ l : List Nat, l.map ((fun _ => D.bl true) ∘ fun c => D.str ⟨#[c]⟩) = (List.replicate l.length true).map D.bl := by
          intro l
          induction l with
          | nil => rfl
          | cons a l ih => rw [List.map_cons, ih]; rfl
        exact this _
      · have : ∀ k : Nat, (List.replicate k true).all id = true := by
          intro k
          induction k with
          | zero => rfl
          | succ k ih => rw [List.replicate_succ, List.all_cons, ih]; rfl
        rw [this]; exact hk _ e3
/-- names.count(name) of a list without doubles -/
theorem c_check_names {a : Addr} {xs : List Str} {S : Sto} {Kt_ : Kt} {X : KtE} (ha : lstAt S a = some (xs.map D.str)) (hn : ∀ x ∈ xs, ∀ S Kt_ X, (∀ S', Ext S S' → Kt_ (.bl true) S') → wCall (feOf (GL K tab n) d_is_name) [.str x] S Kt_ X) (hc : ∀ x ∈ xs, xs.count x ≤ 1)
    (hk : ∀ S', Ext S S' → Kt_ .non S') : wCall (feOf (GL K tab (n + 1)) d_check_names) [.ref a] S Kt_ X := by
  refine call_w rfl ?_
  simp only [d_check_names, ↓wSs, ↓wS, ↓wE, ↓wEs, ↓wI, ↓wIfs, ↓wO, ↓wTg, ↓wTgs, ↓reduceIte, ofS_eq, ofS_beq, String.reduceEq, String.reduceBEq, List.lookup_cons, List.lookup_nil, wipeD, startD, endD, nmO, List.map_cons, List.map_nil, List.cons_append, List.nil_append, List.append_nil, List.getElem?_cons_zero, List.getElem?_cons_succ, List.length_cons, List.length_nil, List.replicate_succ, List.replicate_zero, List.set_cons_zero, List.set_cons_succ, if_true, if_false, Bool.false_eq_true, reduceIte, Bool.not_true, Bool.not_false, wTru, tv, Nat.zero_add, Nat.reduceAdd, ci0, ci1, ci2, ci3, ci4, ci5, ci6, Nat.reduceSub, Nat.sub_self, Nat.le_refl, Nat.reduceLeDiff, sizeLine_eq, Nat.reduceLT, true_and, and_true, and_self, Bool.and_false, Bool.or_false, Bool.or_true, Bool.and_true, Bool.true_and, Bool.true_or, Bool.false_or, Bool.false_and, decide_true, decide_false, ne_eq, not_true_eq_false, not_false_eq_true, List.drop_zero, List.drop_nil, List.drop_succ_cons, wIter, ha, fn_is_name]
  refine wLoop_of (fun r ρ S' => Ext S S' ∧ (∃ ys : List Str, r = ys.map D.str ∧ ∀ y ∈ ys, y ∈ xs) ∧ ∃ o, ρ = [some (.ref a), o]) ?_ ?_ _ _ _ ⟨Ext.refl, ⟨xs, rfl, fun _ h => h⟩, _, rfl⟩
  · rintro ρ S' ⟨e, _, _⟩
    exact ⟨lstAt_ext e ha, hk _ e⟩
  · rintro d r ρ S' nx ⟨e, ⟨ys, hr, hy⟩, o, rfl⟩ hnx
    refine ⟨lstAt_ext e ha, ?_⟩
    cases ys with
    | nil => cases hr
    | cons y ys =>
      simp only [List.map_cons, List.cons.injEq] at hr
      obtain ⟨rfl, rfl⟩ := hr
      simp only [↓wSs, ↓wS, ↓wE, ↓wEs, ↓wI, ↓wIfs, ↓wO, ↓wTg, ↓wTgs, ↓reduceIte, ofS_eq, ofS_beq, String.reduceEq, String.reduceBEq, List.lookup_cons, List.lookup_nil, wipeD, startD, endD, nmO, List.map_cons, List.map_nil, List.cons_append, List.nil_append, List.append_nil, List.getElem?_cons_zero, List.getElem?_cons_succ, List.length_cons, List.length_nil, List.replicate_succ, List.replicate_zero, List.set_cons_zero, List.set_cons_succ, if_true, if_false, Bool.false_eq_true, reduceIte, Bool.not_true, Bool.not_false, wTru, tv, Nat.zero_add, Nat.reduceAdd, ci0, ci1, ci2, ci3, ci4, ci5, ci6, Nat.reduceSub, Nat.sub_self, Nat.le_refl, Nat.reduceLeDiff, sizeLine_eq, Nat.reduceLT, true_and, and_true, and_self, Bool.and_false, Bool.or_false, Bool.or_true, Bool.and_true, Bool.true_and, Bool.true_or, Bool.false_or, Bool.false_and, decide_true, decide_false, ne_eq, not_true_eq_false, not_false_eq_true, List.drop_zero, List.drop_nil, List.drop_succ_cons, fn_is_name]
      refine hn y (hy y List.mem_cons_self) _ _ _ fun S2 e2 => ?_
      have e12 := e.trans e2
      have hl2 := lstAt_ext e12 ha
      have hb : bty (.ref a) S2 = some .list := by
        unfold bty
        unfold lstAt at hl2
        split at hl2
        · rename_i h; simp only [h]
        · rename_i h; simp only [h]
        · cases hl2
      have hcount : (xs.map D.str).countP (fun z => eqF z (.str y)) = xs.count y := by
        rw [List.countP_map, List.count]
        rfl
      have hflat : (xs.map D.str).all flatD = true := by rw [List.all_map]; exact List.all_eq_true.mpr fun _ _ => rfl
      have hc1 := hc y (hy y List.mem_cons_self)
      simp only [↓wSs, ↓wS, ↓wE, ↓wEs, ↓wI, ↓wIfs, ↓wO, ↓wTg, ↓wTgs, ↓reduceIte, ofS_eq, ofS_beq, String.reduceEq, String.reduceBEq, List.lookup_cons, List.lookup_nil, wipeD, startD, endD, nmO, List.map_cons, List.map_nil, List.cons_append, List.nil_append, List.append_nil, List.getElem?_cons_zero, List.getElem?_cons_succ, List.length_cons, List.length_nil, List.replicate_succ, List.replicate_zero, List.set_cons_zero, List.set_cons_succ, if_true, if_false, Bool.false_eq_true, reduceIte, Bool.not_true, Bool.not_false, wTru, tv, Nat.zero_add, Nat.reduceAdd, ci0, ci1, ci2, ci3, ci4, ci5, ci6, Nat.reduceSub, Nat.sub_self, Nat.le_refl, Nat.reduceLeDiff, sizeLine_eq, Nat.reduceLT, true_and, and_true, and_self, Bool.and_false, Bool.or_false, Bool.or_true, Bool.and_true, Bool.true_and, Bool.true_or, Bool.false_or, Bool.false_and, decide_true, decide_false, ne_eq, not_true_eq_false, not_false_eq_true, List.drop_zero, List.drop_nil, List.drop_succ_cons, hb, mT, wBm, hl2, wCmp, wGt, hcount, hflat, flatD, show ¬ ((1 : Int) < ((xs.count y : Nat) : Int)) by omega]
      exact hnx _ _ ⟨e12, ⟨ys, rfl, fun z hz => hy z (List.mem_cons_of_mem _ hz)⟩, _, rfl⟩
theorem c_pins_of1 {a : Addr} {x y : Str} {k : Nat} {S : Sto} {Kt_ : Kt} {X : KtE} (ha : lstAt S a = some [.tup [.str x, .str y, .int k]]) (hk8 : 1 ≤ k ∧ k ≤ 8) (hle : ∀ S, List.Pairwise (fun a b => leS S a b = true) ((rangeD 0 k).map fun d => D.tup [.str x, d])) (hnm : ∀ S Kt_ X, (∀ S', Ext S S' → Kt_ (.bl true) S') → wCall (feOf (GL K tab (n + 1)) d_is_name) [.str y] S Kt_ X)
    (hk : ∀ S' p, Ext S S' → S' p = some (.lst ((rangeD 0 k).map fun d => .tup [.str x, d])) → Kt_ (.ref p) S') : wCall (feOf (GL K tab (n + 2)) d_pins_of) [.ref a] S Kt_ X := by
  refine call_w rfl ?_
  simp only [d_pins_of, ↓wSs, ↓wS, ↓wE, ↓wEs, ↓wI, ↓wIfs, ↓wO, ↓wTg, ↓wTgs, ↓reduceIte, ofS_eq, ofS_beq, String.reduceEq, String.reduceBEq, List.lookup_cons, List.lookup_nil, wipeD, startD, endD, nmO, List.map_cons, List.map_nil, List.cons_append, List.nil_append, List.append_nil, List.getElem?_cons_zero, List.getElem?_cons_succ, List.length_cons, List.length_nil, List.replicate_succ, List.replicate_zero, List.set_cons_zero, List.set_cons_succ, if_true, if_false, Bool.false_eq_true, reduceIte, Bool.not_true, Bool.not_false, wTru, tv, Nat.zero_add, Nat.reduceAdd, ci0, ci1, ci2, ci3, ci4, ci5, ci6, Nat.reduceSub, Nat.sub_self, Nat.le_refl, Nat.reduceLeDiff, sizeLine_eq, Nat.reduceLT, true_and, and_true, and_self, Bool.and_false, Bool.or_false, Bool.or_true, Bool.and_true, Bool.true_and, Bool.true_or, Bool.false_or, Bool.false_and, decide_true, decide_false, ne_eq, not_true_eq_false, not_false_eq_true, List.drop_zero, List.drop_nil, List.drop_succ_cons, wNew, wIter]
  intro p hp
  have hpa : a ≠ p := fun e => by
    unfold lstAt at ha
    rw [e, hp] at ha
    cases ha
  have ha1 : ∀ m, lstAt (put S p m) a = some [.tup [.str x, .str y, .int k]] := fun m => lstAt_ext (Ext.new hp) ha
  simp only [ha1, wLoop, ↓wSs, ↓wS, ↓wE, ↓wEs, ↓wI, ↓wIfs, ↓wO, ↓wTg, ↓wTgs, ↓reduceIte, ofS_eq, ofS_beq, String.reduceEq, String.reduceBEq, List.lookup_cons, List.lookup_nil, wipeD, startD, endD, nmO, List.map_cons, List.map_nil, List.cons_append, List.nil_append, List.append_nil, List.getElem?_cons_zero, List.getElem?_cons_succ, List.length_cons, List.length_nil, List.replicate_succ, List.replicate_zero, List.set_cons_zero, List.set_cons_succ, if_true, if_false, Bool.false_eq_true, reduceIte, Bool.not_true, Bool.not_false, wTru, tv, Nat.zero_add, Nat.reduceAdd, ci0, ci1, ci2, ci3, ci4, ci5, ci6, Nat.reduceSub, Nat.sub_self, Nat.le_refl, Nat.reduceLeDiff, sizeLine_eq, Nat.reduceLT, true_and, and_true, and_self, Bool.and_false, Bool.or_false, Bool.or_true, Bool.and_true, Bool.true_and, Bool.true_or, Bool.false_or, Bool.false_and, decide_true, decide_false, ne_eq, not_true_eq_false, not_false_eq_true, List.drop_zero, List.drop_nil, List.drop_succ_cons, fn_is_name]
  refine hnm _ _ _ fun S2 e2 => ?_
  simp only [↓wSs, ↓wS, ↓wE, ↓wEs, ↓wI, ↓wIfs, ↓wO, ↓wTg, ↓wTgs, ↓reduceIte, ofS_eq, ofS_beq, String.reduceEq, String.reduceBEq, List.lookup_cons, List.lookup_nil, wipeD, startD, endD, nmO, List.map_cons, List.map_nil, List.cons_append, List.nil_append, List.append_nil, List.getElem?_cons_zero, List.getElem?_cons_succ, List.length_cons, List.length_nil, List.replicate_succ, List.replicate_zero, List.set_cons_zero, List.set_cons_succ, if_true, if_false, Bool.false_eq_true, reduceIte, Bool.not_true, Bool.not_false, wTru, tv, Nat.zero_add, Nat.reduceAdd, ci0, ci1, ci2, ci3, ci4, ci5, ci6, Nat.reduceSub, Nat.sub_self, Nat.le_refl, Nat.reduceLeDiff, sizeLine_eq, Nat.reduceLT, true_and, and_true, and_self, Bool.and_false, Bool.or_false, Bool.or_true, Bool.and_true, Bool.true_and, Bool.true_or, Bool.false_or, Bool.false_and, decide_true, decide_false, ne_eq, not_true_eq_false, not_false_eq_true, List.drop_zero, List.drop_nil, List.drop_succ_cons, fn_is_whole]
  refine c_whole K (n + 1) rfl ?_
  have q1 : ¬ ((k : Int) < 1) := by omega
  have q2 : ¬ ((8 : Int) < (k : Int)) := by omega
  have hp2 : S2 p = some (.lst []) := e2 _ _ put_same
  simp only [isW, ↓wSs, ↓wS, ↓wE, ↓wEs, ↓wI, ↓wIfs, ↓wO, ↓wTg, ↓wTgs, ↓reduceIte, ofS_eq, ofS_beq, String.reduceEq, String.reduceBEq, List.lookup_cons, List.lookup_nil, wipeD, startD, endD, nmO, List.map_cons, List.map_nil, List.cons_append, List.nil_append, List.append_nil, List.getElem?_cons_zero, List.getElem?_cons_succ, List.length_cons, List.length_nil, List.replicate_succ, List.replicate_zero, List.set_cons_zero, List.set_cons_succ, if_true, if_false, Bool.false_eq_true, reduceIte, Bool.not_true, Bool.not_false, wTru, tv, Nat.zero_add, Nat.reduceAdd, ci0, ci1, ci2, ci3, ci4, ci5, ci6, Nat.reduceSub, Nat.sub_self, Nat.le_refl, Nat.reduceLeDiff, sizeLine_eq, Nat.reduceLT, true_and, and_true, and_self, Bool.and_false, Bool.or_false, Bool.or_true, Bool.and_true, Bool.true_and, Bool.true_or, Bool.false_or, Bool.false_and, decide_true, decide_false, ne_eq, not_true_eq_false, not_false_eq_true, List.drop_zero, List.drop_nil, List.drop_succ_cons, wCmp, wLt, wGt, q1, q2, va_MOST_PINS, bty, hp2, mT]
  refine ⟨⟨by omega, by omega⟩, fun p1 hp1 => ?_⟩
  have hpp : p1 ≠ p := fun e => by rw [e, hp2] at hp1; cases hp1
  have e3 : Ext S S2 := (Ext.new hp).trans e2
  refine wComp_of (fun S' => Ext S2 S') (fun d => .tup [.str x, d]) (fun _ _ => trivial) (fun S2 m e => e.put hp1) _ _ _ (fun d hd S3 R e4 hR => hR _ e4 fun _ z => z) (Ext.refl.put hp1) put_same (by unfold rangeD; simp; omega) (fun S4 e4 h4 => ?_)
  have hp4 : S4 p = some (.lst []) := e4 _ _ hp2
  simp only [wBm, hp4, h4, ↓wSs, ↓wS, ↓wE, ↓wEs, ↓wI, ↓wIfs, ↓wO, ↓wTg, ↓wTgs, ↓reduceIte, ofS_eq, ofS_beq, String.reduceEq, String.reduceBEq, List.lookup_cons, List.lookup_nil, wipeD, startD, endD, nmO, List.map_cons, List.map_nil, List.cons_append, List.nil_append, List.append_nil, List.getElem?_cons_zero, List.getElem?_cons_succ, List.length_cons, List.length_nil, List.replicate_succ, List.replicate_zero, List.set_cons_zero, List.set_cons_succ, if_true, if_false, Bool.false_eq_true, reduceIte, Bool.not_true, Bool.not_false, wTru, tv, Nat.zero_add, Nat.reduceAdd, ci0, ci1, ci2, ci3, ci4, ci5, ci6, Nat.reduceSub, Nat.sub_self, Nat.le_refl, Nat.reduceLeDiff, sizeLine_eq, Nat.reduceLT, true_and, and_true, and_self, Bool.and_false, Bool.or_false, Bool.or_true, Bool.and_true, Bool.true_and, Bool.true_or, Bool.false_or, Bool.false_and, decide_true, decide_false, ne_eq, not_true_eq_false, not_false_eq_true, List.drop_zero, List.drop_nil, List.drop_succ_cons]
  have hlen : (List.map (fun d => D.tup [D.str x, d]) (rangeD 0 (k : Int).toNat)).length ≤ 16777216 := by unfold rangeD; simp; omega
  refine ⟨hlen, lstAt_ext ((e3.trans e4).put hp) ha, ?_⟩
  simp only [wBf, lstAt, put_same]
  have hpin : ∀ d ∈ List.map (fun d => D.tup [D.str x, d]) (rangeD 0 (k : Int).toNat), PinD d := by
    intro d hd
    obtain ⟨e, he, rfl⟩ := List.mem_map.mp hd
    unfold rangeD at he
    obtain ⟨j, _, rfl⟩ := List.mem_map.mp he
    exact ⟨_, _, rfl⟩
  refine sorted_pins hpin (by unfold rangeD; simp; omega) (wNew_of fun q S5 hq e5 h5 => ?_)
  refine hk S5 q ((((e3.trans e4).put hp)).trans e5) ?_
  rw [h5, List.mergeSort_of_pairwise]
  · rfl
  · exact hle _
theorem name_a {S : Sto} {Kt_ : Kt} {X : KtE} (hk : ∀ S', Ext S S' → Kt_ (.bl true) S') : wCall (feOf (GL K tab n) d_is_name) [.str "a"] S Kt_ X :=
  c_is_name K n (c := 97) (cs := []) (by decide +kernel) (by decide +kernel) (by decide +kernel) (by decide +kernel) hk
theorem name_r {S : Sto} {Kt_ : Kt} {X : KtE} (hk : ∀ S', Ext S S' → Kt_ (.bl true) S') : wCall (feOf (GL K tab n) d_is_name) [.str "r"] S Kt_ X :=
  c_is_name K n (c := 114) (cs := []) (by decide +kernel) (by decide +kernel) (by decide +kernel) (by decide +kernel) hk
theorem name_n {S : Sto} {Kt_ : Kt} {X : KtE} (hk : ∀ S', Ext S S' → Kt_ (.bl true) S') : wCall (feOf (GL K tab n) d_is_name) [.str "n"] S Kt_ X :=
  c_is_name K n (c := 110) (cs := []) (by decide +kernel) (by decide +kernel) (by decide +kernel) (by decide +kernel) hk
end
end DL.K16

namespace DL.K16
open PySem PySem.Spec PyProof.Rows
section
variable (K : PySem.W.Frag) (n : Nat)
def part (k : Nat) : D := .tup [.str "a", .str "r", .int k]
def pinsK (k : Nat) : List D := (rangeD 0 k).map fun d => D.tup [.str "a", d]
/-- a drawing of one part with k pins, one net with all of them -/
def drawAt (S : Sto) (p : Addr) (k : Nat) : Prop := ∃ a b c h, S p = some (.ins (He.ga K "Drawing") [("parts", .ref a), ("nets", .ref b), ("homes", .ref h)]) ∧ S a = some (.lst [part k]) ∧ S b = some (.lst [.tup [.str "n", .ref c]]) ∧ S c = some (.lst (pinsK k)) ∧
  S h = some (.dct false true ((pinsK k).map fun d => (d, .str "n")))
theorem pinsK_pin (k : Nat) : ∀ d ∈ pinsK k, PinD d := by
  intro d hd
  obtain ⟨e, he, rfl⟩ := List.mem_map.mp hd
  unfold rangeD at he
  obtain ⟨j, _, rfl⟩ := List.mem_map.mp he
  exact ⟨_, _, rfl⟩
theorem pinsK_len (k : Nat) : (pinsK k).length = k := by unfold pinsK rangeD; simp
theorem pinsK_sorted {k : Nat} (hk : k = 1 ∨ k = 2) (S : Sto) : List.Pairwise (fun a b => leS S a b = true) (pinsK k) := by
  rcases hk with rfl | rfl
  · exact List.pairwise_singleton _ _
  · have e : pinsK 2 = [.tup [.str "a", .int 0], .tup [.str "a", .int 1]] := rfl
    rw [e]
    refine List.Pairwise.cons (fun d hd => ?_) (List.pairwise_singleton _ _)
    simp only [List.mem_singleton] at hd
    subst hd
    rfl
theorem pd_pins {k : Nat} {S : Sto} {c : Addr} (h : S c = some (.lst (pinsK k))) (m : Nat) : pd (m + 4) S (.ref c) = some (.list ((pinsK k).map pinP)) := by
  have e : pdl (pd (m + 3) S) (pinsK k) = some ((pinsK k).map pinP) := by
    have : ∀ ds : List D, (∀ d ∈ ds, PinD d) → pdl (pd (m + 3) S) ds = some (ds.map pinP) := by
      intro ds
      induction ds with
      | nil => intro _; rfl
      | cons d ds ih =>
        intro h
        obtain ⟨x, i, rfl⟩ := h d List.mem_cons_self
        unfold pdl
        rw [ih fun e he => h e (List.mem_cons_of_mem _ he)]
        rfl
    exact this _ (pinsK_pin k)
  show (match lstAt S c with | some ds => (pdl (pd (m + 3) S) ds).map PyData.list | none => none) = _
  rw [lst_of_ h]
  simp only [e, Option.map_some]
theorem c_drawing {k : Nat} (hk : k = 1 ∨ k = 2) {q1 q2 q3 : Addr} {S : Sto} {post : Addr → Sto → Prop} {X : KtE} (s1 : S q1 = some (.lst [part k])) (s2 : S q2 = some (.lst (pinsK k))) (s3 : S q3 = some (.lst [.tup [.str "n", .ref q2]]))
    (hpost : ∀ p S', S p = none → Ext S S' → drawAt K S' p k → post p S') (p : Addr) (hp : S p = none) :
    wCall (feOf (GL K tab (n + 6)) d_Drawing_init) [.ref p, .ref q1, .ref q3] (put S p (.ins (He.ga K "Drawing") [])) (fun v S2 => v = .non ∧ post p S2) X := by
  have e0 : Ext S (put S p (.ins (He.ga K "Drawing") [])) := Ext.new hp
  generalize hS0 : put S p (.ins (He.ga K "Drawing") []) = S0 at e0 ⊢
  have g4 : S0 p = some (.ins (He.ga K "Drawing") []) := by rw [← hS0, put_same]
  have pn : ∀ {x : Addr} {m : MO}, S x = some m → x ≠ p := fun {x m} h e => by rw [e, hp] at h; cases h
  have h1p := pn s1
  have h2p := pn s2
  have h3p := pn s3
  clear hS0
  have g1 := e0 _ _ s1
  have g2 := e0 _ _ s2
  have g3 := e0 _ _ s3
  refine call_w rfl ?_
  simp only [d_Drawing_init, ↓wSs, ↓wS, ↓wE, ↓wEs, ↓wI, ↓wIfs, ↓wO, ↓wTg, ↓wTgs, ↓reduceIte, ofS_eq, ofS_beq, String.reduceEq, String.reduceBEq, List.lookup_cons, List.lookup_nil, wipeD, startD, endD, nmO, List.map_cons, List.map_nil, List.cons_append, List.nil_append, List.append_nil, List.getElem?_cons_zero, List.getElem?_cons_succ, List.length_cons, List.length_nil, List.replicate_succ, List.replicate_zero, List.set_cons_zero, List.set_cons_succ, if_true, if_false, Bool.false_eq_true, reduceIte, Bool.not_true, Bool.not_false, wTru, tv, Nat.zero_add, Nat.reduceAdd, ci0, ci1, ci2, ci3, ci4, ci5, ci6, Nat.reduceSub, Nat.sub_self, Nat.le_refl, Nat.reduceLeDiff, sizeLine_eq, Nat.reduceLT, true_and, and_true, and_self, Bool.and_false, Bool.or_false, Bool.or_true, Bool.and_true, Bool.true_and, Bool.true_or, Bool.false_or, Bool.false_and, decide_true, decide_false, ne_eq, not_true_eq_false, not_false_eq_true, List.drop_zero, List.drop_nil, List.drop_succ_cons, wBf, lst_of_ g1, lst_of_ g3, va_MOST_PARTS, va_MOST_NETS, wCmp, wGt, Int.reduceLT, fn_check_kinds]
  refine c_check_kinds K (n + 3) (lst_of_ g1) (by simp) (fun d hd => ?_) (lst_of_ g3) (by simp) (fun d hd => ?_) fun S1 e1 => ?_
  · simp only [List.mem_singleton] at hd
    subst hd
    exact ⟨_, rfl, rfl⟩
  · simp only [List.mem_singleton] at hd
    subst hd
    exact ⟨_, _, _, rfl, g2, pinsK_pin k, by rw [pinsK_len]; omega⟩
  have k1 := e1 _ _ g1
  have k2 := e1 _ _ g2
  have k3 := e1 _ _ g3
  have k4 := e1 _ _ g4
  simp only [fn_check_names, ↓wSs, ↓wS, ↓wE, ↓wEs, ↓wI, ↓wIfs, ↓wO, ↓wTg, ↓wTgs, ↓reduceIte, ofS_eq, ofS_beq, String.reduceEq, String.reduceBEq, List.lookup_cons, List.lookup_nil, wipeD, startD, endD, nmO, List.map_cons, List.map_nil, List.cons_append, List.nil_append, List.append_nil, List.getElem?_cons_zero, List.getElem?_cons_succ, List.length_cons, List.length_nil, List.replicate_succ, List.replicate_zero, List.set_cons_zero, List.set_cons_succ, if_true, if_false, Bool.false_eq_true, reduceIte, Bool.not_true, Bool.not_false, wTru, tv, Nat.zero_add, Nat.reduceAdd, ci0, ci1, ci2, ci3, ci4, ci5, ci6, Nat.reduceSub, Nat.sub_self, Nat.le_refl, Nat.reduceLeDiff, sizeLine_eq, Nat.reduceLT, true_and, and_true, and_self, Bool.and_false, Bool.or_false, Bool.or_true, Bool.and_true, Bool.true_and, Bool.true_or, Bool.false_or, Bool.false_and, decide_true, decide_false, ne_eq, not_true_eq_false, not_false_eq_true, List.drop_zero, List.drop_nil, List.drop_succ_cons, wIter, lst_of_ k1]
  intro r hr
  refine wComp_of (fun S2 => Ext S1 S2) (fun _ => .str "a") (fun S2 e2 => lst_of_ (e2 _ _ k1)) (fun S2 m e2 => e2.put hr) _ _ _ (fun d hd S2 R e2 hR => ?_) (Ext.refl.put hr) put_same (by simp) (fun S2 e2 h2 => ?_)
  · simp only [List.mem_singleton] at hd
    subst hd
    exact wSub_tup atI_zero (hR _ e2 fun _ z => z)
  refine c_check_names K (n + 4) (xs := ["a"]) (lst_of_ h2) (fun x hx S Kt_ X h => by simp only [List.mem_singleton] at hx; subst hx; exact name_a K (n + 4) h) (by simp) fun S3 e3 => ?_
  have e13 := e2.trans e3
  simp only [lst_of_ (e13 _ _ k3)]
  intro r2 hr2
  refine wComp_of (fun S4 => Ext S3 S4) (fun _ => .str "n") (fun S4 e4 => lst_of_ (e4 _ _ (e13 _ _ k3))) (fun S4 m e4 => e4.put hr2) _ _ _ (fun d hd S4 R e4 hR => ?_) (Ext.refl.put hr2) put_same (by simp) (fun S4 e4 h4 => ?_)
  · simp only [List.mem_singleton] at hd
    subst hd
    exact wSub_tup atI_zero (hR _ e4 fun _ z => z)
  refine c_check_names K (n + 4) (xs := ["n"]) (lst_of_ h4) (fun x hx S Kt_ X h => by simp only [List.mem_singleton] at hx; subst hx; exact name_n K (n + 4) h) (by simp) fun S5 e5 => ?_
  have e15 := (e13.trans e4).trans e5
  have m1 := e15 _ _ k1
  have m2 := e15 _ _ k2
  have m3 := e15 _ _ k3
  have m4 := e15 _ _ k4
  have e05 := (e0.trans e1).trans e15
  clear k1 k2 k3 k4 g1 g2 g3 g4 h2 h4 hr hr2 e1 e2 e3 e4 e5 e13 e15
  simp only [lst_of_ m1]
  intro a ha
  have a1 : a ≠ q1 := fun e => by rw [e, m1] at ha; cases ha
  have ap : a ≠ p := fun e => by rw [e, m4] at ha; cases ha
  have la : S5 q1 ≠ none := by rw [m1]; simp
  refine wComp_of (fun S6 => Ext S5 S6) (fun d => d) (fun S6 e6 => lst_of_ (e6 _ _ m1)) (fun S6 m e6 => e6.put ha) _ _ _ (fun d hd S6 R e6 hR => ?_) (Ext.refl.put ha) put_same (by simp) (fun S6 e6 h6 => ?_)
  · simp only [List.mem_singleton] at hd
    subst hd
    simp only [part, ↓wSs, ↓wS, ↓wE, ↓wEs, ↓wI, ↓wIfs, ↓wO, ↓wTg, ↓wTgs, ↓reduceIte, ofS_eq, ofS_beq, String.reduceEq, String.reduceBEq, List.lookup_cons, List.lookup_nil, wipeD, startD, endD, nmO, List.map_cons, List.map_nil, List.cons_append, List.nil_append, List.append_nil, List.getElem?_cons_zero, List.getElem?_cons_succ, List.length_cons, List.length_nil, List.replicate_succ, List.replicate_zero, List.set_cons_zero, List.set_cons_succ, if_true, if_false, Bool.false_eq_true, reduceIte, Bool.not_true, Bool.not_false, wTru, tv, Nat.zero_add, Nat.reduceAdd, ci0, ci1, ci2, ci3, ci4, ci5, ci6, Nat.reduceSub, Nat.sub_self, Nat.le_refl, Nat.reduceLeDiff, sizeLine_eq, Nat.reduceLT, true_and, and_true, and_self, Bool.and_false, Bool.or_false, Bool.or_true, Bool.and_true, Bool.true_and, Bool.true_or, Bool.false_or, Bool.false_and, decide_true, decide_false, ne_eq, not_true_eq_false, not_false_eq_true, List.drop_zero, List.drop_nil, List.drop_succ_cons, wBf]
    exact hR _ e6 fun _ z => z
  simp only [e6 _ _ m4, ↓wSs, ↓wS, ↓wE, ↓wEs, ↓wI, ↓wIfs, ↓wO, ↓wTg, ↓wTgs, ↓reduceIte, ofS_eq, ofS_beq, String.reduceEq, String.reduceBEq, List.lookup_cons, List.lookup_nil, wipeD, startD, endD, nmO, List.map_cons, List.map_nil, List.cons_append, List.nil_append, List.append_nil, List.getElem?_cons_zero, List.getElem?_cons_succ, List.length_cons, List.length_nil, List.replicate_succ, List.replicate_zero, List.set_cons_zero, List.set_cons_succ, if_true, if_false, Bool.false_eq_true, reduceIte, Bool.not_true, Bool.not_false, wTru, tv, Nat.zero_add, Nat.reduceAdd, ci0, ci1, ci2, ci3, ci4, ci5, ci6, Nat.reduceSub, Nat.sub_self, Nat.le_refl, Nat.reduceLeDiff, sizeLine_eq, Nat.reduceLT, true_and, and_true, and_self, Bool.and_false, Bool.or_false, Bool.or_true, Bool.and_true, Bool.true_and, Bool.true_or, Bool.false_or, Bool.false_and, decide_true, decide_false, ne_eq, not_true_eq_false, not_false_eq_true, List.drop_zero, List.drop_nil, List.drop_succ_cons, at_Drawing_parts, putD]
  have e06 := e05.trans e6
  have n1 := e6 _ _ m1
  have n2 := e6 _ _ m2
  have n3 := e6 _ _ m3
  have n4 := e6 _ _ m4
  have ex : S6 a = some (.lst [part k]) := by rw [h6]; rfl
  clear h6 m1 m2 m3 m4 e6
  generalize hS7 : put S6 p (.ins (He.ga K "Drawing") [("parts", .ref a)]) = S7
  have e7 : Ext S S7 := by rw [← hS7]; exact e06.put hp
  have m2 : S7 q2 = some (.lst (pinsK k)) := by rw [← hS7, put_ne h2p]; exact n2
  have m3 : S7 q3 = some (.lst [.tup [.str "n", .ref q2]]) := by rw [← hS7, put_ne h3p]; exact n3
  have m4 : S7 p = some (.ins (He.ga K "Drawing") [("parts", .ref a)]) := by rw [← hS7, put_same]
  have m5 : S7 a = some (.lst [part k]) := by rw [← hS7, put_ne ap]; exact ex
  clear hS7 n1 n2 n3 n4 ex e06 e05 ha
  simp only [lst_of_ m3]
  intro b hb
  have sb : S b = none := e7.none_ hb
  have b2 : b ≠ q2 := fun e => by rw [e, m2] at hb; cases hb
  have b3 : b ≠ q3 := fun e => by rw [e, m3] at hb; cases hb
  have bp : b ≠ p := fun e => by rw [e, m4] at hb; cases hb
  have ba : b ≠ a := fun e => by rw [e, m5] at hb; cases hb
  simp only [wComp, ↓wSs, ↓wS, ↓wE, ↓wEs, ↓wI, ↓wIfs, ↓wO, ↓wTg, ↓wTgs, ↓reduceIte, ofS_eq, ofS_beq, String.reduceEq, String.reduceBEq, List.lookup_cons, List.lookup_nil, wipeD, startD, endD, nmO, List.map_cons, List.map_nil, List.cons_append, List.nil_append, List.append_nil, List.getElem?_cons_zero, List.getElem?_cons_succ, List.length_cons, List.length_nil, List.replicate_succ, List.replicate_zero, List.set_cons_zero, List.set_cons_succ, if_true, if_false, Bool.false_eq_true, reduceIte, Bool.not_true, Bool.not_false, wTru, tv, Nat.zero_add, Nat.reduceAdd, ci0, ci1, ci2, ci3, ci4, ci5, ci6, Nat.reduceSub, Nat.sub_self, Nat.le_refl, Nat.reduceLeDiff, sizeLine_eq, Nat.reduceLT, true_and, and_true, and_self, Bool.and_false, Bool.or_false, Bool.or_true, Bool.and_true, Bool.true_and, Bool.true_or, Bool.false_or, Bool.false_and, decide_true, decide_false, ne_eq, not_true_eq_false, not_false_eq_true, List.drop_zero, List.drop_nil, List.drop_succ_cons, wBf, lst_of_ (show put S7 b (.lst []) q3 = some (.lst [.tup [.str "n", .ref q2]]) by rw [put_ne b3.symm]; exact m3), lst_of_ (show put S7 b (.lst []) q2 = some (.lst (pinsK k)) by rw [put_ne b2.symm]; exact m2)]
  refine wNew_of fun c S8 hc e8 h8 => ?_
  have e9 : Ext S S8 := (e7.put (e7.none_ hb)).trans e8
  have f2 := e8 q2 _ (by rw [put_ne b2.symm]; exact m2)
  have f3 := e8 q3 _ (by rw [put_ne b3.symm]; exact m3)
  have f4 := e8 p _ (by rw [put_ne bp.symm]; exact m4)
  have f5 := e8 a _ (by rw [put_ne ba.symm]; exact m5)
  have f6 := e8 b _ put_same
  have cb : c ≠ b := fun e => by rw [e, put_same] at hc; cases hc
  have cp : c ≠ p := fun e => by rw [e, put_ne bp.symm, m4] at hc; cases hc
  clear m2 m3 m4 m5 e8 hc hb
  refine ⟨f6, lst_of_ (by rw [put_ne b3.symm]; exact f3), ?_⟩
  simp only [put_ne bp.symm, f4, ↓wSs, ↓wS, ↓wE, ↓wEs, ↓wI, ↓wIfs, ↓wO, ↓wTg, ↓wTgs, ↓reduceIte, ofS_eq, ofS_beq, String.reduceEq, String.reduceBEq, List.lookup_cons, List.lookup_nil, wipeD, startD, endD, nmO, List.map_cons, List.map_nil, List.cons_append, List.nil_append, List.append_nil, List.getElem?_cons_zero, List.getElem?_cons_succ, List.length_cons, List.length_nil, List.replicate_succ, List.replicate_zero, List.set_cons_zero, List.set_cons_succ, if_true, if_false, Bool.false_eq_true, reduceIte, Bool.not_true, Bool.not_false, wTru, tv, Nat.zero_add, Nat.reduceAdd, ci0, ci1, ci2, ci3, ci4, ci5, ci6, Nat.reduceSub, Nat.sub_self, Nat.le_refl, Nat.reduceLeDiff, sizeLine_eq, Nat.reduceLT, true_and, and_true, and_self, Bool.and_false, Bool.or_false, Bool.or_true, Bool.and_true, Bool.true_and, Bool.true_or, Bool.false_or, Bool.false_and, decide_true, decide_false, ne_eq, not_true_eq_false, not_false_eq_true, List.drop_zero, List.drop_nil, List.drop_succ_cons, at_Drawing_nets, putD, put_put]
  generalize hS9 : put (put S8 b (.lst [.tup [.str "n", .ref c]])) p (.ins (He.ga K "Drawing") [("parts", .ref a), ("nets", .ref b)]) = S9
  have e10 : Ext S S9 := by rw [← hS9]; exact (e9.put sb).put hp
  have d1 : S9 p = some (.ins (He.ga K "Drawing") [("parts", .ref a), ("nets", .ref b)]) := by rw [← hS9, put_same]
  have d2 : S9 a = some (.lst [part k]) := by rw [← hS9, put_ne ap, put_ne ba.symm]; exact f5
  have d3 : S9 b = some (.lst [.tup [.str "n", .ref c]]) := by rw [← hS9, put_ne bp, put_same]
  have d4 : S9 c = some (.lst (pinsK k)) := by rw [← hS9, put_ne cp, put_ne cb]; exact h8
  clear hS9 f2 f3 f4 f5 f6 h8 e9
  left
  refine wNew_of fun h S10 hh e11 d5 => ?_
  have e12 := e10.trans e11
  have hp' : h ≠ p := fun e => by rw [e, d1] at hh; cases hh
  have ha' : h ≠ a := fun e => by rw [e, d2] at hh; cases hh
  have hb' : h ≠ b := fun e => by rw [e, d3] at hh; cases hh
  have hc' : h ≠ c := fun e => by rw [e, d4] at hh; cases hh
  have sh : S h = none := e10.none_ hh
  simp only [e11 _ _ d1, ↓wSs, ↓wS, ↓wE, ↓wEs, ↓wI, ↓wIfs, ↓wO, ↓wTg, ↓wTgs, ↓reduceIte, ofS_eq, ofS_beq, String.reduceEq, String.reduceBEq, List.lookup_cons, List.lookup_nil, wipeD, startD, endD, nmO, List.map_cons, List.map_nil, List.cons_append, List.nil_append, List.append_nil, List.getElem?_cons_zero, List.getElem?_cons_succ, List.length_cons, List.length_nil, List.replicate_succ, List.replicate_zero, List.set_cons_zero, List.set_cons_succ, if_true, if_false, Bool.false_eq_true, reduceIte, Bool.not_true, Bool.not_false, wTru, tv, Nat.zero_add, Nat.reduceAdd, ci0, ci1, ci2, ci3, ci4, ci5, ci6, Nat.reduceSub, Nat.sub_self, Nat.le_refl, Nat.reduceLeDiff, sizeLine_eq, Nat.reduceLT, true_and, and_true, and_self, Bool.and_false, Bool.or_false, Bool.or_true, Bool.and_true, Bool.true_and, Bool.true_or, Bool.false_or, Bool.false_and, decide_true, decide_false, ne_eq, not_true_eq_false, not_false_eq_true, List.drop_zero, List.drop_nil, List.drop_succ_cons, at_Drawing_homes, at_Drawing_nets, putD]
  generalize hS11 : put S10 p (.ins (He.ga K "Drawing") [("parts", .ref a), ("nets", .ref b), ("homes", .ref h)]) = S11
  have e13 : Ext S S11 := by rw [← hS11]; exact e12.put hp
  have j1 : S11 p = some (.ins (He.ga K "Drawing") [("parts", .ref a), ("nets", .ref b), ("homes", .ref h)]) := by rw [← hS11, put_same]
  have j2 : S11 a = some (.lst [part k]) := by rw [← hS11, put_ne ap]; exact e11 _ _ d2
  have j3 : S11 b = some (.lst [.tup [.str "n", .ref c]]) := by rw [← hS11, put_ne bp]; exact e11 _ _ d3
  have j4 : S11 c = some (.lst (pinsK k)) := by rw [← hS11, put_ne cp]; exact e11 _ _ d4
  have j5 : S11 h = some (.dct false true []) := by rw [← hS11, put_ne hp']; exact d5
  clear hS11 d1 d2 d3 d4 d5 e10 e11 e12 hh
  simp only [j1, ↓wSs, ↓wS, ↓wE, ↓wEs, ↓wI, ↓wIfs, ↓wO, ↓wTg, ↓wTgs, ↓reduceIte, ofS_eq, ofS_beq, String.reduceEq, String.reduceBEq, List.lookup_cons, List.lookup_nil, wipeD, startD, endD, nmO, List.map_cons, List.map_nil, List.cons_append, List.nil_append, List.append_nil, List.getElem?_cons_zero, List.getElem?_cons_succ, List.length_cons, List.length_nil, List.replicate_succ, List.replicate_zero, List.set_cons_zero, List.set_cons_succ, if_true, if_false, Bool.false_eq_true, reduceIte, Bool.not_true, Bool.not_false, wTru, tv, Nat.zero_add, Nat.reduceAdd, ci0, ci1, ci2, ci3, ci4, ci5, ci6, Nat.reduceSub, Nat.sub_self, Nat.le_refl, Nat.reduceLeDiff, sizeLine_eq, Nat.reduceLT, true_and, and_true, and_self, Bool.and_false, Bool.or_false, Bool.or_true, Bool.and_true, Bool.true_and, Bool.true_or, Bool.false_or, Bool.false_and, decide_true, decide_false, ne_eq, not_true_eq_false, not_false_eq_true, List.drop_zero, List.drop_nil, List.drop_succ_cons, wIter, lst_of_ j3, wLoop, lst_of_ j4]
  refine ⟨at_Drawing_nets K _, ?_⟩
  refine wLoop_of (fun r ρ S' => ∃ dn, pinsK k = dn ++ r ∧ Ext S S' ∧ S' p = some (.ins (He.ga K "Drawing") [("parts", .ref a), ("nets", .ref b), ("homes", .ref h)]) ∧ S' a = some (.lst [part k]) ∧ S' b = some (.lst [.tup [.str "n", .ref c]]) ∧ S' c = some (.lst (pinsK k)) ∧
    S' h = some (.dct false true (dn.map fun d => (d, .str "n"))) ∧ ∃ o o6 o7, ρ = [some (.ref p), some (.ref q1), some (.ref q3), some (.str "n"), some (.ref c), o, o6, o7]) ?_ ?_ (pinsK k) _ _ ⟨[], rfl, e13, j1, j2, j3, j4, j5, _, _, _, rfl⟩
  · rintro ρ S' ⟨dn, hdn, e14, l1, l2, l3, l4, l5, o, o6, o7, rfl⟩
    rw [List.append_nil] at hdn
    subst hdn
    refine ⟨lst_of_ l4, lst_of_ l3, ?_⟩
    refine wNew_of fun u S12 hu e15 l6 => ?_
    have l1' := e15 _ _ l1
    simp only [l1', ↓wSs, ↓wS, ↓wE, ↓wEs, ↓wI, ↓wIfs, ↓wO, ↓wTg, ↓wTgs, ↓reduceIte, ofS_eq, ofS_beq, String.reduceEq, String.reduceBEq, List.lookup_cons, List.lookup_nil, wipeD, startD, endD, nmO, List.map_cons, List.map_nil, List.cons_append, List.nil_append, List.append_nil, List.getElem?_cons_zero, List.getElem?_cons_succ, List.length_cons, List.length_nil, List.replicate_succ, List.replicate_zero, List.set_cons_zero, List.set_cons_succ, if_true, if_false, Bool.false_eq_true, reduceIte, Bool.not_true, Bool.not_false, wTru, tv, Nat.zero_add, Nat.reduceAdd, ci0, ci1, ci2, ci3, ci4, ci5, ci6, Nat.reduceSub, Nat.sub_self, Nat.le_refl, Nat.reduceLeDiff, sizeLine_eq, Nat.reduceLT, true_and, and_true, and_self, Bool.and_false, Bool.or_false, Bool.or_true, Bool.and_true, Bool.true_and, Bool.true_or, Bool.false_or, Bool.false_and, decide_true, decide_false, ne_eq, not_true_eq_false, not_false_eq_true, List.drop_zero, List.drop_nil, List.drop_succ_cons, at_Drawing_nets, wIter, lst_of_ (e15 _ _ l3)]
    intro v hv
    have l3' := e15 _ _ l3
    have l2' := e15 _ _ l2
    have l4' := e15 _ _ l4
    have l5' := e15 _ _ l5
    refine wComp_of (fun S6 => Ext S12 S6) (fun _ => .ref c) (fun S6 e6 => lst_of_ (e6 _ _ l3')) (fun S6 m e6 => e6.put hv) _ _ _ (fun d hd S6 R e6 hR => ?_) (Ext.refl.put hv) put_same (by simp) (fun S13 e16 l7 => ?_)
    · simp only [List.mem_singleton] at hd
      subst hd
      simp only [↓wSs, ↓wS, ↓wE, ↓wEs, ↓wI, ↓wIfs, ↓wO, ↓wTg, ↓wTgs, ↓reduceIte, ofS_eq, ofS_beq, String.reduceEq, String.reduceBEq, List.lookup_cons, List.lookup_nil, wipeD, startD, endD, nmO, List.map_cons, List.map_nil, List.cons_append, List.nil_append, List.append_nil, List.getElem?_cons_zero, List.getElem?_cons_succ, List.length_cons, List.length_nil, List.replicate_succ, List.replicate_zero, List.set_cons_zero, List.set_cons_succ, if_true, if_false, Bool.false_eq_true, reduceIte, Bool.not_true, Bool.not_false, wTru, tv, Nat.zero_add, Nat.reduceAdd, ci0, ci1, ci2, ci3, ci4, ci5, ci6, Nat.reduceSub, Nat.sub_self, Nat.le_refl, Nat.reduceLeDiff, sizeLine_eq, Nat.reduceLT, true_and, and_true, and_self, Bool.and_false, Bool.or_false, Bool.or_true, Bool.and_true, Bool.true_and, Bool.true_or, Bool.false_or, Bool.false_and, decide_true, decide_false, ne_eq, not_true_eq_false, not_false_eq_true, List.drop_zero, List.drop_nil, List.drop_succ_cons]
      exact hR _ e6 fun _ z => z
    have e17 := (e14.trans e15).trans e16
    have o1 := e16 _ _ l1'
    have o2 := e16 _ _ l2'
    have o4 := e16 _ _ l4'
    have o5 := e16 _ _ l5'
    have o3 := e16 _ _ l3'
    have ou := e16 _ _ l6
    have hin : ∀ Kb : Bool → Prop, Kb false → wIn (.ref u) (.ref v) S13 Kb := fun Kb hKb => by
      have l7 : S13 v = some (.lst [.ref c]) := l7
      simp only [wIn, l7, lst_of_ l7]
      refine .inr ⟨.list [], [.list ((pinsK k).map pinP)], ?_, ?_, rfl, ?_, ?_⟩
      · show (match lstAt S13 u with | some ds => (pdl (pd 7 S13) ds).map PyData.list | none => none) = _
        rw [lst_of_ ou]; rfl
      · unfold pdl
        rw [show pd 7 S13 (.ref c) = _ from pd_pins o4 3]
        rfl
      · rcases hk with rfl | rfl <;> decide +kernel
      · have e : ([PyData.list ((pinsK k).map pinP)].any fun z => PyData.eqv z (.list [])) = false := by rcases hk with rfl | rfl <;> decide +kernel
        rw [e]; exact hKb
    refine hin _ ?_
    simp only [↓wSs, ↓wS, ↓wE, ↓wEs, ↓wI, ↓wIfs, ↓wO, ↓wTg, ↓wTgs, ↓reduceIte, ofS_eq, ofS_beq, String.reduceEq, String.reduceBEq, List.lookup_cons, List.lookup_nil, wipeD, startD, endD, nmO, List.map_cons, List.map_nil, List.cons_append, List.nil_append, List.append_nil, List.getElem?_cons_zero, List.getElem?_cons_succ, List.length_cons, List.length_nil, List.replicate_succ, List.replicate_zero, List.set_cons_zero, List.set_cons_succ, if_true, if_false, Bool.false_eq_true, reduceIte, Bool.not_true, Bool.not_false, wTru, tv, Nat.zero_add, Nat.reduceAdd, ci0, ci1, ci2, ci3, ci4, ci5, ci6, Nat.reduceSub, Nat.sub_self, Nat.le_refl, Nat.reduceLeDiff, sizeLine_eq, Nat.reduceLT, true_and, and_true, and_self, Bool.and_false, Bool.or_false, Bool.or_true, Bool.and_true, Bool.true_and, Bool.true_or, Bool.false_or, Bool.false_and, decide_true, decide_false, ne_eq, not_true_eq_false, not_false_eq_true, List.drop_zero, List.drop_nil, List.drop_succ_cons, o1, at_Drawing_homes, at_Drawing_parts, fn_pins_of]
    have hno : lstAt S13 h = none := by unfold lstAt; rw [o5]
    have hmap : (List.map (fun d => (d, D.str (Str.ofString "n"))) (pinsK k)).map (fun x => x.1) = pinsK k := by rw [List.map_map]; exact List.map_id _
    simp only [hno, o5, hmap]
    refine sorted_pins (pinsK_pin k) (by rw [pinsK_len]; omega) (wNew_of fun x S14 hx e18 l8 => ?_)
    rw [List.mergeSort_of_pairwise (pinsK_sorted hk S13)] at l8
    have i1 := e18 _ _ o1
    have i2 := e18 _ _ o2
    simp only [i1, ↓wSs, ↓wS, ↓wE, ↓wEs, ↓wI, ↓wIfs, ↓wO, ↓wTg, ↓wTgs, ↓reduceIte, ofS_eq, ofS_beq, String.reduceEq, String.reduceBEq, List.lookup_cons, List.lookup_nil, wipeD, startD, endD, nmO, List.map_cons, List.map_nil, List.cons_append, List.nil_append, List.append_nil, List.getElem?_cons_zero, List.getElem?_cons_succ, List.length_cons, List.length_nil, List.replicate_succ, List.replicate_zero, List.set_cons_zero, List.set_cons_succ, if_true, if_false, Bool.false_eq_true, reduceIte, Bool.not_true, Bool.not_false, wTru, tv, Nat.zero_add, Nat.reduceAdd, ci0, ci1, ci2, ci3, ci4, ci5, ci6, Nat.reduceSub, Nat.sub_self, Nat.le_refl, Nat.reduceLeDiff, sizeLine_eq, Nat.reduceLT, true_and, and_true, and_self, Bool.and_false, Bool.or_false, Bool.or_true, Bool.and_true, Bool.true_and, Bool.true_or, Bool.false_or, Bool.false_and, decide_true, decide_false, ne_eq, not_true_eq_false, not_false_eq_true, List.drop_zero, List.drop_nil, List.drop_succ_cons, at_Drawing_parts]
    refine c_pins_of1 K (n + 3) (x := "a") (y := "r") (k := k) (lst_of_ i2) (by omega) (fun S => pinsK_sorted hk S) (fun S Kt_ X h => name_r K (n + 4) h) fun S15 y e19 l9 => ?_
    have f8 := e19 _ _ l8
    have hq : wEq (.ref x) (.ref y) S15 (fun b => if (!b) = true then X "NoDrawing" S15 else post p S15) := by
      refine ⟨_, _, pd_pins f8 4, pd_pins (k := k) l9 4, ?_, ?_, ?_⟩
      · rcases hk with rfl | rfl <;> decide +kernel
      · rcases hk with rfl | rfl <;> decide +kernel
      · rw [show PyData.eqv (.list ((pinsK k).map pinP)) (.list ((pinsK k).map pinP)) = true by rcases hk with rfl | rfl <;> decide +kernel]
        exact hpost p S15 hp ((e17.trans e18).trans e19) ⟨a, b, c, h, e19 _ _ i1, e19 _ _ i2, e19 _ _ (e18 _ _ o3), e19 _ _ (e18 _ _ o4), e19 _ _ (e18 _ _ o5)⟩
    exact hq
  · rintro d r ρ S' nx ⟨dn, hdn, e14, l1, l2, l3, l4, l5, o, o6, o7, rfl⟩ hnx
    refine ⟨lst_of_ l4, ?_⟩
    have hmem : d ∈ pinsK k := by rw [hdn]; simp
    obtain ⟨x, i, hd⟩ := pinsK_pin k d hmem
    have hnd : (pinsK k).Nodup := by rcases hk with rfl | rfl <;> decide +kernel
    rw [hdn] at hnd
    have hno : d ∉ dn := fun z => by
      rw [List.nodup_append] at hnd
      exact hnd.2.2 d z d List.mem_cons_self rfl
    have hk1 : keyOk true d = true := by rw [hd]; rfl
    have hg : dget (dn.map fun d => (d, D.str (Str.ofString "n"))) d = none := dget_none (by simpa using hno)
    have hp2 : dput (dn.map fun d => (d, D.str (Str.ofString "n"))) d (.str "n") = (dn ++ [d]).map fun d => (d, D.str (Str.ofString "n")) := by rw [dput_new (by simpa using hno)]; simp
    have hlen : (dn.map fun d => (d, D.str (Str.ofString "n"))).length < 16777216 := by
      have := pinsK_len k
      rw [hdn, List.length_append, List.length_cons] at this
      rw [List.length_map]
      omega
    simp only [↓wSs, ↓wS, ↓wE, ↓wEs, ↓wI, ↓wIfs, ↓wO, ↓wTg, ↓wTgs, ↓reduceIte, ofS_eq, ofS_beq, String.reduceEq, String.reduceBEq, List.lookup_cons, List.lookup_nil, wipeD, startD, endD, nmO, List.map_cons, List.map_nil, List.cons_append, List.nil_append, List.append_nil, List.getElem?_cons_zero, List.getElem?_cons_succ, List.length_cons, List.length_nil, List.replicate_succ, List.replicate_zero, List.set_cons_zero, List.set_cons_succ, if_true, if_false, Bool.false_eq_true, reduceIte, Bool.not_true, Bool.not_false, wTru, tv, Nat.zero_add, Nat.reduceAdd, ci0, ci1, ci2, ci3, ci4, ci5, ci6, Nat.reduceSub, Nat.sub_self, Nat.le_refl, Nat.reduceLeDiff, sizeLine_eq, Nat.reduceLT, true_and, and_true, and_self, Bool.and_false, Bool.or_false, Bool.or_true, Bool.and_true, Bool.true_and, Bool.true_or, Bool.false_or, Bool.false_and, decide_true, decide_false, ne_eq, not_true_eq_false, not_false_eq_true, List.drop_zero, List.drop_nil, List.drop_succ_cons, l1, at_Drawing_homes, wIn, l5, hk1, hg, Option.isSome_none, wSetSub, hp2]
    refine ⟨hlen, hnx _ _ ⟨dn ++ [d], by rw [hdn]; simp, e14.put sh, ?_, ?_, ?_, ?_, put_same, _, _, _, rfl⟩⟩
    · rw [put_ne hp'.symm]; exact l1
    · rw [put_ne ha'.symm]; exact l2
    · rw [put_ne hb'.symm]; exact l3
    · rw [put_ne hc'.symm]; exact l4
end
end DL.K16

namespace DL.K16
open PySem PySem.Spec PyProof.Rows
section
variable (K : PySem.W.Frag) (n : Nat)
def barePin (i : Int) : D := .tup [.str "bare", .tup [.str "a", .int i]]
def placesOf (m : Int) : List (D × D) := [(.tup [.str "a", .int 0], .tup [.int 0, .int 0, .int 0]), (.tup [.str "a", .int 1], .tup [.int 1, .int (m % 2), .int 0])]
theorem c_pins {p a : Addr} {fs : List (Str × D)} {S : Sto} {Kt_ : Kt} {X : KtE} (i1 : S p = some (.ins (He.ga K "Drawing") fs)) (hf : fs.lookup ("parts" : Str) = some (.ref a)) (i2 : S a = some (.lst [part 2])) (hk : ∀ S' y, Ext S S' → S' y = some (.lst (pinsK 2)) → Kt_ (.ref y) S') :
    wCall (feOf (GL K tab (n + 3)) d_Drawing_pins) [.ref p] S Kt_ X := by
  refine call_w rfl ?_
  simp only [d_Drawing_pins, ↓wSs, ↓wS, ↓wE, ↓wEs, ↓wI, ↓wIfs, ↓wO, ↓wTg, ↓wTgs, ↓reduceIte, ofS_eq, ofS_beq, String.reduceEq, String.reduceBEq, List.lookup_cons, List.lookup_nil, wipeD, startD, endD, nmO, List.map_cons, List.map_nil, List.cons_append, List.nil_append, List.append_nil, List.getElem?_cons_zero, List.getElem?_cons_succ, List.length_cons, List.length_nil, List.replicate_succ, List.replicate_zero, List.set_cons_zero, List.set_cons_succ, if_true, if_false, Bool.false_eq_true, reduceIte, Bool.not_true, Bool.not_false, wTru, tv, Nat.zero_add, Nat.reduceAdd, ci0, ci1, ci2, ci3, ci4, ci5, ci6, Nat.reduceSub, Nat.sub_self, Nat.le_refl, Nat.reduceLeDiff, sizeLine_eq, Nat.reduceLT, true_and, and_true, and_self, Bool.and_false, Bool.or_false, Bool.or_true, Bool.and_true, Bool.true_and, Bool.true_or, Bool.false_or, Bool.false_and, decide_true, decide_false, ne_eq, not_true_eq_false, not_false_eq_true, List.drop_zero, List.drop_nil, List.drop_succ_cons, i1, hf, at_Drawing_parts, fn_pins_of]
  exact c_pins_of1 K n (x := "a") (y := "r") (k := 2) (lst_of_ i2) (by omega) (fun S => pinsK_sorted (.inr rfl) S) (fun S Kt_ X h => name_r K (n + 1) h) fun S' y e g => hk S' y e g
theorem c_is_cell {x y z : Int} {S : Sto} {Kt_ : Kt} {X : KtE} (hk : ∀ S', Ext S S' → Kt_ (.bl true) S') : wCall (feOf (GL K tab (n + 1)) d_is_cell) [.tup [.int x, .int y, .int z]] S Kt_ X := by
  refine call_w rfl ?_
  simp only [d_is_cell, ↓wSs, ↓wS, ↓wE, ↓wEs, ↓wI, ↓wIfs, ↓wO, ↓wTg, ↓wTgs, ↓reduceIte, ofS_eq, ofS_beq, String.reduceEq, String.reduceBEq, List.lookup_cons, List.lookup_nil, wipeD, startD, endD, nmO, List.map_cons, List.map_nil, List.cons_append, List.nil_append, List.append_nil, List.getElem?_cons_zero, List.getElem?_cons_succ, List.length_cons, List.length_nil, List.replicate_succ, List.replicate_zero, List.set_cons_zero, List.set_cons_succ, if_true, if_false, Bool.false_eq_true, reduceIte, Bool.not_true, Bool.not_false, wTru, tv, Nat.zero_add, Nat.reduceAdd, ci0, ci1, ci2, ci3, ci4, ci5, ci6, Nat.reduceSub, Nat.sub_self, Nat.le_refl, Nat.reduceLeDiff, sizeLine_eq, Nat.reduceLT, true_and, and_true, and_self, Bool.and_false, Bool.or_false, Bool.or_true, Bool.and_true, Bool.true_and, Bool.true_or, Bool.false_or, Bool.false_and, decide_true, decide_false, ne_eq, not_true_eq_false, not_false_eq_true, List.drop_zero, List.drop_nil, List.drop_succ_cons, tyOf, isTy, wBf, wCmp, wEq, wIter, fn_is_whole]
  intro p hp
  refine wComp_of (fun S' => Ext S S') (fun _ => .bl true) (fun _ _ => trivial) (fun S' m e => e.put hp) _ _ _ (fun d hd S1 R e1 hR => ?_) (Ext.refl.put hp) put_same (by simp) (fun S2 e2 h2 => ?_)
  · have hw : ∃ i, d = .int i := by
      simp only [List.mem_cons, List.not_mem_nil, or_false] at hd
      rcases hd with rfl | rfl | rfl <;> exact ⟨_, rfl⟩
    obtain ⟨i, rfl⟩ := hw
    exact c_whole K n rfl (hR _ e1 fun _ z => z)
  · exact ⟨[true, true, true], lst_of_ h2, hk _ e2⟩
theorem c_check_places {m : Int} {bo p a q bc bd : Addr} {fs : List (Str × D)} {S : Sto} {Kt_ : Kt} {X : KtE} (b1 : S bo = some (.ins (He.ga K "Board") [("wide", .int 2), ("high", .int 2), ("layers", .int 1), ("copper", .ref bc), ("drilled", .ref bd)]))
    (i1 : S p = some (.ins (He.ga K "Drawing") fs)) (hf : fs.lookup ("parts" : Str) = some (.ref a)) (hf2 : fs.lookup ("pins" : Str) = none) (i2 : S a = some (.lst [part 2])) (i6 : S q = some (.dct false true (placesOf m))) (hk : ∀ S', Ext S S' → Kt_ .non S') :
    wCall (feOf (GL K tab (n + 4)) d_check_places) [.ref bo, .ref p, .ref q] S Kt_ X := by
  refine call_w rfl ?_
  simp only [d_check_places, ↓wSs, ↓wS, ↓wE, ↓wEs, ↓wI, ↓wIfs, ↓wO, ↓wTg, ↓wTgs, ↓reduceIte, ofS_eq, ofS_beq, String.reduceEq, String.reduceBEq, List.lookup_cons, List.lookup_nil, wipeD, startD, endD, nmO, List.map_cons, List.map_nil, List.cons_append, List.nil_append, List.append_nil, List.getElem?_cons_zero, List.getElem?_cons_succ, List.length_cons, List.length_nil, List.replicate_succ, List.replicate_zero, List.set_cons_zero, List.set_cons_succ, if_true, if_false, Bool.false_eq_true, reduceIte, Bool.not_true, Bool.not_false, wTru, tv, Nat.zero_add, Nat.reduceAdd, ci0, ci1, ci2, ci3, ci4, ci5, ci6, Nat.reduceSub, Nat.sub_self, Nat.le_refl, Nat.reduceLeDiff, sizeLine_eq, Nat.reduceLT, true_and, and_true, and_self, Bool.and_false, Bool.or_false, Bool.or_true, Bool.and_true, Bool.true_and, Bool.true_or, Bool.false_or, Bool.false_and, decide_true, decide_false, ne_eq, not_true_eq_false, not_false_eq_true, List.drop_zero, List.drop_nil, List.drop_succ_cons, i1, mt_Drawing_pins, hf2]
  refine c_pins K n i1 hf i2 fun S1 y e1 g1 => ?_
  simp only [wIter, lst_of_ g1, fn_is_cell]
  refine wLoop_of (fun r ρ S' => Ext S1 S' ∧ (∀ d ∈ r, d ∈ pinsK 2) ∧ ∃ o3 o4 o5 o6, ρ = [some (.ref bo), some (.ref p), some (.ref q), o3, o4, o5, o6]) ?_ ?_ _ _ _ ⟨Ext.refl, fun _ h => h, _, _, _, _, rfl⟩
  · rintro ρ S' ⟨e, _, _⟩
    exact ⟨lst_of_ (e _ _ g1), hk _ (e1.trans e)⟩
  · rintro d r ρ S' nx ⟨e, hr, o3, o4, o5, o6, rfl⟩ hnx
    refine ⟨lst_of_ (e _ _ g1), ?_⟩
    have e' := e1.trans e
    have j6 := e' _ _ i6
    have b1' := e' _ _ b1
    have hd : d = .tup [.str "a", .int 0] ∨ d = .tup [.str "a", .int 1] := by
      have := hr d List.mem_cons_self
      rw [show pinsK 2 = [.tup [.str "a", .int 0], .tup [.str "a", .int 1]] from rfl] at this
      simpa using this
    have hm2 : 0 ≤ m % 2 ∧ m % 2 < 2 := by omega
    obtain ⟨c1, c2, hc, hg, hk1⟩ : ∃ c1 c2 : Int, (0 ≤ c1 ∧ c1 < 2 ∧ 0 ≤ c2 ∧ c2 < 2) ∧ dget (placesOf m) d = some (.tup [.int c1, .int c2, .int 0]) ∧ keyOk true d = true := by
      rcases hd with rfl | rfl
      · exact ⟨0, 0, by omega, rfl, rfl⟩
      · exact ⟨1, m % 2, by omega, rfl, rfl⟩
    have hsub : ∀ (S : Sto) (Kt_ : Kt), S q = some (.dct false true (placesOf m)) → Kt_ (.tup [.int c1, .int c2, .int 0]) S → wSub (.ref q) d S Kt_ := fun S Kt_ h w => by
      unfold wSub
      simp only [h]
      exact ⟨hk1, _, hg, w⟩
    simp only [↓wSs, ↓wS, ↓wE, ↓wEs, ↓wI, ↓wIfs, ↓wO, ↓wTg, ↓wTgs, ↓reduceIte, ofS_eq, ofS_beq, String.reduceEq, String.reduceBEq, List.lookup_cons, List.lookup_nil, wipeD, startD, endD, nmO, List.map_cons, List.map_nil, List.cons_append, List.nil_append, List.append_nil, List.getElem?_cons_zero, List.getElem?_cons_succ, List.length_cons, List.length_nil, List.replicate_succ, List.replicate_zero, List.set_cons_zero, List.set_cons_succ, if_true, if_false, Bool.false_eq_true, reduceIte, Bool.not_true, Bool.not_false, wTru, tv, Nat.zero_add, Nat.reduceAdd, ci0, ci1, ci2, ci3, ci4, ci5, ci6, Nat.reduceSub, Nat.sub_self, Nat.le_refl, Nat.reduceLeDiff, sizeLine_eq, Nat.reduceLT, true_and, and_true, and_self, Bool.and_false, Bool.or_false, Bool.or_true, Bool.and_true, Bool.true_and, Bool.true_or, Bool.false_or, Bool.false_and, decide_true, decide_false, ne_eq, not_true_eq_false, not_false_eq_true, List.drop_zero, List.drop_nil, List.drop_succ_cons, wCmp, wIn, j6, hk1, hg, Option.isSome_some]
    refine hsub _ _ j6 ?_
    refine c_is_cell K (n + 2) fun S2 e2 => ?_
    simp only [↓wSs, ↓wS, ↓wE, ↓wEs, ↓wI, ↓wIfs, ↓wO, ↓wTg, ↓wTgs, ↓reduceIte, ofS_eq, ofS_beq, String.reduceEq, String.reduceBEq, List.lookup_cons, List.lookup_nil, wipeD, startD, endD, nmO, List.map_cons, List.map_nil, List.cons_append, List.nil_append, List.append_nil, List.getElem?_cons_zero, List.getElem?_cons_succ, List.length_cons, List.length_nil, List.replicate_succ, List.replicate_zero, List.set_cons_zero, List.set_cons_succ, if_true, if_false, Bool.false_eq_true, reduceIte, Bool.not_true, Bool.not_false, wTru, tv, Nat.zero_add, Nat.reduceAdd, ci0, ci1, ci2, ci3, ci4, ci5, ci6, Nat.reduceSub, Nat.sub_self, Nat.le_refl, Nat.reduceLeDiff, sizeLine_eq, Nat.reduceLT, true_and, and_true, and_self, Bool.and_false, Bool.or_false, Bool.or_true, Bool.and_true, Bool.true_and, Bool.true_or, Bool.false_or, Bool.false_and, decide_true, decide_false, ne_eq, not_true_eq_false, not_false_eq_true, List.drop_zero, List.drop_nil, List.drop_succ_cons]
    refine hsub _ _ (e2 _ _ j6) ?_
    obtain ⟨hc1, hc2, hc3, hc4⟩ := hc
    simp only [↓wSs, ↓wS, ↓wE, ↓wEs, ↓wI, ↓wIfs, ↓wO, ↓wTg, ↓wTgs, ↓reduceIte, ofS_eq, ofS_beq, String.reduceEq, String.reduceBEq, List.lookup_cons, List.lookup_nil, wipeD, startD, endD, nmO, List.map_cons, List.map_nil, List.cons_append, List.nil_append, List.append_nil, List.getElem?_cons_zero, List.getElem?_cons_succ, List.length_cons, List.length_nil, List.replicate_succ, List.replicate_zero, List.set_cons_zero, List.set_cons_succ, if_true, if_false, Bool.false_eq_true, reduceIte, Bool.not_true, Bool.not_false, wTru, tv, Nat.zero_add, Nat.reduceAdd, ci0, ci1, ci2, ci3, ci4, ci5, ci6, Nat.reduceSub, Nat.sub_self, Nat.le_refl, Nat.reduceLeDiff, sizeLine_eq, Nat.reduceLT, true_and, and_true, and_self, Bool.and_false, Bool.or_false, Bool.or_true, Bool.and_true, Bool.true_and, Bool.true_or, Bool.false_or, Bool.false_and, decide_true, decide_false, ne_eq, not_true_eq_false, not_false_eq_true, List.drop_zero, List.drop_nil, List.drop_succ_cons, wLe, wLt, e2 _ _ b1', at_Board_wide, at_Board_high, at_Board_layers, hc1, hc2, hc3, hc4, Int.reduceLE, Int.reduceLT]
    exact hnx _ _ ⟨e.trans e2, fun d hd => hr d (List.mem_cons_of_mem _ hd), _, _, _, _, rfl⟩
def bdF (bc bd : Addr) : List (Str × D) := [("wide", .int 2), ("high", .int 2), ("layers", .int 1), ("copper", .ref bc), ("drilled", .ref bd)]
theorem c_copper0 {x y : Int} (hx : x = 0 ∨ x = 1) (hy : y = 0 ∨ y = 1) {bo bc br bd : Addr} {S : Sto} {Kt_ : Kt} {X : KtE} (b1 : S bo = some (.ins (He.ga K "Board") (bdF bc bd))) (b2 : S bc = some (.lst [.ref br])) (b3 : S br = some (.lst [.int 0, .int 0])) (hk : Kt_ (.bl false) S) :
    wCall (feOf (GL K tab (n + 1)) d_Board_is_copper) [.ref bo, .int x, .int y, .int 0] S Kt_ X := by
  refine call_w rfl ?_
  simp only [d_Board_is_copper, ↓wSs, ↓wS, ↓wE, ↓wEs, ↓wI, ↓wIfs, ↓wO, ↓wTg, ↓wTgs, ↓reduceIte, ofS_eq, ofS_beq, String.reduceEq, String.reduceBEq, List.lookup_cons, List.lookup_nil, wipeD, startD, endD, nmO, List.map_cons, List.map_nil, List.cons_append, List.nil_append, List.append_nil, List.getElem?_cons_zero, List.getElem?_cons_succ, List.length_cons, List.length_nil, List.replicate_succ, List.replicate_zero, List.set_cons_zero, List.set_cons_succ, if_true, if_false, Bool.false_eq_true, reduceIte, Bool.not_true, Bool.not_false, wTru, tv, Nat.zero_add, Nat.reduceAdd, ci0, ci1, ci2, ci3, ci4, ci5, ci6, Nat.reduceSub, Nat.sub_self, Nat.le_refl, Nat.reduceLeDiff, sizeLine_eq, Nat.reduceLT, true_and, and_true, and_self, Bool.and_false, Bool.or_false, Bool.or_true, Bool.and_true, Bool.true_and, Bool.true_or, Bool.false_or, Bool.false_and, decide_true, decide_false, ne_eq, not_true_eq_false, not_false_eq_true, List.drop_zero, List.drop_nil, List.drop_succ_cons, b1, bdF, mt_Board_is_square]
  refine call_w rfl ?_
  have q : 0 ≤ x ∧ x < 2 ∧ 0 ≤ y ∧ y < 2 := by omega
  obtain ⟨q1, q2, q3, q4⟩ := q
  have b1' : S bo = some (.ins (He.ga K "Board") [("wide", .int 2), ("high", .int 2), ("layers", .int 1), ("copper", .ref bc), ("drilled", .ref bd)]) := b1
  simp only [d_Board_is_square, ↓wSs, ↓wS, ↓wE, ↓wEs, ↓wI, ↓wIfs, ↓wO, ↓wTg, ↓wTgs, ↓reduceIte, ofS_eq, ofS_beq, String.reduceEq, String.reduceBEq, List.lookup_cons, List.lookup_nil, wipeD, startD, endD, nmO, List.map_cons, List.map_nil, List.cons_append, List.nil_append, List.append_nil, List.getElem?_cons_zero, List.getElem?_cons_succ, List.length_cons, List.length_nil, List.replicate_succ, List.replicate_zero, List.set_cons_zero, List.set_cons_succ, if_true, if_false, Bool.false_eq_true, reduceIte, Bool.not_true, Bool.not_false, wTru, tv, Nat.zero_add, Nat.reduceAdd, ci0, ci1, ci2, ci3, ci4, ci5, ci6, Nat.reduceSub, Nat.sub_self, Nat.le_refl, Nat.reduceLeDiff, sizeLine_eq, Nat.reduceLT, true_and, and_true, and_self, Bool.and_false, Bool.or_false, Bool.or_true, Bool.and_true, Bool.true_and, Bool.true_or, Bool.false_or, Bool.false_and, decide_true, decide_false, ne_eq, not_true_eq_false, not_false_eq_true, List.drop_zero, List.drop_nil, List.drop_succ_cons, b1', wCmp, wLe, wLt, at_Board_wide, at_Board_high, at_Board_layers, at_Board_copper, Int.reduceLE, Int.reduceLT, q1, q2, q3, q4]
  refine wSub_lst b2 atI_zero ?_
  have e0 : L2.atI [D.int 0, D.int 0] y = some (.int 0) := by rcases hy with rfl | rfl <;> rfl
  refine wSub_lst b3 e0 ?_
  have e3 : (0 : Int) / 2 ^ x.toNat = 0 := by rcases hx with rfl | rfl <;> decide
  simp only [wBin, ↓wSs, ↓wS, ↓wE, ↓wEs, ↓wI, ↓wIfs, ↓wO, ↓wTg, ↓wTgs, ↓reduceIte, ofS_eq, ofS_beq, String.reduceEq, String.reduceBEq, List.lookup_cons, List.lookup_nil, wipeD, startD, endD, nmO, List.map_cons, List.map_nil, List.cons_append, List.nil_append, List.append_nil, List.getElem?_cons_zero, List.getElem?_cons_succ, List.length_cons, List.length_nil, List.replicate_succ, List.replicate_zero, List.set_cons_zero, List.set_cons_succ, if_true, if_false, Bool.false_eq_true, reduceIte, Bool.not_true, Bool.not_false, wTru, tv, Nat.zero_add, Nat.reduceAdd, ci0, ci1, ci2, ci3, ci4, ci5, ci6, Nat.reduceSub, Nat.sub_self, Nat.le_refl, Nat.reduceLeDiff, sizeLine_eq, Nat.reduceLT, true_and, and_true, and_self, Bool.and_false, Bool.or_false, Bool.or_true, Bool.and_true, Bool.true_and, Bool.true_or, Bool.false_or, Bool.false_and, decide_true, decide_false, ne_eq, not_true_eq_false, not_false_eq_true, List.drop_zero, List.drop_nil, List.drop_succ_cons, wCmp, wEq, e3, show Builtin.bitAnd 0 1 = 0 by decide +kernel, Int.reduceEq]
  exact ⟨q1, hk⟩
theorem c_squares {bo bc bd : Addr} {S : Sto} {Kt_ : Kt} {X : KtE} (b1 : S bo = some (.ins (He.ga K "Board") (bdF bc bd))) (hk : ∀ S' y, Ext S S' → S' y = some (.lst [.tup [.int 0, .int 0], .tup [.int 0, .int 1], .tup [.int 1, .int 0], .tup [.int 1, .int 1]]) → Kt_ (.ref y) S') :
    wCall (feOf (GL K tab n) d_Board_squares) [.ref bo] S Kt_ X := by
  refine call_w rfl ?_
  have b1' : S bo = some (.ins (He.ga K "Board") [("wide", .int 2), ("high", .int 2), ("layers", .int 1), ("copper", .ref bc), ("drilled", .ref bd)]) := b1
  simp only [d_Board_squares, ↓wSs, ↓wS, ↓wE, ↓wEs, ↓wI, ↓wIfs, ↓wO, ↓wTg, ↓wTgs, ↓reduceIte, ofS_eq, ofS_beq, String.reduceEq, String.reduceBEq, List.lookup_cons, List.lookup_nil, wipeD, startD, endD, nmO, List.map_cons, List.map_nil, List.cons_append, List.nil_append, List.append_nil, List.getElem?_cons_zero, List.getElem?_cons_succ, List.length_cons, List.length_nil, List.replicate_succ, List.replicate_zero, List.set_cons_zero, List.set_cons_succ, if_true, if_false, Bool.false_eq_true, reduceIte, Bool.not_true, Bool.not_false, wTru, tv, Nat.zero_add, Nat.reduceAdd, ci0, ci1, ci2, ci3, ci4, ci5, ci6, Nat.reduceSub, Nat.sub_self, Nat.le_refl, Nat.reduceLeDiff, sizeLine_eq, Nat.reduceLT, true_and, and_true, and_self, Bool.and_false, Bool.or_false, Bool.or_true, Bool.and_true, Bool.true_and, Bool.true_or, Bool.false_or, Bool.false_and, decide_true, decide_false, ne_eq, not_true_eq_false, not_false_eq_true, List.drop_zero, List.drop_nil, List.drop_succ_cons, b1', at_Board_wide, at_Board_high, wBin]
  refine ⟨.inl (.inl ⟨by decide, by decide⟩), ⟨by decide, by decide⟩, fun p hp => ?_⟩
  refine wComp_of (fun S' => Ext S S') (fun d => match d with | .int i => .tup [.int (i / 2), .int (i % 2)] | _ => .non) (fun _ _ => trivial) (fun S' m e => e.put hp) _ _ _ (fun d hd S1 R e1 hR => ?_) (Ext.refl.put hp) put_same (by decide) (fun S2 e2 h2 => ?_)
  · unfold rangeD at hd
    obtain ⟨z, hz, rfl⟩ := List.mem_map.mp hd
    simp only [↓wSs, ↓wS, ↓wE, ↓wEs, ↓wI, ↓wIfs, ↓wO, ↓wTg, ↓wTgs, ↓reduceIte, ofS_eq, ofS_beq, String.reduceEq, String.reduceBEq, List.lookup_cons, List.lookup_nil, wipeD, startD, endD, nmO, List.map_cons, List.map_nil, List.cons_append, List.nil_append, List.append_nil, List.getElem?_cons_zero, List.getElem?_cons_succ, List.length_cons, List.length_nil, List.replicate_succ, List.replicate_zero, List.set_cons_zero, List.set_cons_succ, if_true, if_false, Bool.false_eq_true, reduceIte, Bool.not_true, Bool.not_false, wTru, tv, Nat.zero_add, Nat.reduceAdd, ci0, ci1, ci2, ci3, ci4, ci5, ci6, Nat.reduceSub, Nat.sub_self, Nat.le_refl, Nat.reduceLeDiff, sizeLine_eq, Nat.reduceLT, true_and, and_true, and_self, Bool.and_false, Bool.or_false, Bool.or_true, Bool.and_true, Bool.true_and, Bool.true_or, Bool.false_or, Bool.false_and, decide_true, decide_false, ne_eq, not_true_eq_false, not_false_eq_true, List.drop_zero, List.drop_nil, List.drop_succ_cons, e1 _ _ b1', at_Board_high, wBf]
    exact ⟨⟨by decide, by decide⟩, hR _ e1 fun _ z => z⟩
  · exact hk S2 p e2 h2
theorem c_cells0 {bo bc br bd : Addr} {S : Sto} {Kt_ : Kt} {X : KtE} (b1 : S bo = some (.ins (He.ga K "Board") (bdF bc bd))) (b2 : S bc = some (.lst [.ref br])) (b3 : S br = some (.lst [.int 0, .int 0])) (hk : ∀ S' y, Ext S S' → S' y = some (.lst []) → Kt_ (.ref y) S') :
    wCall (feOf (GL K tab (n + 2)) d_Board_cells) [.ref bo] S Kt_ X := by
  refine call_w rfl ?_
  simp only [d_Board_cells, ↓wSs, ↓wS, ↓wE, ↓wEs, ↓wI, ↓wIfs, ↓wO, ↓wTg, ↓wTgs, ↓reduceIte, ofS_eq, ofS_beq, String.reduceEq, String.reduceBEq, List.lookup_cons, List.lookup_nil, wipeD, startD, endD, nmO, List.map_cons, List.map_nil, List.cons_append, List.nil_append, List.append_nil, List.getElem?_cons_zero, List.getElem?_cons_succ, List.length_cons, List.length_nil, List.replicate_succ, List.replicate_zero, List.set_cons_zero, List.set_cons_succ, if_true, if_false, Bool.false_eq_true, reduceIte, Bool.not_true, Bool.not_false, wTru, tv, Nat.zero_add, Nat.reduceAdd, ci0, ci1, ci2, ci3, ci4, ci5, ci6, Nat.reduceSub, Nat.sub_self, Nat.le_refl, Nat.reduceLeDiff, sizeLine_eq, Nat.reduceLT, true_and, and_true, and_self, Bool.and_false, Bool.or_false, Bool.or_true, Bool.and_true, Bool.true_and, Bool.true_or, Bool.false_or, Bool.false_and, decide_true, decide_false, ne_eq, not_true_eq_false, not_false_eq_true, List.drop_zero, List.drop_nil, List.drop_succ_cons]
  refine wNew_of fun f S1 hf e1 g1 => ?_
  have c1 := e1 _ _ b1
  simp only [c1, bdF, ↓wSs, ↓wS, ↓wE, ↓wEs, ↓wI, ↓wIfs, ↓wO, ↓wTg, ↓wTgs, ↓reduceIte, ofS_eq, ofS_beq, String.reduceEq, String.reduceBEq, List.lookup_cons, List.lookup_nil, wipeD, startD, endD, nmO, List.map_cons, List.map_nil, List.cons_append, List.nil_append, List.append_nil, List.getElem?_cons_zero, List.getElem?_cons_succ, List.length_cons, List.length_nil, List.replicate_succ, List.replicate_zero, List.set_cons_zero, List.set_cons_succ, if_true, if_false, Bool.false_eq_true, reduceIte, Bool.not_true, Bool.not_false, wTru, tv, Nat.zero_add, Nat.reduceAdd, ci0, ci1, ci2, ci3, ci4, ci5, ci6, Nat.reduceSub, Nat.sub_self, Nat.le_refl, Nat.reduceLeDiff, sizeLine_eq, Nat.reduceLT, true_and, and_true, and_self, Bool.and_false, Bool.or_false, Bool.or_true, Bool.and_true, Bool.true_and, Bool.true_or, Bool.false_or, Bool.false_and, decide_true, decide_false, ne_eq, not_true_eq_false, not_false_eq_true, List.drop_zero, List.drop_nil, List.drop_succ_cons, mt_Board_squares]
  refine c_squares K (n + 1) c1 fun S2 y e2 g2 => ?_
  simp only [wIter, lst_of_ g2]
  refine wLoop_of (fun r ρ S' => Ext S2 S' ∧ (∀ d ∈ r, ∃ x y : Int, (x = 0 ∨ x = 1) ∧ (y = 0 ∨ y = 1) ∧ d = .tup [.int x, .int y]) ∧ ∃ o3 o4 o5, ρ = [some (.ref bo), some .non, some (.ref f), o3, o4, o5]) ?_ ?_ _ _ _ ⟨Ext.refl, fun d hd => ?_, _, _, _, rfl⟩
  · rintro ρ S' ⟨e, _, o3, o4, o5, rfl⟩
    simp only [↓wSs, ↓wS, ↓wE, ↓wEs, ↓wI, ↓wIfs, ↓wO, ↓wTg, ↓wTgs, ↓reduceIte, ofS_eq, ofS_beq, String.reduceEq, String.reduceBEq, List.lookup_cons, List.lookup_nil, wipeD, startD, endD, nmO, List.map_cons, List.map_nil, List.cons_append, List.nil_append, List.append_nil, List.getElem?_cons_zero, List.getElem?_cons_succ, List.length_cons, List.length_nil, List.replicate_succ, List.replicate_zero, List.set_cons_zero, List.set_cons_succ, if_true, if_false, Bool.false_eq_true, reduceIte, Bool.not_true, Bool.not_false, wTru, tv, Nat.zero_add, Nat.reduceAdd, ci0, ci1, ci2, ci3, ci4, ci5, ci6, Nat.reduceSub, Nat.sub_self, Nat.le_refl, Nat.reduceLeDiff, sizeLine_eq, Nat.reduceLT, true_and, and_true, and_self, Bool.and_false, Bool.or_false, Bool.or_true, Bool.and_true, Bool.true_and, Bool.true_or, Bool.false_or, Bool.false_and, decide_true, decide_false, ne_eq, not_true_eq_false, not_false_eq_true, List.drop_zero, List.drop_nil, List.drop_succ_cons]
    exact ⟨lst_of_ (e _ _ g2), hk _ _ ((e1.trans e2).trans e) (e _ _ (e2 _ _ g1))⟩
  · rintro d r ρ S' nx ⟨e, hr, o3, o4, o5, rfl⟩ hnx
    refine ⟨lst_of_ (e _ _ g2), ?_⟩
    obtain ⟨x, y, hx, hy, rfl⟩ := hr d List.mem_cons_self
    have e02 := (e1.trans e2).trans e
    have c1' : S' bo = some (.ins (He.ga K "Board") [("wide", .int 2), ("high", .int 2), ("layers", .int 1), ("copper", .ref bc), ("drilled", .ref bd)]) := e02 _ _ b1
    simp only [↓wSs, ↓wS, ↓wE, ↓wEs, ↓wI, ↓wIfs, ↓wO, ↓wTg, ↓wTgs, ↓reduceIte, ofS_eq, ofS_beq, String.reduceEq, String.reduceBEq, List.lookup_cons, List.lookup_nil, wipeD, startD, endD, nmO, List.map_cons, List.map_nil, List.cons_append, List.nil_append, List.append_nil, List.getElem?_cons_zero, List.getElem?_cons_succ, List.length_cons, List.length_nil, List.replicate_succ, List.replicate_zero, List.set_cons_zero, List.set_cons_succ, if_true, if_false, Bool.false_eq_true, reduceIte, Bool.not_true, Bool.not_false, wTru, tv, Nat.zero_add, Nat.reduceAdd, ci0, ci1, ci2, ci3, ci4, ci5, ci6, Nat.reduceSub, Nat.sub_self, Nat.le_refl, Nat.reduceLeDiff, sizeLine_eq, Nat.reduceLT, true_and, and_true, and_self, Bool.and_false, Bool.or_false, Bool.or_true, Bool.and_true, Bool.true_and, Bool.true_or, Bool.false_or, Bool.false_and, decide_true, decide_false, ne_eq, not_true_eq_false, not_false_eq_true, List.drop_zero, List.drop_nil, List.drop_succ_cons, c1', at_Board_layers]
    refine ⟨⟨by decide, by decide⟩, ?_⟩
    rw [show rangeD 0 (Int.toNat 1) = [.int 0] from rfl]
    simp only [wLoop, ↓wSs, ↓wS, ↓wE, ↓wEs, ↓wI, ↓wIfs, ↓wO, ↓wTg, ↓wTgs, ↓reduceIte, ofS_eq, ofS_beq, String.reduceEq, String.reduceBEq, List.lookup_cons, List.lookup_nil, wipeD, startD, endD, nmO, List.map_cons, List.map_nil, List.cons_append, List.nil_append, List.append_nil, List.getElem?_cons_zero, List.getElem?_cons_succ, List.length_cons, List.length_nil, List.replicate_succ, List.replicate_zero, List.set_cons_zero, List.set_cons_succ, if_true, if_false, Bool.false_eq_true, reduceIte, Bool.not_true, Bool.not_false, wTru, tv, Nat.zero_add, Nat.reduceAdd, ci0, ci1, ci2, ci3, ci4, ci5, ci6, Nat.reduceSub, Nat.sub_self, Nat.le_refl, Nat.reduceLeDiff, sizeLine_eq, Nat.reduceLT, true_and, and_true, and_self, Bool.and_false, Bool.or_false, Bool.or_true, Bool.and_true, Bool.true_and, Bool.true_or, Bool.false_or, Bool.false_and, decide_true, decide_false, ne_eq, not_true_eq_false, not_false_eq_true, List.drop_zero, List.drop_nil, List.drop_succ_cons, wCmp, c1', mt_Board_is_copper]
    refine c_copper0 K n hx hy c1' (e02 _ _ b2) (e02 _ _ b3) ?_
    simp only [↓wSs, ↓wS, ↓wE, ↓wEs, ↓wI, ↓wIfs, ↓wO, ↓wTg, ↓wTgs, ↓reduceIte, ofS_eq, ofS_beq, String.reduceEq, String.reduceBEq, List.lookup_cons, List.lookup_nil, wipeD, startD, endD, nmO, List.map_cons, List.map_nil, List.cons_append, List.nil_append, List.append_nil, List.getElem?_cons_zero, List.getElem?_cons_succ, List.length_cons, List.length_nil, List.replicate_succ, List.replicate_zero, List.set_cons_zero, List.set_cons_succ, if_true, if_false, Bool.false_eq_true, reduceIte, Bool.not_true, Bool.not_false, wTru, tv, Nat.zero_add, Nat.reduceAdd, ci0, ci1, ci2, ci3, ci4, ci5, ci6, Nat.reduceSub, Nat.sub_self, Nat.le_refl, Nat.reduceLeDiff, sizeLine_eq, Nat.reduceLT, true_and, and_true, and_self, Bool.and_false, Bool.or_false, Bool.or_true, Bool.and_true, Bool.true_and, Bool.true_or, Bool.false_or, Bool.false_and, decide_true, decide_false, ne_eq, not_true_eq_false, not_false_eq_true, List.drop_zero, List.drop_nil, List.drop_succ_cons]
    exact hnx _ _ ⟨e, fun d hd => hr d (List.mem_cons_of_mem _ hd), _, _, _, rfl⟩
  · simp only [List.mem_cons, List.not_mem_nil, or_false] at hd
    rcases hd with rfl | rfl | rfl | rfl <;> exact ⟨_, _, by decide, by decide, rfl⟩
theorem wComp_no {stays : Sto → Prop} {p : Addr} {turn : D → Sto → (Option D → Sto → Prop) → Prop} {Kc : Sto → Prop} {S : Sto} (hst : stays S) : ∀ (items acc : List D), (∀ d ∈ items, ∀ (R : Option D → Sto → Prop), R none S → turn d S R) → S p = some (.lst acc) → Kc S → wComp stays p turn Kc items acc S
  | [], acc, _, _, k => ⟨hst, k⟩
  | d :: ds, acc, ht, hp, k => ⟨hst, ht d List.mem_cons_self _ ⟨hp, wComp_no hst ds acc (fun e he => ht e (List.mem_cons_of_mem _ he)) hp k⟩⟩
theorem c_homes0 {bo bc br bd q : Addr} {S : Sto} {Kt_ : Kt} {X : KtE} (b1 : S bo = some (.ins (He.ga K "Board") (bdF bc bd))) (b2 : S bc = some (.lst [.ref br])) (b3 : S br = some (.lst [.int 0, .int 0])) (hk : ∀ S' y, Ext S S' → S' y = some (.dct false true []) → Kt_ (.ref y) S') :
    wCall (feOf (GL K tab (n + 4)) d_homes_of) [.ref bo, .ref q] S Kt_ X := by
  refine call_w rfl ?_
  simp only [d_homes_of, ↓wSs, ↓wS, ↓wE, ↓wEs, ↓wI, ↓wIfs, ↓wO, ↓wTg, ↓wTgs, ↓reduceIte, ofS_eq, ofS_beq, String.reduceEq, String.reduceBEq, List.lookup_cons, List.lookup_nil, wipeD, startD, endD, nmO, List.map_cons, List.map_nil, List.cons_append, List.nil_append, List.append_nil, List.getElem?_cons_zero, List.getElem?_cons_succ, List.length_cons, List.length_nil, List.replicate_succ, List.replicate_zero, List.set_cons_zero, List.set_cons_succ, if_true, if_false, Bool.false_eq_true, reduceIte, Bool.not_true, Bool.not_false, wTru, tv, Nat.zero_add, Nat.reduceAdd, ci0, ci1, ci2, ci3, ci4, ci5, ci6, Nat.reduceSub, Nat.sub_self, Nat.le_refl, Nat.reduceLeDiff, sizeLine_eq, Nat.reduceLT, true_and, and_true, and_self, Bool.and_false, Bool.or_false, Bool.or_true, Bool.and_true, Bool.true_and, Bool.true_or, Bool.false_or, Bool.false_and, decide_true, decide_false, ne_eq, not_true_eq_false, not_false_eq_true, List.drop_zero, List.drop_nil, List.drop_succ_cons]
  left
  refine wNew_of fun f S1 hf e1 g1 => ?_
  simp only [fn_islands]
  refine call_w rfl ?_
  simp only [d_islands, ↓wSs, ↓wS, ↓wE, ↓wEs, ↓wI, ↓wIfs, ↓wO, ↓wTg, ↓wTgs, ↓reduceIte, ofS_eq, ofS_beq, String.reduceEq, String.reduceBEq, List.lookup_cons, List.lookup_nil, wipeD, startD, endD, nmO, List.map_cons, List.map_nil, List.cons_append, List.nil_append, List.append_nil, List.getElem?_cons_zero, List.getElem?_cons_succ, List.length_cons, List.length_nil, List.replicate_succ, List.replicate_zero, List.set_cons_zero, List.set_cons_succ, if_true, if_false, Bool.false_eq_true, reduceIte, Bool.not_true, Bool.not_false, wTru, tv, Nat.zero_add, Nat.reduceAdd, ci0, ci1, ci2, ci3, ci4, ci5, ci6, Nat.reduceSub, Nat.sub_self, Nat.le_refl, Nat.reduceLeDiff, sizeLine_eq, Nat.reduceLT, true_and, and_true, and_self, Bool.and_false, Bool.or_false, Bool.or_true, Bool.and_true, Bool.true_and, Bool.true_or, Bool.false_or, Bool.false_and, decide_true, decide_false, ne_eq, not_true_eq_false, not_false_eq_true, List.drop_zero, List.drop_nil, List.drop_succ_cons]
  left
  refine wNew_of fun g S2 hg e2 g2 => wNew_of fun l S3 hl e3 g3 => ?_
  have e13 := e2.trans e3
  have c1 := e13 _ _ (e1 _ _ b1)
  simp only [c1, bdF, ↓wSs, ↓wS, ↓wE, ↓wEs, ↓wI, ↓wIfs, ↓wO, ↓wTg, ↓wTgs, ↓reduceIte, ofS_eq, ofS_beq, String.reduceEq, String.reduceBEq, List.lookup_cons, List.lookup_nil, wipeD, startD, endD, nmO, List.map_cons, List.map_nil, List.cons_append, List.nil_append, List.append_nil, List.getElem?_cons_zero, List.getElem?_cons_succ, List.length_cons, List.length_nil, List.replicate_succ, List.replicate_zero, List.set_cons_zero, List.set_cons_succ, if_true, if_false, Bool.false_eq_true, reduceIte, Bool.not_true, Bool.not_false, wTru, tv, Nat.zero_add, Nat.reduceAdd, ci0, ci1, ci2, ci3, ci4, ci5, ci6, Nat.reduceSub, Nat.sub_self, Nat.le_refl, Nat.reduceLeDiff, sizeLine_eq, Nat.reduceLT, true_and, and_true, and_self, Bool.and_false, Bool.or_false, Bool.or_true, Bool.and_true, Bool.true_and, Bool.true_or, Bool.false_or, Bool.false_and, decide_true, decide_false, ne_eq, not_true_eq_false, not_false_eq_true, List.drop_zero, List.drop_nil, List.drop_succ_cons, mt_Board_cells]
  refine c_cells0 K n c1 (e13 _ _ (e1 _ _ b2)) (e13 _ _ (e1 _ _ b3)) fun S4 y e4 g4 => ?_
  simp only [wIter, lst_of_ g4, wLoop, ↓wSs, ↓wS, ↓wE, ↓wEs, ↓wI, ↓wIfs, ↓wO, ↓wTg, ↓wTgs, ↓reduceIte, ofS_eq, ofS_beq, String.reduceEq, String.reduceBEq, List.lookup_cons, List.lookup_nil, wipeD, startD, endD, nmO, List.map_cons, List.map_nil, List.cons_append, List.nil_append, List.append_nil, List.getElem?_cons_zero, List.getElem?_cons_succ, List.length_cons, List.length_nil, List.replicate_succ, List.replicate_zero, List.set_cons_zero, List.set_cons_succ, if_true, if_false, Bool.false_eq_true, reduceIte, Bool.not_true, Bool.not_false, wTru, tv, Nat.zero_add, Nat.reduceAdd, ci0, ci1, ci2, ci3, ci4, ci5, ci6, Nat.reduceSub, Nat.sub_self, Nat.le_refl, Nat.reduceLeDiff, sizeLine_eq, Nat.reduceLT, true_and, and_true, and_self, Bool.and_false, Bool.or_false, Bool.or_true, Bool.and_true, Bool.true_and, Bool.true_or, Bool.false_or, Bool.false_and, decide_true, decide_false, ne_eq, not_true_eq_false, not_false_eq_true, List.drop_zero, List.drop_nil, List.drop_succ_cons, lst_of_ (e4 _ _ g3), enumD]
  have e14 := e13.trans e4
  exact hk _ _ (e1.trans e14) (e14 _ _ g1)
theorem c_against {m : Int} {bo p a b c h q bc br bd : Addr} {S : Sto} {Kt_ : Kt} {X : KtE} (b1 : S bo = some (.ins (He.ga K "Board") [("wide", .int 2), ("high", .int 2), ("layers", .int 1), ("copper", .ref bc), ("drilled", .ref bd)])) (b2 : S bc = some (.lst [.ref br])) (b3 : S br = some (.lst [.int 0, .int 0])) (b4 : S bd = some (.lst [.int 0, .int 0]))
    (i1 : S p = some (.ins (He.ga K "Drawing") [("parts", .ref a), ("nets", .ref b), ("homes", .ref h)])) (i2 : S a = some (.lst [part 2])) (i3 : S b = some (.lst [.tup [.str "n", .ref c]])) (i4 : S c = some (.lst (pinsK 2))) (i6 : S q = some (.dct false true (placesOf m)))
    (hk : ∀ S' y, Ext S S' → S' y = some (.lst [barePin 0, barePin 1]) → Kt_ (.ref y) S') : wCall (feOf (GL K tab (n + 5)) d_against) [.ref bo, .ref p, .ref q] S Kt_ X := by
  refine call_w rfl ?_
  simp only [d_against, ↓wSs, ↓wS, ↓wE, ↓wEs, ↓wI, ↓wIfs, ↓wO, ↓wTg, ↓wTgs, ↓reduceIte, ofS_eq, ofS_beq, String.reduceEq, String.reduceBEq, List.lookup_cons, List.lookup_nil, wipeD, startD, endD, nmO, List.map_cons, List.map_nil, List.cons_append, List.nil_append, List.append_nil, List.getElem?_cons_zero, List.getElem?_cons_succ, List.length_cons, List.length_nil, List.replicate_succ, List.replicate_zero, List.set_cons_zero, List.set_cons_succ, if_true, if_false, Bool.false_eq_true, reduceIte, Bool.not_true, Bool.not_false, wTru, tv, Nat.zero_add, Nat.reduceAdd, ci0, ci1, ci2, ci3, ci4, ci5, ci6, Nat.reduceSub, Nat.sub_self, Nat.le_refl, Nat.reduceLeDiff, sizeLine_eq, Nat.reduceLT, true_and, and_true, and_self, Bool.and_false, Bool.or_false, Bool.or_true, Bool.and_true, Bool.true_and, Bool.true_or, Bool.false_or, Bool.false_and, decide_true, decide_false, ne_eq, not_true_eq_false, not_false_eq_true, List.drop_zero, List.drop_nil, List.drop_succ_cons, fn_check_places]
  refine c_check_places K n b1 i1 rfl rfl i2 i6 fun S1 e1 => ?_
  simp only [fn_homes_of, ↓wSs, ↓wS, ↓wE, ↓wEs, ↓wI, ↓wIfs, ↓wO, ↓wTg, ↓wTgs, ↓reduceIte, ofS_eq, ofS_beq, String.reduceEq, String.reduceBEq, List.lookup_cons, List.lookup_nil, wipeD, startD, endD, nmO, List.map_cons, List.map_nil, List.cons_append, List.nil_append, List.append_nil, List.getElem?_cons_zero, List.getElem?_cons_succ, List.length_cons, List.length_nil, List.replicate_succ, List.replicate_zero, List.set_cons_zero, List.set_cons_succ, if_true, if_false, Bool.false_eq_true, reduceIte, Bool.not_true, Bool.not_false, wTru, tv, Nat.zero_add, Nat.reduceAdd, ci0, ci1, ci2, ci3, ci4, ci5, ci6, Nat.reduceSub, Nat.sub_self, Nat.le_refl, Nat.reduceLeDiff, sizeLine_eq, Nat.reduceLT, true_and, and_true, and_self, Bool.and_false, Bool.or_false, Bool.or_true, Bool.and_true, Bool.true_and, Bool.true_or, Bool.false_or, Bool.false_and, decide_true, decide_false, ne_eq, not_true_eq_false, not_false_eq_true, List.drop_zero, List.drop_nil, List.drop_succ_cons]
  refine c_homes0 K n (e1 _ _ b1) (e1 _ _ b2) (e1 _ _ b3) fun S2 hm e2 g2 => ?_
  have e12 := e1.trans e2
  have k1 := e12 _ _ i1
  simp only [k1, ↓wSs, ↓wS, ↓wE, ↓wEs, ↓wI, ↓wIfs, ↓wO, ↓wTg, ↓wTgs, ↓reduceIte, ofS_eq, ofS_beq, String.reduceEq, String.reduceBEq, List.lookup_cons, List.lookup_nil, wipeD, startD, endD, nmO, List.map_cons, List.map_nil, List.cons_append, List.nil_append, List.append_nil, List.getElem?_cons_zero, List.getElem?_cons_succ, List.length_cons, List.length_nil, List.replicate_succ, List.replicate_zero, List.set_cons_zero, List.set_cons_succ, if_true, if_false, Bool.false_eq_true, reduceIte, Bool.not_true, Bool.not_false, wTru, tv, Nat.zero_add, Nat.reduceAdd, ci0, ci1, ci2, ci3, ci4, ci5, ci6, Nat.reduceSub, Nat.sub_self, Nat.le_refl, Nat.reduceLeDiff, sizeLine_eq, Nat.reduceLT, true_and, and_true, and_self, Bool.and_false, Bool.or_false, Bool.or_true, Bool.and_true, Bool.true_and, Bool.true_or, Bool.false_or, Bool.false_and, decide_true, decide_false, ne_eq, not_true_eq_false, not_false_eq_true, List.drop_zero, List.drop_nil, List.drop_succ_cons, mt_Drawing_pins]
  refine c_pins K (n + 1) k1 rfl (e12 _ _ i2) fun S3 pn e3 g3 => ?_
  have e13 := e12.trans e3
  have h3 := e3 _ _ g2
  simp only [wIter, lst_of_ g3]
  rw [show pinsK 2 = [.tup [.str "a", .int 0], .tup [.str "a", .int 1]] from rfl]
  intro fo hfo
  have hnone : ∀ d : D, dget [] d = none := fun d => rfl
  have key1 : ∀ d ∈ ([.tup [.str "a", .int 0], .tup [.str "a", .int 1]] : List D), keyOk true d = true := by
    intro d hd
    simp only [List.mem_cons, List.not_mem_nil, or_false] at hd
    rcases hd with rfl | rfl <;> rfl
  refine wComp_of (fun S' => Ext S3 S') (fun d => .tup [.str "bare", d]) (fun S' e => lst_of_ (e _ _ g3)) (fun S' m e => e.put hfo) _ _ _ (fun d hd S4 R e4 hR => ?_) (Ext.refl.put hfo) put_same (by simp) (fun S4 e4 g4 => ?_)
  · simp only [wCmp, wIn, e4 _ _ h3, key1 d hd, hnone, Option.isSome_none, ↓wSs, ↓wS, ↓wE, ↓wEs, ↓wI, ↓wIfs, ↓wO, ↓wTg, ↓wTgs, ↓reduceIte, ofS_eq, ofS_beq, String.reduceEq, String.reduceBEq, List.lookup_cons, List.lookup_nil, wipeD, startD, endD, nmO, List.map_cons, List.map_nil, List.cons_append, List.nil_append, List.append_nil, List.getElem?_cons_zero, List.getElem?_cons_succ, List.length_cons, List.length_nil, List.replicate_succ, List.replicate_zero, List.set_cons_zero, List.set_cons_succ, if_true, if_false, Bool.false_eq_true, reduceIte, Bool.not_true, Bool.not_false, wTru, tv, Nat.zero_add, Nat.reduceAdd, ci0, ci1, ci2, ci3, ci4, ci5, ci6, Nat.reduceSub, Nat.sub_self, Nat.le_refl, Nat.reduceLeDiff, sizeLine_eq, Nat.reduceLT, true_and, and_true, and_self, Bool.and_false, Bool.or_false, Bool.or_true, Bool.and_true, Bool.true_and, Bool.true_or, Bool.false_or, Bool.false_and, decide_true, decide_false, ne_eq, not_true_eq_false, not_false_eq_true, List.drop_zero, List.drop_nil, List.drop_succ_cons]
    exact hR _ e4 fun _ z => z
  have e14 := e13.trans e4
  have k4 := e14 _ _ i1
  have j3 := e14 _ _ i3
  have j4 := e14 _ _ i4
  simp only [k4, ↓wSs, ↓wS, ↓wE, ↓wEs, ↓wI, ↓wIfs, ↓wO, ↓wTg, ↓wTgs, ↓reduceIte, ofS_eq, ofS_beq, String.reduceEq, String.reduceBEq, List.lookup_cons, List.lookup_nil, wipeD, startD, endD, nmO, List.map_cons, List.map_nil, List.cons_append, List.nil_append, List.append_nil, List.getElem?_cons_zero, List.getElem?_cons_succ, List.length_cons, List.length_nil, List.replicate_succ, List.replicate_zero, List.set_cons_zero, List.set_cons_succ, if_true, if_false, Bool.false_eq_true, reduceIte, Bool.not_true, Bool.not_false, wTru, tv, Nat.zero_add, Nat.reduceAdd, ci0, ci1, ci2, ci3, ci4, ci5, ci6, Nat.reduceSub, Nat.sub_self, Nat.le_refl, Nat.reduceLeDiff, sizeLine_eq, Nat.reduceLT, true_and, and_true, and_self, Bool.and_false, Bool.or_false, Bool.or_true, Bool.and_true, Bool.true_and, Bool.true_or, Bool.false_or, Bool.false_and, decide_true, decide_false, ne_eq, not_true_eq_false, not_false_eq_true, List.drop_zero, List.drop_nil, List.drop_succ_cons, at_Drawing_nets]
  have hpd : pd 8 S4 (.tup [.str "n", .ref c]) = some (.tuple [.str "n", .list ((pinsK 2).map pinP)]) := by
    show (pdl (pd 7 S4) [.str "n", .ref c]).map PyData.tuple = _
    unfold pdl
    unfold pdl
    rw [show pd 7 S4 (.ref c) = _ from pd_pins j4 3]
    rfl
  have hsort : ∀ Kt_ : Kt, wNew (.lst [.tup [.str "n", .ref c]]) S4 Kt_ → wBf .sorted [.ref b] S4 Kt_ := fun Kt_ w => by
    simp only [wBf, lst_of_ j3]
    refine ⟨[.tuple [.str "n", .list ((pinsK 2).map pinP)]], ?_, ?_, .inl ?_, by rw [sizeLine_eq]; simp, ?_, ?_⟩
    · unfold pdl; rw [hpd]; rfl
    · intro p hp q hq
      simp only [List.mem_singleton] at hp hq
      subst hp hq
      decide +kernel
    · intro p hp
      simp only [List.mem_singleton] at hp
      subst hp
      exact ⟨_, _, rfl⟩
    · intro p hp
      simp only [List.mem_singleton] at hp
      subst hp
      decide +kernel
    · rw [List.mergeSort_singleton]; exact w
  refine hsort _ (wNew_of fun ns S5 hns e5 g5 => ?_)
  simp only [wBf, lst_of_ g5, List.length_cons, List.length_nil, Nat.zero_add, ci1]
  refine ⟨⟨by decide, by decide⟩, ?_⟩
  rw [show rangeD 0 (Int.toNat 1) = [.int 0] from rfl]
  have q4 := e5 _ _ g4
  simp only [wLoop, ↓wSs, ↓wS, ↓wE, ↓wEs, ↓wI, ↓wIfs, ↓wO, ↓wTg, ↓wTgs, ↓reduceIte, ofS_eq, ofS_beq, String.reduceEq, String.reduceBEq, List.lookup_cons, List.lookup_nil, wipeD, startD, endD, nmO, List.map_cons, List.map_nil, List.cons_append, List.nil_append, List.append_nil, List.getElem?_cons_zero, List.getElem?_cons_succ, List.length_cons, List.length_nil, List.replicate_succ, List.replicate_zero, List.set_cons_zero, List.set_cons_succ, if_true, if_false, Bool.false_eq_true, reduceIte, Bool.not_true, Bool.not_false, wTru, tv, Nat.zero_add, Nat.reduceAdd, ci0, ci1, ci2, ci3, ci4, ci5, ci6, Nat.reduceSub, Nat.sub_self, Nat.le_refl, Nat.reduceLeDiff, sizeLine_eq, Nat.reduceLT, true_and, and_true, and_self, Bool.and_false, Bool.or_false, Bool.or_true, Bool.and_true, Bool.true_and, Bool.true_or, Bool.false_or, Bool.false_and, decide_true, decide_false, ne_eq, not_true_eq_false, not_false_eq_true, List.drop_zero, List.drop_nil, List.drop_succ_cons, bty, q4, mT, fn_opens_of]
  refine wSub_lst g5 atI_zero (wSub_tup atI_zero (wSub_lst g5 atI_zero (wSub_tup (atI_nat (j := 1) rfl) ?_)))
  refine call_w rfl ?_
  have h5 := e5 _ _ (e4 _ _ h3)
  have c5 := e5 _ _ j4
  have hs2 : ∀ Kt_ : Kt, wNew (.lst (pinsK 2)) S5 Kt_ → wBf .sorted [.ref c] S5 Kt_ := fun Kt_ w => by
    simp only [wBf, lst_of_ c5]
    refine sorted_pins (pinsK_pin 2) (by decide) ?_
    rw [List.mergeSort_of_pairwise (pinsK_sorted (.inr rfl) S5)]; exact w
  simp only [d_opens_of, ↓wSs, ↓wS, ↓wE, ↓wEs, ↓wI, ↓wIfs, ↓wO, ↓wTg, ↓wTgs, ↓reduceIte, ofS_eq, ofS_beq, String.reduceEq, String.reduceBEq, List.lookup_cons, List.lookup_nil, wipeD, startD, endD, nmO, List.map_cons, List.map_nil, List.cons_append, List.nil_append, List.append_nil, List.getElem?_cons_zero, List.getElem?_cons_succ, List.length_cons, List.length_nil, List.replicate_succ, List.replicate_zero, List.set_cons_zero, List.set_cons_succ, if_true, if_false, Bool.false_eq_true, reduceIte, Bool.not_true, Bool.not_false, wTru, tv, Nat.zero_add, Nat.reduceAdd, ci0, ci1, ci2, ci3, ci4, ci5, ci6, Nat.reduceSub, Nat.sub_self, Nat.le_refl, Nat.reduceLeDiff, sizeLine_eq, Nat.reduceLT, true_and, and_true, and_self, Bool.and_false, Bool.or_false, Bool.or_true, Bool.and_true, Bool.true_and, Bool.true_or, Bool.false_or, Bool.false_and, decide_true, decide_false, ne_eq, not_true_eq_false, not_false_eq_true, List.drop_zero, List.drop_nil, List.drop_succ_cons]
  refine hs2 _ (wNew_of fun sp S6 hsp e6 g6 => ?_)
  simp only [wIter, lst_of_ g6]
  rw [show pinsK 2 = [.tup [.str "a", .int 0], .tup [.str "a", .int 1]] from rfl] at g6 ⊢
  intro so hso
  have ne1 : sp ≠ so := fun e => by rw [← e, g6] at hso; cases hso
  have h6 : put S6 so (.lst []) hm = some (.dct false true []) := by
    have := e6 _ _ h5
    rw [put_ne (fun e => by rw [← e, this] at hso; cases hso)]; exact this
  refine wComp_no (lst_of_ (by rw [put_ne ne1]; exact g6)) _ _ (fun d hd R hR => ?_) put_same ?_
  · simp only [↓wSs, ↓wS, ↓wE, ↓wEs, ↓wI, ↓wIfs, ↓wO, ↓wTg, ↓wTgs, ↓reduceIte, ofS_eq, ofS_beq, String.reduceEq, String.reduceBEq, List.lookup_cons, List.lookup_nil, wipeD, startD, endD, nmO, List.map_cons, List.map_nil, List.cons_append, List.nil_append, List.append_nil, List.getElem?_cons_zero, List.getElem?_cons_succ, List.length_cons, List.length_nil, List.replicate_succ, List.replicate_zero, List.set_cons_zero, List.set_cons_succ, if_true, if_false, Bool.false_eq_true, reduceIte, Bool.not_true, Bool.not_false, wTru, tv, Nat.zero_add, Nat.reduceAdd, ci0, ci1, ci2, ci3, ci4, ci5, ci6, Nat.reduceSub, Nat.sub_self, Nat.le_refl, Nat.reduceLeDiff, sizeLine_eq, Nat.reduceLT, true_and, and_true, and_self, Bool.and_false, Bool.or_false, Bool.or_true, Bool.and_true, Bool.true_and, Bool.true_or, Bool.false_or, Bool.false_and, decide_true, decide_false, ne_eq, not_true_eq_false, not_false_eq_true, List.drop_zero, List.drop_nil, List.drop_succ_cons, wCmp, wIn, h6, key1 d hd, hnone, Option.isSome_none]
    exact hR
  simp only [lst_of_ put_same]
  intro s2 hs2'
  have ne2 : so ≠ s2 := fun e => by rw [← e, put_same] at hs2'; cases hs2'
  simp only [wComp]
  refine ⟨lst_of_ (by rw [put_ne ne2]; exact put_same), ?_⟩
  have E7 : Ext S5 (put (put S6 so (.lst [])) s2 (.lst [])) := (e6.put (e6.none_ hso)).put (by rw [put_none] at hs2'; exact e6.none_ hs2'.2)
  have q7 := E7 _ _ q4
  have s7 : put (put S6 so (.lst [])) s2 (.lst []) s2 = some (.lst []) := put_same
  have n7 := E7 _ _ g5
  generalize put (put S6 so (.lst [])) s2 (.lst []) = S7 at *
  simp only [wBm, q7, s7]
  refine ⟨by rw [sizeLine_eq]; simp, ?_⟩
  have nfo : ns ≠ fo := fun e => by rw [e, g4] at hns; cases hns
  have Sfo : S fo = none := e13.none_ hfo
  have E57 : Ext S (put S7 fo (.lst [barePin 0, barePin 1])) := (((e14.trans e5).trans E7)).put Sfo
  have q8 : put S7 fo (.lst [barePin 0, barePin 1]) fo = some (.lst [barePin 0, barePin 1]) := put_same
  have n8 : put S7 fo (.lst [barePin 0, barePin 1]) ns = some (.lst [.tup [.str "n", .ref c]]) := by rw [put_ne nfo]; exact n7
  show wBin .Add (.int 0) (.int 1) (put S7 fo (.lst [barePin 0, barePin 1])) _
  generalize put S7 fo (.lst [barePin 0, barePin 1]) = S8 at *
  simp only [wBin, wSlc, lst_of_ n8]
  rw [show cutD [D.tup [D.str "n", D.ref c]] (some (0 + 1)) none = [] from rfl]
  refine wNew_of fun em S9 hem e9 g9 => ?_
  simp only [wIter, lst_of_ g9, wLoop, ↓wSs, ↓wS, ↓wE, ↓wEs, ↓wI, ↓wIfs, ↓wO, ↓wTg, ↓wTgs, ↓reduceIte, ofS_eq, ofS_beq, String.reduceEq, String.reduceBEq, List.lookup_cons, List.lookup_nil, wipeD, startD, endD, nmO, List.map_cons, List.map_nil, List.cons_append, List.nil_append, List.append_nil, List.getElem?_cons_zero, List.getElem?_cons_succ, List.length_cons, List.length_nil, List.replicate_succ, List.replicate_zero, List.set_cons_zero, List.set_cons_succ, if_true, if_false, Bool.false_eq_true, reduceIte, Bool.not_true, Bool.not_false, wTru, tv, Nat.zero_add, Nat.reduceAdd, ci0, ci1, ci2, ci3, ci4, ci5, ci6, Nat.reduceSub, Nat.sub_self, Nat.le_refl, Nat.reduceLeDiff, sizeLine_eq, Nat.reduceLT, true_and, and_true, and_self, Bool.and_false, Bool.or_false, Bool.or_true, Bool.and_true, Bool.true_and, Bool.true_or, Bool.false_or, Bool.false_and, decide_true, decide_false, ne_eq, not_true_eq_false, not_false_eq_true, List.drop_zero, List.drop_nil, List.drop_succ_cons]
  have q9 := e9 _ _ q8
  simp only [wBf, lst_of_ q9]
  refine ⟨[.tuple [.str "bare", .tuple [.str "a", .int 0]], .tuple [.str "bare", .tuple [.str "a", .int 1]]], rfl, ?_, .inl ?_, by rw [sizeLine_eq]; simp, ?_, ?_⟩
  · have : ∀ p ∈ ([.tuple [.str "bare", .tuple [.str "a", .int 0]], .tuple [.str "bare", .tuple [.str "a", .int 1]]] : List PyData), ∀ q ∈ ([.tuple [.str "bare", .tuple [.str "a", .int 0]], .tuple [.str "bare", .tuple [.str "a", .int 1]]] : List PyData), PySem.W.alike p q = true := by
      intro p hp q hq
      simp only [List.mem_cons, List.not_mem_nil, or_false] at hp hq
      rcases hp with rfl | rfl <;> rcases hq with rfl | rfl <;> decide +kernel
    exact this
  · intro p hp
    simp only [List.mem_cons, List.not_mem_nil, or_false] at hp
    rcases hp with rfl | rfl <;> exact ⟨_, _, rfl⟩
  · intro p hp
    simp only [List.mem_cons, List.not_mem_nil, or_false] at hp
    rcases hp with rfl | rfl <;> decide +kernel
  · rw [List.mergeSort_of_pairwise]
    · exact wNew_of fun y S10 hy e10 g10 => hk S10 y ((E57.trans e9).trans e10) g10
    · refine List.Pairwise.cons (fun d hd => ?_) (List.pairwise_singleton _ _)
      simp only [List.mem_singleton] at hd
      subst hd
      rfl
end
end DL.K16

namespace DL.K16
open PySem PySem.Spec PyProof.Rows
section
variable (K : PySem.W.Frag) (n : Nat)
theorem c_lay {m : Int} {bo p a b c h q bc br bd ru kp : Addr} {S8 : Sto} {Kt_ : Kt} {X : KtE} (b1 : S8 bo = some (.ins (He.ga K "Board") [("wide", .int 2), ("high", .int 2), ("layers", .int 1), ("copper", .ref bc), ("drilled", .ref bd)])) (b2 : S8 bc = some (.lst [.ref br])) (b3 : S8 br = some (.lst [.int 0, .int 0])) (b4 : S8 bd = some (.lst [.int 0, .int 0]))
    (r8 : S8 ru = some (.ins (He.ga K "Rules") [("gap", .int 0), ("width", .int 1), ("rim", .int 0), ("keeps", .ref kp)]))
    (l1 : S8 p = some (.ins (He.ga K "Drawing") [("parts", .ref a), ("nets", .ref b), ("homes", .ref h)])) (l2 : S8 a = some (.lst [part 2])) (l3 : S8 b = some (.lst [.tup [.str "n", .ref c]])) (l4 : S8 c = some (.lst (pinsK 2))) (l6 : S8 q = some (.dct false true (placesOf m)))
    (hX : ∀ S', Ext S8 S' → X "NoLay" S') : wCall (feOf (GL K tab (n + 7)) d_lay_all) [.ref bo, .ref ru, .ref p, .ref q] S8 Kt_ X := by
  refine call_w rfl ?_
  simp only [d_lay_all, ↓wSs, ↓wS, ↓wE, ↓wEs, ↓wI, ↓wIfs, ↓wO, ↓wTg, ↓wTgs, ↓reduceIte, ofS_eq, ofS_beq, String.reduceEq, String.reduceBEq, List.lookup_cons, List.lookup_nil, wipeD, startD, endD, nmO, List.map_cons, List.map_nil, List.cons_append, List.nil_append, List.append_nil, List.getElem?_cons_zero, List.getElem?_cons_succ, List.length_cons, List.length_nil, List.replicate_succ, List.replicate_zero, List.set_cons_zero, List.set_cons_succ, if_true, if_false, Bool.false_eq_true, reduceIte, Bool.not_true, Bool.not_false, wTru, tv, Nat.zero_add, Nat.reduceAdd, ci0, ci1, ci2, ci3, ci4, ci5, ci6, Nat.reduceSub, Nat.sub_self, Nat.le_refl, Nat.reduceLeDiff, sizeLine_eq, Nat.reduceLT, true_and, and_true, and_self, Bool.and_false, Bool.or_false, Bool.or_true, Bool.and_true, Bool.true_and, Bool.true_or, Bool.false_or, Bool.false_and, decide_true, decide_false, ne_eq, not_true_eq_false, not_false_eq_true, List.drop_zero, List.drop_nil, List.drop_succ_cons, fn_checked_order]
  refine call_w rfl ?_
  simp only [d_checked_order, ↓wSs, ↓wS, ↓wE, ↓wEs, ↓wI, ↓wIfs, ↓wO, ↓wTg, ↓wTgs, ↓reduceIte, ofS_eq, ofS_beq, String.reduceEq, String.reduceBEq, List.lookup_cons, List.lookup_nil, wipeD, startD, endD, nmO, List.map_cons, List.map_nil, List.cons_append, List.nil_append, List.append_nil, List.getElem?_cons_zero, List.getElem?_cons_succ, List.length_cons, List.length_nil, List.replicate_succ, List.replicate_zero, List.set_cons_zero, List.set_cons_succ, if_true, if_false, Bool.false_eq_true, reduceIte, Bool.not_true, Bool.not_false, wTru, tv, Nat.zero_add, Nat.reduceAdd, ci0, ci1, ci2, ci3, ci4, ci5, ci6, Nat.reduceSub, Nat.sub_self, Nat.le_refl, Nat.reduceLeDiff, sizeLine_eq, Nat.reduceLT, true_and, and_true, and_self, Bool.and_false, Bool.or_false, Bool.or_true, Bool.and_true, Bool.true_and, Bool.true_or, Bool.false_or, Bool.false_and, decide_true, decide_false, ne_eq, not_true_eq_false, not_false_eq_true, List.drop_zero, List.drop_nil, List.drop_succ_cons, l1, at_Drawing_nets, wIter, lst_of_ l3]
  intro nm hnm
  refine wComp_of (fun S9 => Ext S8 S9) (fun _ => .str "n") (fun S9 e9 => lst_of_ (e9 _ _ l3)) (fun S9 m e9 => e9.put hnm) _ _ _ (fun d hd S9 R e9 hR => ?_) (Ext.refl.put hnm) put_same (by simp) (fun S9 e9 g9 => ?_)
  · simp only [List.mem_singleton] at hd
    subst hd
    exact wSub_tup atI_zero (hR _ e9 fun _ z => z)
  simp only [wCmp, ↓wSs, ↓wS, ↓wE, ↓wEs, ↓wI, ↓wIfs, ↓wO, ↓wTg, ↓wTgs, ↓reduceIte, ofS_eq, ofS_beq, String.reduceEq, String.reduceBEq, List.lookup_cons, List.lookup_nil, wipeD, startD, endD, nmO, List.map_cons, List.map_nil, List.cons_append, List.nil_append, List.append_nil, List.getElem?_cons_zero, List.getElem?_cons_succ, List.length_cons, List.length_nil, List.replicate_succ, List.replicate_zero, List.set_cons_zero, List.set_cons_succ, if_true, if_false, Bool.false_eq_true, reduceIte, Bool.not_true, Bool.not_false, wTru, tv, Nat.zero_add, Nat.reduceAdd, ci0, ci1, ci2, ci3, ci4, ci5, ci6, Nat.reduceSub, Nat.sub_self, Nat.le_refl, Nat.reduceLeDiff, sizeLine_eq, Nat.reduceLT, true_and, and_true, and_self, Bool.and_false, Bool.or_false, Bool.or_true, Bool.and_true, Bool.true_and, Bool.true_or, Bool.false_or, Bool.false_and, decide_true, decide_false, ne_eq, not_true_eq_false, not_false_eq_true, List.drop_zero, List.drop_nil, List.drop_succ_cons, fn_check_lay]
  refine call_w rfl ?_
  have r9 := e9 _ _ r8
  simp only [d_check_lay, ↓wSs, ↓wS, ↓wE, ↓wEs, ↓wI, ↓wIfs, ↓wO, ↓wTg, ↓wTgs, ↓reduceIte, ofS_eq, ofS_beq, String.reduceEq, String.reduceBEq, List.lookup_cons, List.lookup_nil, wipeD, startD, endD, nmO, List.map_cons, List.map_nil, List.cons_append, List.nil_append, List.append_nil, List.getElem?_cons_zero, List.getElem?_cons_succ, List.length_cons, List.length_nil, List.replicate_succ, List.replicate_zero, List.set_cons_zero, List.set_cons_succ, if_true, if_false, Bool.false_eq_true, reduceIte, Bool.not_true, Bool.not_false, wTru, tv, Nat.zero_add, Nat.reduceAdd, ci0, ci1, ci2, ci3, ci4, ci5, ci6, Nat.reduceSub, Nat.sub_self, Nat.le_refl, Nat.reduceLeDiff, sizeLine_eq, Nat.reduceLT, true_and, and_true, and_self, Bool.and_false, Bool.or_false, Bool.or_true, Bool.and_true, Bool.true_and, Bool.true_or, Bool.false_or, Bool.false_and, decide_true, decide_false, ne_eq, not_true_eq_false, not_false_eq_true, List.drop_zero, List.drop_nil, List.drop_succ_cons, r9, at_Rules_width, at_Rules_rim, wCmp, wEq, fn_against]
  have z1 := e9 _ _ b1
  have z2 := e9 _ _ b2
  have z3 := e9 _ _ b3
  have z4 := e9 _ _ b4
  have z5 := e9 _ _ l1
  have z6 := e9 _ _ l2
  have z7 := e9 _ _ l3
  have z8 := e9 _ _ l4
  have z9 : S9 q = some (.dct false true (placesOf m)) := e9 _ _ l6
  refine c_against K n (m := m) z1 z2 z3 z4 z5 z6 z7 z8 z9 fun S10 rw e10 g10 => ?_
  simp only [wIter, lst_of_ g10]
  intro fl hfl
  have key : ∀ d ∈ ([barePin 0, barePin 1] : List D), ∃ x, d = .tup [.str "bare", x] := by
    intro d hd
    simp only [List.mem_cons, List.not_mem_nil, or_false] at hd
    rcases hd with rfl | rfl <;> exact ⟨_, rfl⟩
  refine wComp_of (fun S' => Ext S10 S') (fun d => d) (fun S' e => lst_of_ (e _ _ g10)) (fun S' m e => e.put hfl) _ _ _ (fun d hd S11 R e11 hR => ?_) (Ext.refl.put hfl) put_same (by simp) (fun S11 e11 g11 => ?_)
  · obtain ⟨x, rfl⟩ := key d hd
    refine wSub_tup atI_zero ?_
    simp only [wCmp, wEq, ↓wSs, ↓wS, ↓wE, ↓wEs, ↓wI, ↓wIfs, ↓wO, ↓wTg, ↓wTgs, ↓reduceIte, ofS_eq, ofS_beq, String.reduceEq, String.reduceBEq, List.lookup_cons, List.lookup_nil, wipeD, startD, endD, nmO, List.map_cons, List.map_nil, List.cons_append, List.nil_append, List.append_nil, List.getElem?_cons_zero, List.getElem?_cons_succ, List.length_cons, List.length_nil, List.replicate_succ, List.replicate_zero, List.set_cons_zero, List.set_cons_succ, if_true, if_false, Bool.false_eq_true, reduceIte, Bool.not_true, Bool.not_false, wTru, tv, Nat.zero_add, Nat.reduceAdd, ci0, ci1, ci2, ci3, ci4, ci5, ci6, Nat.reduceSub, Nat.sub_self, Nat.le_refl, Nat.reduceLeDiff, sizeLine_eq, Nat.reduceLT, true_and, and_true, and_self, Bool.and_false, Bool.or_false, Bool.or_true, Bool.and_true, Bool.true_and, Bool.true_or, Bool.false_or, Bool.false_and, decide_true, decide_false, ne_eq, not_true_eq_false, not_false_eq_true, List.drop_zero, List.drop_nil, List.drop_succ_cons, ofS_eq, D.str.injEq, String.reduceEq]
    exact hR _ e11 fun _ z => z
  refine wNew_of fun z S12 hz e12 g12 => ?_
  have g11' : S12 fl = some (.lst [barePin 0, barePin 1]) := e12 _ _ g11
  refine ⟨.list [.tuple [.str "bare", .tuple [.str "a", .int 0]], .tuple [.str "bare", .tuple [.str "a", .int 1]]], .list [], ?_, ?_, by decide +kernel, by decide +kernel, ?_⟩
  · show (match lstAt S12 fl with | some ds => (pdl (pd 7 S12) ds).map PyData.list | none => none) = _
    rw [lst_of_ g11']; rfl
  · show (match lstAt S12 z with | some ds => (pdl (pd 7 S12) ds).map PyData.list | none => none) = _
    rw [lst_of_ g12]; rfl
  rw [show PyData.eqv (.list [.tuple [.str "bare", .tuple [.str "a", .int 0]], .tuple [.str "bare", .tuple [.str "a", .int 1]]]) (.list []) = false by decide +kernel]
  simp only [↓wSs, ↓wS, ↓wE, ↓wEs, ↓wI, ↓wIfs, ↓wO, ↓wTg, ↓wTgs, ↓reduceIte, ofS_eq, ofS_beq, String.reduceEq, String.reduceBEq, List.lookup_cons, List.lookup_nil, wipeD, startD, endD, nmO, List.map_cons, List.map_nil, List.cons_append, List.nil_append, List.append_nil, List.getElem?_cons_zero, List.getElem?_cons_succ, List.length_cons, List.length_nil, List.replicate_succ, List.replicate_zero, List.set_cons_zero, List.set_cons_succ, if_true, if_false, Bool.false_eq_true, reduceIte, Bool.not_true, Bool.not_false, wTru, tv, Nat.zero_add, Nat.reduceAdd, ci0, ci1, ci2, ci3, ci4, ci5, ci6, Nat.reduceSub, Nat.sub_self, Nat.le_refl, Nat.reduceLeDiff, sizeLine_eq, Nat.reduceLT, true_and, and_true, and_self, Bool.and_false, Bool.or_false, Bool.or_true, Bool.and_true, Bool.true_and, Bool.true_or, Bool.false_or, Bool.false_and, decide_true, decide_false, ne_eq, not_true_eq_false, not_false_eq_true, List.drop_zero, List.drop_nil, List.drop_succ_cons]
  exact hX _ ((((Ext.refl.trans e9).trans e10).trans e11).trans e12)
end
end DL.K16

namespace DL.K16
open PySem PySem.Spec PyProof.Rows
section
variable (K : PySem.W.Frag) (n : Nat)
theorem done2 {m : Int} (hm : 0 ≤ m) {S : Sto} {Kt_ : Kt} {X : KtE} (hX : ∀ S', Ext S S' → X "NoPlace" S') : wCall (feOf (GL K tab (n + 4)) d__law_done) [.int 2, .int m] S Kt_ X := by
  refine call_w rfl (skip rfl rfl (skip rfl rfl (take_ rfl (ret_ ?_))))
  simp only [↓wSs, ↓wS, ↓wE, ↓wEs, ↓wI, ↓wIfs, ↓wO, ↓wTg, ↓wTgs, ↓reduceIte, ofS_eq, ofS_beq, String.reduceEq, String.reduceBEq, List.lookup_cons, List.lookup_nil, wipeD, startD, endD, nmO, List.map_cons, List.map_nil, List.cons_append, List.nil_append, List.append_nil, List.getElem?_cons_zero, List.getElem?_cons_succ, List.length_cons, List.length_nil, List.replicate_succ, List.replicate_zero, List.set_cons_zero, List.set_cons_succ, if_true, if_false, Bool.false_eq_true, reduceIte, Bool.not_true, Bool.not_false, wTru, tv, Nat.zero_add, Nat.reduceAdd, Nat.reduceSub, Nat.sub_self, Nat.le_refl, Nat.reduceLeDiff, sizeLine_eq, Nat.reduceLT, true_and, and_true, and_self, List.drop_zero, List.drop_nil, List.drop_succ_cons, mk_Board]
  refine mkBoard K (n + 1) fun b S1 hb hE ⟨c, r0, d, h1, h2, h3, h4⟩ => ?_
  simp only [h1, mt_Board_drill, ↓wSs, ↓wS, ↓wE, ↓wEs, ↓wI, ↓wIfs, ↓wO, ↓wTg, ↓wTgs, ↓reduceIte, ofS_eq, ofS_beq, String.reduceEq, String.reduceBEq, List.lookup_cons, List.lookup_nil, wipeD, startD, endD, nmO, List.map_cons, List.map_nil, List.cons_append, List.nil_append, List.append_nil, List.getElem?_cons_zero, List.getElem?_cons_succ, List.length_cons, List.length_nil, List.replicate_succ, List.replicate_zero, List.set_cons_zero, List.set_cons_succ, if_true, if_false, Bool.false_eq_true, reduceIte, Bool.not_true, Bool.not_false, wTru, tv, Nat.zero_add, Nat.reduceAdd, Nat.reduceSub, Nat.sub_self, Nat.le_refl, Nat.reduceLeDiff, sizeLine_eq, Nat.reduceLT, true_and, and_true, and_self, List.drop_zero, List.drop_nil, List.drop_succ_cons, wBin]
  refine call_w rfl ?_
  simp only [d_Board_drill, ↓wSs, ↓wS, ↓wE, ↓wEs, ↓wI, ↓wIfs, ↓wO, ↓wTg, ↓wTgs, ↓reduceIte, ofS_eq, ofS_beq, String.reduceEq, String.reduceBEq, List.lookup_cons, List.lookup_nil, wipeD, startD, endD, nmO, List.map_cons, List.map_nil, List.cons_append, List.nil_append, List.append_nil, List.getElem?_cons_zero, List.getElem?_cons_succ, List.length_cons, List.length_nil, List.replicate_succ, List.replicate_zero, List.set_cons_zero, List.set_cons_succ, if_true, if_false, Bool.false_eq_true, reduceIte, Bool.not_true, Bool.not_false, wTru, tv, Nat.zero_add, Nat.reduceAdd, Nat.reduceSub, Nat.sub_self, Nat.le_refl, Nat.reduceLeDiff, sizeLine_eq, Nat.reduceLT, true_and, and_true, and_self, List.drop_zero, List.drop_nil, List.drop_succ_cons, h1, mt_Board_check, wNew]
  intro q hq
  have hbq : b ≠ q := fun e => by rw [← e, h1] at hq; cases hq
  have h1' : ∀ mo, put S1 q mo b = some (.ins (He.ga K "Board") [("wide", .int 2), ("high", .int 2), ("layers", .int 1), ("copper", .ref c), ("drilled", .ref d)]) := fun mo => by rw [put_ne hbq]; exact h1
  refine call_w rfl ?_
  simp only [d_Board_check, ↓wSs, ↓wS, ↓wE, ↓wEs, ↓wI, ↓wIfs, ↓wO, ↓wTg, ↓wTgs, ↓reduceIte, ofS_eq, ofS_beq, String.reduceEq, String.reduceBEq, List.lookup_cons, List.lookup_nil, wipeD, startD, endD, nmO, List.map_cons, List.map_nil, List.cons_append, List.nil_append, List.append_nil, List.getElem?_cons_zero, List.getElem?_cons_succ, List.length_cons, List.length_nil, List.replicate_succ, List.replicate_zero, List.set_cons_zero, List.set_cons_succ, if_true, if_false, Bool.false_eq_true, reduceIte, Bool.not_true, Bool.not_false, wTru, tv, Nat.zero_add, Nat.reduceAdd, Nat.reduceSub, Nat.sub_self, Nat.le_refl, Nat.reduceLeDiff, sizeLine_eq, Nat.reduceLT, true_and, and_true, and_self, List.drop_zero, List.drop_nil, List.drop_succ_cons, wIter, lstAt, put_same, wLoop, h1', mt_Board_is_square]
  refine call_w rfl ?_
  simp only [d_Board_is_square, ↓wSs, ↓wS, ↓wE, ↓wEs, ↓wI, ↓wIfs, ↓wO, ↓wTg, ↓wTgs, ↓reduceIte, ofS_eq, ofS_beq, String.reduceEq, String.reduceBEq, List.lookup_cons, List.lookup_nil, wipeD, startD, endD, nmO, List.map_cons, List.map_nil, List.cons_append, List.nil_append, List.append_nil, List.getElem?_cons_zero, List.getElem?_cons_succ, List.length_cons, List.length_nil, List.replicate_succ, List.replicate_zero, List.set_cons_zero, List.set_cons_succ, if_true, if_false, Bool.false_eq_true, reduceIte, Bool.not_true, Bool.not_false, wTru, tv, Nat.zero_add, Nat.reduceAdd, Nat.reduceSub, Nat.sub_self, Nat.le_refl, Nat.reduceLeDiff, sizeLine_eq, Nat.reduceLT, true_and, and_true, and_self, List.drop_zero, List.drop_nil, List.drop_succ_cons, h1', wCmp, wLe, wLt, at_Board_wide, at_Board_high, show (0 ≤ 2 + m) by omega, show ¬ (2 + m < 2) by omega, decide_true, decide_false]
  exact hX _ (hE.put (hE.none_ hq))
end
end DL.K16

namespace DL.K16
open PySem PySem.Spec PyProof.Rows
section
variable (K : PySem.W.Frag) (n : Nat)
theorem done3 {m : Int} (hm : 0 ≤ m) {S : Sto} {Kt_ : Kt} {X : KtE} (hX : ∀ S', Ext S S' → X "NoPicture" S') : wCall (feOf (GL K tab (n + 4)) d__law_done) [.int 3, .int m] S Kt_ X := by
  refine call_w rfl (skip rfl rfl (skip rfl rfl (skip rfl rfl (take_ rfl (ret_ ?_)))))
  simp only [↓wSs, ↓wS, ↓wE, ↓wEs, ↓wI, ↓wIfs, ↓wO, ↓wTg, ↓wTgs, ↓reduceIte, ofS_eq, ofS_beq, String.reduceEq, String.reduceBEq, List.lookup_cons, List.lookup_nil, wipeD, startD, endD, nmO, List.map_cons, List.map_nil, List.cons_append, List.nil_append, List.append_nil, List.getElem?_cons_zero, List.getElem?_cons_succ, List.length_cons, List.length_nil, List.replicate_succ, List.replicate_zero, List.set_cons_zero, List.set_cons_succ, if_true, if_false, Bool.false_eq_true, reduceIte, Bool.not_true, Bool.not_false, wTru, tv, Nat.zero_add, Nat.reduceAdd, Nat.reduceSub, Nat.sub_self, Nat.le_refl, Nat.reduceLeDiff, sizeLine_eq, Nat.reduceLT, true_and, and_true, and_self, Bool.and_false, Bool.or_false, Bool.or_true, Bool.and_true, Bool.true_and, Bool.true_or, Bool.false_or, Bool.false_and, decide_true, decide_false, ne_eq, not_true_eq_false, not_false_eq_true, List.drop_zero, List.drop_nil, List.drop_succ_cons, wBin, fn_read_picture]
  have h5 : m % 5 = 0 ∨ m % 5 = 1 ∨ m % 5 = 2 ∨ m % 5 = 3 ∨ m % 5 = 4 := by omega
  have key : ∀ x : Str, Txt.endswith x "\n" = false → wCall (feOf (GL K tab (n + 3)) d_read_picture) [D.str x] S Kt_ fun x S1 => X x S1 := fun x hx => by
    refine call_w rfl ?_
    simp only [d_read_picture, ↓wSs, ↓wS, ↓wE, ↓wEs, ↓wI, ↓wIfs, ↓wO, ↓wTg, ↓wTgs, ↓reduceIte, ofS_eq, ofS_beq, String.reduceEq, String.reduceBEq, List.lookup_cons, List.lookup_nil, wipeD, startD, endD, nmO, List.map_cons, List.map_nil, List.cons_append, List.nil_append, List.append_nil, List.getElem?_cons_zero, List.getElem?_cons_succ, List.length_cons, List.length_nil, List.replicate_succ, List.replicate_zero, List.set_cons_zero, List.set_cons_succ, if_true, if_false, Bool.false_eq_true, reduceIte, Bool.not_true, Bool.not_false, wTru, tv, Nat.zero_add, Nat.reduceAdd, Nat.reduceSub, Nat.sub_self, Nat.le_refl, Nat.reduceLeDiff, sizeLine_eq, Nat.reduceLT, true_and, and_true, and_self, Bool.and_false, Bool.or_false, Bool.or_true, Bool.and_true, Bool.true_and, Bool.true_or, Bool.false_or, Bool.false_and, decide_true, decide_false, ne_eq, not_true_eq_false, not_false_eq_true, List.drop_zero, List.drop_nil, List.drop_succ_cons, fn_sure, tyOf, isTy, Bool.or_false, bty, mT, wBm, Bool.false_or, hx]
    refine call_w rfl ?_
    simp only [d_sure, ↓wSs, ↓wS, ↓wE, ↓wEs, ↓wI, ↓wIfs, ↓wO, ↓wTg, ↓wTgs, ↓reduceIte, ofS_eq, ofS_beq, String.reduceEq, String.reduceBEq, List.lookup_cons, List.lookup_nil, wipeD, startD, endD, nmO, List.map_cons, List.map_nil, List.cons_append, List.nil_append, List.append_nil, List.getElem?_cons_zero, List.getElem?_cons_succ, List.length_cons, List.length_nil, List.replicate_succ, List.replicate_zero, List.set_cons_zero, List.set_cons_succ, if_true, if_false, Bool.false_eq_true, reduceIte, Bool.not_true, Bool.not_false, wTru, tv, Nat.zero_add, Nat.reduceAdd, Nat.reduceSub, Nat.sub_self, Nat.le_refl, Nat.reduceLeDiff, sizeLine_eq, Nat.reduceLT, true_and, and_true, and_self, Bool.and_false, Bool.or_false, Bool.or_true, Bool.and_true, Bool.true_and, Bool.true_or, Bool.false_or, Bool.false_and, decide_true, decide_false, ne_eq, not_true_eq_false, not_false_eq_true, List.drop_zero, List.drop_nil, List.drop_succ_cons]
    exact hX _ Ext.refl
  rcases h5 with e | e | e | e | e <;> rw [e] <;> exact ⟨by decide, by decide, by decide, by decide +kernel, by decide +kernel, key _ (by decide +kernel)⟩
end
end DL.K16

namespace DL.K16
open PySem PySem.Spec PyProof.Rows
section
variable (K : PySem.W.Frag) (n : Nat)
theorem done4 {m : Int} (hm : 0 ≤ m) {S : Sto} {Kt_ : Kt} {X : KtE} (hX : ∀ S', Ext S S' → X "NoCopper" S') : wCall (feOf (GL K tab (n + 4)) d__law_done) [.int 4, .int m] S Kt_ X := by
  refine call_w rfl (skip rfl rfl (skip rfl rfl (skip rfl rfl (skip rfl rfl (take_ rfl (ret_ ?_))))))
  simp only [↓wSs, ↓wS, ↓wE, ↓wEs, ↓wI, ↓wIfs, ↓wO, ↓wTg, ↓wTgs, ↓reduceIte, ofS_eq, ofS_beq, String.reduceEq, String.reduceBEq, List.lookup_cons, List.lookup_nil, wipeD, startD, endD, nmO, List.map_cons, List.map_nil, List.cons_append, List.nil_append, List.append_nil, List.getElem?_cons_zero, List.getElem?_cons_succ, List.length_cons, List.length_nil, List.replicate_succ, List.replicate_zero, List.set_cons_zero, List.set_cons_succ, if_true, if_false, Bool.false_eq_true, reduceIte, Bool.not_true, Bool.not_false, wTru, tv, Nat.zero_add, Nat.reduceAdd, Nat.reduceSub, Nat.sub_self, Nat.le_refl, Nat.reduceLeDiff, sizeLine_eq, Nat.reduceLT, true_and, and_true, and_self, List.drop_zero, List.drop_nil, List.drop_succ_cons, mk_Board, fn_near, wBin]
  refine mkBoard K (n + 1) fun b S1 hb hE ⟨c, r0, d, h1, h2, h3, h4⟩ => ?_
  refine ⟨by omega, call_w rfl ?_⟩
  simp only [d_near, ↓wSs, ↓wS, ↓wE, ↓wEs, ↓wI, ↓wIfs, ↓wO, ↓wTg, ↓wTgs, ↓reduceIte, ofS_eq, ofS_beq, String.reduceEq, String.reduceBEq, List.lookup_cons, List.lookup_nil, wipeD, startD, endD, nmO, List.map_cons, List.map_nil, List.cons_append, List.nil_append, List.append_nil, List.getElem?_cons_zero, List.getElem?_cons_succ, List.length_cons, List.length_nil, List.replicate_succ, List.replicate_zero, List.set_cons_zero, List.set_cons_succ, if_true, if_false, Bool.false_eq_true, reduceIte, Bool.not_true, Bool.not_false, wTru, tv, Nat.zero_add, Nat.reduceAdd, Nat.reduceSub, Nat.sub_self, Nat.le_refl, Nat.reduceLeDiff, sizeLine_eq, Nat.reduceLT, true_and, and_true, and_self, List.drop_zero, List.drop_nil, List.drop_succ_cons, fn_check_copper]
  refine call_w rfl ?_
  simp only [d_check_copper, ↓wSs, ↓wS, ↓wE, ↓wEs, ↓wI, ↓wIfs, ↓wO, ↓wTg, ↓wTgs, ↓reduceIte, ofS_eq, ofS_beq, String.reduceEq, String.reduceBEq, List.lookup_cons, List.lookup_nil, wipeD, startD, endD, nmO, List.map_cons, List.map_nil, List.cons_append, List.nil_append, List.append_nil, List.getElem?_cons_zero, List.getElem?_cons_succ, List.length_cons, List.length_nil, List.replicate_succ, List.replicate_zero, List.set_cons_zero, List.set_cons_succ, if_true, if_false, Bool.false_eq_true, reduceIte, Bool.not_true, Bool.not_false, wTru, tv, Nat.zero_add, Nat.reduceAdd, Nat.reduceSub, Nat.sub_self, Nat.le_refl, Nat.reduceLeDiff, sizeLine_eq, Nat.reduceLT, true_and, and_true, and_self, List.drop_zero, List.drop_nil, List.drop_succ_cons, h1, mt_Board_is_copper]
  refine wSub_tup rfl (wSub_tup rfl (wSub_tup rfl ?_))
  refine call_w rfl ?_
  have e2 : m % 2 = 0 ∨ m % 2 = 1 := by omega
  simp only [d_Board_is_copper, ↓wSs, ↓wS, ↓wE, ↓wEs, ↓wI, ↓wIfs, ↓wO, ↓wTg, ↓wTgs, ↓reduceIte, ofS_eq, ofS_beq, String.reduceEq, String.reduceBEq, List.lookup_cons, List.lookup_nil, wipeD, startD, endD, nmO, List.map_cons, List.map_nil, List.cons_append, List.nil_append, List.append_nil, List.getElem?_cons_zero, List.getElem?_cons_succ, List.length_cons, List.length_nil, List.replicate_succ, List.replicate_zero, List.set_cons_zero, List.set_cons_succ, if_true, if_false, Bool.false_eq_true, reduceIte, Bool.not_true, Bool.not_false, wTru, tv, Nat.zero_add, Nat.reduceAdd, Nat.reduceSub, Nat.sub_self, Nat.le_refl, Nat.reduceLeDiff, sizeLine_eq, Nat.reduceLT, true_and, and_true, and_self, List.drop_zero, List.drop_nil, List.drop_succ_cons, h1, mt_Board_is_square]
  refine call_w rfl ?_
  simp only [d_Board_is_square, ↓wSs, ↓wS, ↓wE, ↓wEs, ↓wI, ↓wIfs, ↓wO, ↓wTg, ↓wTgs, ↓reduceIte, ofS_eq, ofS_beq, String.reduceEq, String.reduceBEq, List.lookup_cons, List.lookup_nil, wipeD, startD, endD, nmO, List.map_cons, List.map_nil, List.cons_append, List.nil_append, List.append_nil, List.getElem?_cons_zero, List.getElem?_cons_succ, List.length_cons, List.length_nil, List.replicate_succ, List.replicate_zero, List.set_cons_zero, List.set_cons_succ, if_true, if_false, Bool.false_eq_true, reduceIte, Bool.not_true, Bool.not_false, wTru, tv, Nat.zero_add, Nat.reduceAdd, Nat.reduceSub, Nat.sub_self, Nat.le_refl, Nat.reduceLeDiff, sizeLine_eq, Nat.reduceLT, true_and, and_true, and_self, List.drop_zero, List.drop_nil, List.drop_succ_cons, h1, wCmp, wLe, wLt, at_Board_wide, at_Board_high, at_Board_layers, at_Board_copper, Int.reduceLE, Int.reduceLT, show (0 ≤ m % 2) by omega, show (m % 2 < 2) by omega, decide_true, decide_false]
  refine wSub_lst h2 rfl (wSub_lst h3 rfl ?_)
  have e3 : (0 : Int) / 2 ^ (m % 2).toNat = 0 := by rcases e2 with e | e <;> rw [e] <;> decide
  simp only [wBin, ↓wSs, ↓wS, ↓wE, ↓wEs, ↓wI, ↓wIfs, ↓wO, ↓wTg, ↓wTgs, ↓reduceIte, ofS_eq, ofS_beq, String.reduceEq, String.reduceBEq, List.lookup_cons, List.lookup_nil, wipeD, startD, endD, nmO, List.map_cons, List.map_nil, List.cons_append, List.nil_append, List.append_nil, List.getElem?_cons_zero, List.getElem?_cons_succ, List.length_cons, List.length_nil, List.replicate_succ, List.replicate_zero, List.set_cons_zero, List.set_cons_succ, if_true, if_false, Bool.false_eq_true, reduceIte, Bool.not_true, Bool.not_false, wTru, tv, Nat.zero_add, Nat.reduceAdd, Nat.reduceSub, Nat.sub_self, Nat.le_refl, Nat.reduceLeDiff, sizeLine_eq, Nat.reduceLT, true_and, and_true, and_self, List.drop_zero, List.drop_nil, List.drop_succ_cons, wCmp, wEq, e3, show Builtin.bitAnd 0 1 = 0 by decide +kernel, Int.reduceEq, decide_false]
  exact ⟨by omega, hX _ hE⟩
end
end DL.K16

namespace DL.K16
open PySem PySem.Spec PyProof.Rows
section
variable (K : PySem.W.Frag) (n : Nat)
theorem done5 {m : Int} (hm : 0 ≤ m) {S : Sto} {Kt_ : Kt} {X : KtE} (hX : ∀ S', Ext S S' → X "NoRules" S') : wCall (feOf (GL K tab (n + 4)) d__law_done) [.int 5, .int m] S Kt_ X := by
  refine call_w rfl (skip rfl rfl (skip rfl rfl (skip rfl rfl (skip rfl rfl (skip rfl rfl (take_ rfl (ret_ ?_)))))))
  simp only [↓wSs, ↓wS, ↓wE, ↓wEs, ↓wI, ↓wIfs, ↓wO, ↓wTg, ↓wTgs, ↓reduceIte, ofS_eq, ofS_beq, String.reduceEq, String.reduceBEq, wipeD, startD, endD, nmO, List.map_cons, List.map_nil, List.cons_append, List.nil_append, List.append_nil, List.getElem?_cons_zero, List.getElem?_cons_succ, List.length_cons, List.length_nil, List.replicate_succ, List.replicate_zero, List.set_cons_zero, List.set_cons_succ, if_true, if_false, Bool.false_eq_true, reduceIte, Bool.not_true, Bool.not_false, wTru, tv, Nat.zero_add, Nat.reduceAdd, Nat.reduceSub, Nat.sub_self, Nat.le_refl, Nat.reduceLeDiff, sizeLine_eq, Nat.reduceLT, true_and, and_true, and_self, List.drop_zero, List.drop_nil, List.drop_succ_cons, mk_Rules, wBin, wNew]
  intro q hq p hp
  refine call_w rfl ?_
  simp only [d_Rules_init, ↓wSs, ↓wS, ↓wE, ↓wEs, ↓wI, ↓wIfs, ↓wO, ↓wTg, ↓wTgs, ↓reduceIte, ofS_eq, ofS_beq, String.reduceEq, String.reduceBEq, wipeD, startD, endD, nmO, List.map_cons, List.map_nil, List.cons_append, List.nil_append, List.append_nil, List.getElem?_cons_zero, List.getElem?_cons_succ, List.length_cons, List.length_nil, List.replicate_succ, List.replicate_zero, List.set_cons_zero, List.set_cons_succ, if_true, if_false, Bool.false_eq_true, reduceIte, Bool.not_true, Bool.not_false, wTru, tv, Nat.zero_add, Nat.reduceAdd, Nat.reduceSub, Nat.sub_self, Nat.le_refl, Nat.reduceLeDiff, sizeLine_eq, Nat.reduceLT, true_and, and_true, and_self, List.drop_zero, List.drop_nil, List.drop_succ_cons, fn_within]
  refine call_w rfl ?_
  simp only [d_within, ↓wSs, ↓wS, ↓wE, ↓wEs, ↓wI, ↓wIfs, ↓wO, ↓wTg, ↓wTgs, ↓reduceIte, ofS_eq, ofS_beq, String.reduceEq, String.reduceBEq, wipeD, startD, endD, nmO, List.map_cons, List.map_nil, List.cons_append, List.nil_append, List.append_nil, List.getElem?_cons_zero, List.getElem?_cons_succ, List.length_cons, List.length_nil, List.replicate_succ, List.replicate_zero, List.set_cons_zero, List.set_cons_succ, if_true, if_false, Bool.false_eq_true, reduceIte, Bool.not_true, Bool.not_false, wTru, tv, Nat.zero_add, Nat.reduceAdd, Nat.reduceSub, Nat.sub_self, Nat.le_refl, Nat.reduceLeDiff, sizeLine_eq, Nat.reduceLT, true_and, and_true, and_self, List.drop_zero, List.drop_nil, List.drop_succ_cons, fn_is_whole]
  refine c_whole K (n + 1) rfl ?_
  simp only [isW, ↓wSs, ↓wS, ↓wE, ↓wEs, ↓wI, ↓wIfs, ↓wO, ↓wTg, ↓wTgs, ↓reduceIte, ofS_eq, ofS_beq, String.reduceEq, String.reduceBEq, wipeD, startD, endD, nmO, List.map_cons, List.map_nil, List.cons_append, List.nil_append, List.append_nil, List.getElem?_cons_zero, List.getElem?_cons_succ, List.length_cons, List.length_nil, List.replicate_succ, List.replicate_zero, List.set_cons_zero, List.set_cons_succ, if_true, if_false, Bool.false_eq_true, reduceIte, Bool.not_true, Bool.not_false, wTru, tv, Nat.zero_add, Nat.reduceAdd, Nat.reduceSub, Nat.sub_self, Nat.le_refl, Nat.reduceLeDiff, sizeLine_eq, Nat.reduceLT, true_and, and_true, and_self, List.drop_zero, List.drop_nil, List.drop_succ_cons, wCmp, wLe, Int.reduceLE, decide_true, decide_false, show ¬ (3 + m ≤ 2) by omega, show (0 ≤ 3 + m) by omega]
  rw [put_none] at hp
  exact hX _ ((Ext.refl.put hq).put hp.2)
end
end DL.K16

namespace DL.K16
open PySem PySem.Spec PyProof.Rows
section
variable (K : PySem.W.Frag) (n : Nat)
theorem done6 {m : Int} (hm : 0 ≤ m) {S : Sto} {Kt_ : Kt} {X : KtE} (hX : ∀ S', Ext S S' → X "NoDrawing" S') : wCall (feOf (GL K tab (n + 7)) d__law_done) [.int 6, .int m] S Kt_ X := by
  refine call_w rfl (skip rfl rfl (skip rfl rfl (skip rfl rfl (skip rfl rfl (skip rfl rfl (skip rfl rfl (take_ rfl (ret_ ?_))))))))
  obtain ⟨k, hk⟩ : ∃ k : Nat, 1 + m % 8 = (k : Int) := ⟨(1 + m % 8).toNat, by omega⟩
  have hk8 : 1 ≤ k ∧ k ≤ 8 := by omega
  simp only [↓wSs, ↓wS, ↓wE, ↓wEs, ↓wI, ↓wIfs, ↓wO, ↓wTg, ↓wTgs, ↓reduceIte, ofS_eq, ofS_beq, String.reduceEq, String.reduceBEq, List.lookup_cons, List.lookup_nil, wipeD, startD, endD, nmO, List.map_cons, List.map_nil, List.cons_append, List.nil_append, List.append_nil, List.getElem?_cons_zero, List.getElem?_cons_succ, List.length_cons, List.length_nil, List.replicate_succ, List.replicate_zero, List.set_cons_zero, List.set_cons_succ, if_true, if_false, Bool.false_eq_true, reduceIte, Bool.not_true, Bool.not_false, wTru, tv, Nat.zero_add, Nat.reduceAdd, ci0, ci1, ci2, ci3, ci4, ci5, ci6, Nat.reduceSub, Nat.sub_self, Nat.le_refl, Nat.reduceLeDiff, sizeLine_eq, Nat.reduceLT, true_and, and_true, and_self, Bool.and_false, Bool.or_false, Bool.or_true, Bool.and_true, Bool.true_and, Bool.true_or, Bool.false_or, Bool.false_and, decide_true, decide_false, ne_eq, not_true_eq_false, not_false_eq_true, List.drop_zero, List.drop_nil, List.drop_succ_cons, wBin, mk_Drawing, hk]
  refine ⟨by omega, ?_⟩
  refine wNew_of fun q1 S1 h1 e1 g1 => wNew_of fun q3 S3 h3 e3 g3 => fun p hp => ?_
  have s1 := e3 _ _ g1
  have e0 : Ext S (put S3 p (.ins (He.ga K "Drawing") [])) := (e1.trans e3).trans (Ext.new hp)
  have sp : S p = none := (e1.trans e3).none_ hp
  have h1p : q1 ≠ p := fun e => by rw [e, hp] at s1; cases s1
  have h3p : q3 ≠ p := fun e => by rw [e, hp] at g3; cases g3
  have g4 : put S3 p (.ins (He.ga K "Drawing") []) p = some (.ins (He.ga K "Drawing") []) := put_same
  have g1 : put S3 p (.ins (He.ga K "Drawing") []) q1 = some (.lst [.tup [.str "a", .str "r", .int k]]) := by rw [put_ne h1p]; exact s1
  have g3 : put S3 p (.ins (He.ga K "Drawing") []) q3 = some (.lst []) := by rw [put_ne h3p]; exact g3
  generalize put S3 p (.ins (He.ga K "Drawing") []) = S0 at *
  refine call_w rfl ?_
  simp only [d_Drawing_init, ↓wSs, ↓wS, ↓wE, ↓wEs, ↓wI, ↓wIfs, ↓wO, ↓wTg, ↓wTgs, ↓reduceIte, ofS_eq, ofS_beq, String.reduceEq, String.reduceBEq, List.lookup_cons, List.lookup_nil, wipeD, startD, endD, nmO, List.map_cons, List.map_nil, List.cons_append, List.nil_append, List.append_nil, List.getElem?_cons_zero, List.getElem?_cons_succ, List.length_cons, List.length_nil, List.replicate_succ, List.replicate_zero, List.set_cons_zero, List.set_cons_succ, if_true, if_false, Bool.false_eq_true, reduceIte, Bool.not_true, Bool.not_false, wTru, tv, Nat.zero_add, Nat.reduceAdd, ci0, ci1, ci2, ci3, ci4, ci5, ci6, Nat.reduceSub, Nat.sub_self, Nat.le_refl, Nat.reduceLeDiff, sizeLine_eq, Nat.reduceLT, true_and, and_true, and_self, Bool.and_false, Bool.or_false, Bool.or_true, Bool.and_true, Bool.true_and, Bool.true_or, Bool.false_or, Bool.false_and, decide_true, decide_false, ne_eq, not_true_eq_false, not_false_eq_true, List.drop_zero, List.drop_nil, List.drop_succ_cons, wBf, lst_of_ g1, lst_of_ g3, va_MOST_PARTS, va_MOST_NETS, wCmp, wGt, Int.reduceLT, fn_check_kinds]
  refine c_check_kinds K (n + 3) (lst_of_ g1) (by simp) (fun d hd => ?_) (lst_of_ g3) (by simp) (fun d hd => by cases hd) fun S1 e1 => ?_
  · simp only [List.mem_singleton] at hd
    subst hd
    exact ⟨_, rfl, rfl⟩
  have k1 := e1 _ _ g1
  have k3 := e1 _ _ g3
  have k4 := e1 _ _ g4
  simp only [fn_check_names, ↓wSs, ↓wS, ↓wE, ↓wEs, ↓wI, ↓wIfs, ↓wO, ↓wTg, ↓wTgs, ↓reduceIte, ofS_eq, ofS_beq, String.reduceEq, String.reduceBEq, List.lookup_cons, List.lookup_nil, wipeD, startD, endD, nmO, List.map_cons, List.map_nil, List.cons_append, List.nil_append, List.append_nil, List.getElem?_cons_zero, List.getElem?_cons_succ, List.length_cons, List.length_nil, List.replicate_succ, List.replicate_zero, List.set_cons_zero, List.set_cons_succ, if_true, if_false, Bool.false_eq_true, reduceIte, Bool.not_true, Bool.not_false, wTru, tv, Nat.zero_add, Nat.reduceAdd, ci0, ci1, ci2, ci3, ci4, ci5, ci6, Nat.reduceSub, Nat.sub_self, Nat.le_refl, Nat.reduceLeDiff, sizeLine_eq, Nat.reduceLT, true_and, and_true, and_self, Bool.and_false, Bool.or_false, Bool.or_true, Bool.and_true, Bool.true_and, Bool.true_or, Bool.false_or, Bool.false_and, decide_true, decide_false, ne_eq, not_true_eq_false, not_false_eq_true, List.drop_zero, List.drop_nil, List.drop_succ_cons, wIter, lst_of_ k1]
  intro r hr
  refine wComp_of (fun S2 => Ext S1 S2) (fun _ => .str "a") (fun S2 e2 => lst_of_ (e2 _ _ k1)) (fun S2 m e2 => e2.put hr) _ _ _ (fun d hd S2 R e2 hR => ?_) (Ext.refl.put hr) put_same (by simp) (fun S2 e2 h2 => ?_)
  · simp only [List.mem_singleton] at hd
    subst hd
    exact wSub_tup atI_zero (hR _ e2 fun _ z => z)
  refine c_check_names K (n + 4) (xs := ["a"]) (lst_of_ h2) (fun x hx S Kt_ X h => by simp only [List.mem_singleton] at hx; subst hx; exact name_a K (n + 4) h) (by simp) fun S3 e3 => ?_
  have e13 := e2.trans e3
  simp only [lst_of_ (e13 _ _ k3)]
  intro r2 hr2
  refine wComp_of (fun S4 => Ext S3 S4) (fun _ => .str "n") (fun S4 e4 => lst_of_ (e4 _ _ (e13 _ _ k3))) (fun S4 m e4 => e4.put hr2) _ _ _ (fun d hd S4 R e4 hR => by cases hd) (Ext.refl.put hr2) put_same (by simp) (fun S4 e4 h4 => ?_)
  refine c_check_names K (n + 4) (xs := []) (lst_of_ h4) (fun x hx => by cases hx) (by simp) fun S5 e5 => ?_
  have e15 := (e13.trans e4).trans e5
  have m1 := e15 _ _ k1
  have m3 := e15 _ _ k3
  have m4 := e15 _ _ k4
  have e05 := (e0.trans e1).trans e15
  clear k1 k3 k4 h2 h4 hr hr2 e1 e2 e3 e4 e5 e13 e15
  simp only [lst_of_ m1]
  intro a ha
  have ap : a ≠ p := fun e => by rw [e, m4] at ha; cases ha
  refine wComp_of (fun S6 => Ext S5 S6) (fun d => d) (fun S6 e6 => lst_of_ (e6 _ _ m1)) (fun S6 m e6 => e6.put ha) _ _ _ (fun d hd S6 R e6 hR => ?_) (Ext.refl.put ha) put_same (by simp) (fun S6 e6 h6 => ?_)
  · simp only [List.mem_singleton] at hd
    subst hd
    simp only [↓wSs, ↓wS, ↓wE, ↓wEs, ↓wI, ↓wIfs, ↓wO, ↓wTg, ↓wTgs, ↓reduceIte, ofS_eq, ofS_beq, String.reduceEq, String.reduceBEq, List.lookup_cons, List.lookup_nil, wipeD, startD, endD, nmO, List.map_cons, List.map_nil, List.cons_append, List.nil_append, List.append_nil, List.getElem?_cons_zero, List.getElem?_cons_succ, List.length_cons, List.length_nil, List.replicate_succ, List.replicate_zero, List.set_cons_zero, List.set_cons_succ, if_true, if_false, Bool.false_eq_true, reduceIte, Bool.not_true, Bool.not_false, wTru, tv, Nat.zero_add, Nat.reduceAdd, ci0, ci1, ci2, ci3, ci4, ci5, ci6, Nat.reduceSub, Nat.sub_self, Nat.le_refl, Nat.reduceLeDiff, sizeLine_eq, Nat.reduceLT, true_and, and_true, and_self, Bool.and_false, Bool.or_false, Bool.or_true, Bool.and_true, Bool.true_and, Bool.true_or, Bool.false_or, Bool.false_and, decide_true, decide_false, ne_eq, not_true_eq_false, not_false_eq_true, List.drop_zero, List.drop_nil, List.drop_succ_cons, wBf]
    exact hR _ e6 fun _ z => z
  simp only [e6 _ _ m4, ↓wSs, ↓wS, ↓wE, ↓wEs, ↓wI, ↓wIfs, ↓wO, ↓wTg, ↓wTgs, ↓reduceIte, ofS_eq, ofS_beq, String.reduceEq, String.reduceBEq, List.lookup_cons, List.lookup_nil, wipeD, startD, endD, nmO, List.map_cons, List.map_nil, List.cons_append, List.nil_append, List.append_nil, List.getElem?_cons_zero, List.getElem?_cons_succ, List.length_cons, List.length_nil, List.replicate_succ, List.replicate_zero, List.set_cons_zero, List.set_cons_succ, if_true, if_false, Bool.false_eq_true, reduceIte, Bool.not_true, Bool.not_false, wTru, tv, Nat.zero_add, Nat.reduceAdd, ci0, ci1, ci2, ci3, ci4, ci5, ci6, Nat.reduceSub, Nat.sub_self, Nat.le_refl, Nat.reduceLeDiff, sizeLine_eq, Nat.reduceLT, true_and, and_true, and_self, Bool.and_false, Bool.or_false, Bool.or_true, Bool.and_true, Bool.true_and, Bool.true_or, Bool.false_or, Bool.false_and, decide_true, decide_false, ne_eq, not_true_eq_false, not_false_eq_true, List.drop_zero, List.drop_nil, List.drop_succ_cons, at_Drawing_parts, putD]
  have e06 := e05.trans e6
  have n1 := e6 _ _ m1
  have n3 := e6 _ _ m3
  have ex : S6 a = some (.lst [.tup [.str "a", .str "r", .int k]]) := by rw [h6]; rfl
  have t3 : put S6 p (.ins (He.ga K "Drawing") [("parts", .ref a)]) q3 = some (.lst []) := by rw [put_ne h3p]; exact n3
  have t4 : put S6 p (.ins (He.ga K "Drawing") [("parts", .ref a)]) p = some (.ins (He.ga K "Drawing") [("parts", .ref a)]) := put_same
  have t5 : put S6 p (.ins (He.ga K "Drawing") [("parts", .ref a)]) a = some (.lst [.tup [.str "a", .str "r", .int k]]) := by rw [put_ne ap]; exact ex
  have e7 : Ext S (put S6 p (.ins (He.ga K "Drawing") [("parts", .ref a)])) := e06.put sp
  clear h6 m1 m3 m4 e6 n1 n3 ex e06 e05 ha
  generalize put S6 p (.ins (He.ga K "Drawing") [("parts", .ref a)]) = S7 at *
  simp only [lst_of_ t3]
  intro b hb
  have sb : S b = none := e7.none_ hb
  have b3 : b ≠ q3 := fun e => by rw [e, t3] at hb; cases hb
  have bp : b ≠ p := fun e => by rw [e, t4] at hb; cases hb
  have ba : b ≠ a := fun e => by rw [e, t5] at hb; cases hb
  simp only [wComp]
  refine ⟨lst_of_ (by rw [put_ne b3.symm]; exact t3), ?_⟩
  simp only [put_ne bp.symm, t4, ↓wSs, ↓wS, ↓wE, ↓wEs, ↓wI, ↓wIfs, ↓wO, ↓wTg, ↓wTgs, ↓reduceIte, ofS_eq, ofS_beq, String.reduceEq, String.reduceBEq, List.lookup_cons, List.lookup_nil, wipeD, startD, endD, nmO, List.map_cons, List.map_nil, List.cons_append, List.nil_append, List.append_nil, List.getElem?_cons_zero, List.getElem?_cons_succ, List.length_cons, List.length_nil, List.replicate_succ, List.replicate_zero, List.set_cons_zero, List.set_cons_succ, if_true, if_false, Bool.false_eq_true, reduceIte, Bool.not_true, Bool.not_false, wTru, tv, Nat.zero_add, Nat.reduceAdd, ci0, ci1, ci2, ci3, ci4, ci5, ci6, Nat.reduceSub, Nat.sub_self, Nat.le_refl, Nat.reduceLeDiff, sizeLine_eq, Nat.reduceLT, true_and, and_true, and_self, Bool.and_false, Bool.or_false, Bool.or_true, Bool.and_true, Bool.true_and, Bool.true_or, Bool.false_or, Bool.false_and, decide_true, decide_false, ne_eq, not_true_eq_false, not_false_eq_true, List.drop_zero, List.drop_nil, List.drop_succ_cons, at_Drawing_nets, putD, put_put]
  have d1 : put (put S7 b (.lst [])) p (.ins (He.ga K "Drawing") [("parts", .ref a), ("nets", .ref b)]) p = some (.ins (He.ga K "Drawing") [("parts", .ref a), ("nets", .ref b)]) := put_same
  have d2 : put (put S7 b (.lst [])) p (.ins (He.ga K "Drawing") [("parts", .ref a), ("nets", .ref b)]) a = some (.lst [.tup [.str "a", .str "r", .int k]]) := by rw [put_ne ap, put_ne ba.symm]; exact t5
  have d3 : put (put S7 b (.lst [])) p (.ins (He.ga K "Drawing") [("parts", .ref a), ("nets", .ref b)]) b = some (.lst []) := by rw [put_ne bp, put_same]
  have e10 : Ext S (put (put S7 b (.lst [])) p (.ins (He.ga K "Drawing") [("parts", .ref a), ("nets", .ref b)])) := (e7.put sb).put sp
  clear t3 t4 t5 e7 hb
  generalize put (put S7 b (.lst [])) p (.ins (He.ga K "Drawing") [("parts", .ref a), ("nets", .ref b)]) = S9 at *
  left
  refine wNew_of fun h S10 hh e11 d5 => ?_
  have e12 := e10.trans e11
  have hp' : h ≠ p := fun e => by rw [e, d1] at hh; cases hh
  have sh : S h = none := e10.none_ hh
  simp only [e11 _ _ d1, ↓wSs, ↓wS, ↓wE, ↓wEs, ↓wI, ↓wIfs, ↓wO, ↓wTg, ↓wTgs, ↓reduceIte, ofS_eq, ofS_beq, String.reduceEq, String.reduceBEq, List.lookup_cons, List.lookup_nil, wipeD, startD, endD, nmO, List.map_cons, List.map_nil, List.cons_append, List.nil_append, List.append_nil, List.getElem?_cons_zero, List.getElem?_cons_succ, List.length_cons, List.length_nil, List.replicate_succ, List.replicate_zero, List.set_cons_zero, List.set_cons_succ, if_true, if_false, Bool.false_eq_true, reduceIte, Bool.not_true, Bool.not_false, wTru, tv, Nat.zero_add, Nat.reduceAdd, ci0, ci1, ci2, ci3, ci4, ci5, ci6, Nat.reduceSub, Nat.sub_self, Nat.le_refl, Nat.reduceLeDiff, sizeLine_eq, Nat.reduceLT, true_and, and_true, and_self, Bool.and_false, Bool.or_false, Bool.or_true, Bool.and_true, Bool.true_and, Bool.true_or, Bool.false_or, Bool.false_and, decide_true, decide_false, ne_eq, not_true_eq_false, not_false_eq_true, List.drop_zero, List.drop_nil, List.drop_succ_cons, at_Drawing_homes, at_Drawing_nets, putD]
  have j1 : put S10 p (.ins (He.ga K "Drawing") [("parts", .ref a), ("nets", .ref b), ("homes", .ref h)]) p = some (.ins (He.ga K "Drawing") [("parts", .ref a), ("nets", .ref b), ("homes", .ref h)]) := put_same
  have j2 : put S10 p (.ins (He.ga K "Drawing") [("parts", .ref a), ("nets", .ref b), ("homes", .ref h)]) a = some (.lst [.tup [.str "a", .str "r", .int k]]) := by rw [put_ne ap]; exact e11 _ _ d2
  have j3 : put S10 p (.ins (He.ga K "Drawing") [("parts", .ref a), ("nets", .ref b), ("homes", .ref h)]) b = some (.lst []) := by rw [put_ne bp]; exact e11 _ _ d3
  have j5 : put S10 p (.ins (He.ga K "Drawing") [("parts", .ref a), ("nets", .ref b), ("homes", .ref h)]) h = some (.dct false true []) := by rw [put_ne hp']; exact d5
  have e13 : Ext S (put S10 p (.ins (He.ga K "Drawing") [("parts", .ref a), ("nets", .ref b), ("homes", .ref h)])) := e12.put sp
  clear d1 d2 d3 d5 e10 e11 e12 hh
  generalize put S10 p (.ins (He.ga K "Drawing") [("parts", .ref a), ("nets", .ref b), ("homes", .ref h)]) = S11 at *
  simp only [j1, ↓wSs, ↓wS, ↓wE, ↓wEs, ↓wI, ↓wIfs, ↓wO, ↓wTg, ↓wTgs, ↓reduceIte, ofS_eq, ofS_beq, String.reduceEq, String.reduceBEq, List.lookup_cons, List.lookup_nil, wipeD, startD, endD, nmO, List.map_cons, List.map_nil, List.cons_append, List.nil_append, List.append_nil, List.getElem?_cons_zero, List.getElem?_cons_succ, List.length_cons, List.length_nil, List.replicate_succ, List.replicate_zero, List.set_cons_zero, List.set_cons_succ, if_true, if_false, Bool.false_eq_true, reduceIte, Bool.not_true, Bool.not_false, wTru, tv, Nat.zero_add, Nat.reduceAdd, ci0, ci1, ci2, ci3, ci4, ci5, ci6, Nat.reduceSub, Nat.sub_self, Nat.le_refl, Nat.reduceLeDiff, sizeLine_eq, Nat.reduceLT, true_and, and_true, and_self, Bool.and_false, Bool.or_false, Bool.or_true, Bool.and_true, Bool.true_and, Bool.true_or, Bool.false_or, Bool.false_and, decide_true, decide_false, ne_eq, not_true_eq_false, not_false_eq_true, List.drop_zero, List.drop_nil, List.drop_succ_cons, wIter, lst_of_ j3, wLoop]
  refine ⟨at_Drawing_nets K _, ?_⟩
  refine wNew_of fun u S12 hu e15 l6 => ?_
  have o1 := e15 _ _ j1
  have o2 := e15 _ _ j2
  have o3 := e15 _ _ j3
  have o5 := e15 _ _ j5
  simp only [o1, ↓wSs, ↓wS, ↓wE, ↓wEs, ↓wI, ↓wIfs, ↓wO, ↓wTg, ↓wTgs, ↓reduceIte, ofS_eq, ofS_beq, String.reduceEq, String.reduceBEq, List.lookup_cons, List.lookup_nil, wipeD, startD, endD, nmO, List.map_cons, List.map_nil, List.cons_append, List.nil_append, List.append_nil, List.getElem?_cons_zero, List.getElem?_cons_succ, List.length_cons, List.length_nil, List.replicate_succ, List.replicate_zero, List.set_cons_zero, List.set_cons_succ, if_true, if_false, Bool.false_eq_true, reduceIte, Bool.not_true, Bool.not_false, wTru, tv, Nat.zero_add, Nat.reduceAdd, ci0, ci1, ci2, ci3, ci4, ci5, ci6, Nat.reduceSub, Nat.sub_self, Nat.le_refl, Nat.reduceLeDiff, sizeLine_eq, Nat.reduceLT, true_and, and_true, and_self, Bool.and_false, Bool.or_false, Bool.or_true, Bool.and_true, Bool.true_and, Bool.true_or, Bool.false_or, Bool.false_and, decide_true, decide_false, ne_eq, not_true_eq_false, not_false_eq_true, List.drop_zero, List.drop_nil, List.drop_succ_cons, at_Drawing_nets, lst_of_ o3]
  intro v hv
  have vb : v ≠ b := fun e => by rw [e, o3] at hv; cases hv
  have vp : v ≠ p := fun e => by rw [e, o1] at hv; cases hv
  have va : v ≠ a := fun e => by rw [e, o2] at hv; cases hv
  have vh : v ≠ h := fun e => by rw [e, o5] at hv; cases hv
  have vu : v ≠ u := fun e => by rw [e, l6] at hv; cases hv
  simp only [wComp]
  refine ⟨lst_of_ (by rw [put_ne vb.symm]; exact o3), ?_⟩
  have e16 : Ext S (put S12 v (.lst [])) := (e13.trans e15).put (e13.none_ (e15.none_ hv))
  have p1 : put S12 v (.lst []) p = _ := (put_ne vp.symm).trans o1
  have p2 : put S12 v (.lst []) a = _ := (put_ne va.symm).trans o2
  have p5 : put S12 v (.lst []) h = _ := (put_ne vh.symm).trans o5
  have p6 : put S12 v (.lst []) u = _ := (put_ne vu.symm).trans l6
  have p7 : put S12 v (.lst []) v = some (.lst []) := put_same
  clear o1 o2 o3 o5 l6 j1 j2 j3 j5 e13 e15 hv hu
  generalize put S12 v (.lst []) = S13 at *
  have hin : ∀ Kb : Bool → Prop, Kb false → wIn (.ref u) (.ref v) S13 Kb := fun Kb hKb => by
    simp only [wIn, p7, lst_of_ p7]
    refine .inr ⟨.list [], [], ?_, rfl, rfl, by decide +kernel, hKb⟩
    show (match lstAt S13 u with | some ds => (pdl (pd 7 S13) ds).map PyData.list | none => none) = _
    rw [lst_of_ p6]; rfl
  refine hin _ ?_
  have hno : lstAt S13 h = none := by unfold lstAt; rw [p5]
  simp only [↓wSs, ↓wS, ↓wE, ↓wEs, ↓wI, ↓wIfs, ↓wO, ↓wTg, ↓wTgs, ↓reduceIte, ofS_eq, ofS_beq, String.reduceEq, String.reduceBEq, List.lookup_cons, List.lookup_nil, wipeD, startD, endD, nmO, List.map_cons, List.map_nil, List.cons_append, List.nil_append, List.append_nil, List.getElem?_cons_zero, List.getElem?_cons_succ, List.length_cons, List.length_nil, List.replicate_succ, List.replicate_zero, List.set_cons_zero, List.set_cons_succ, if_true, if_false, Bool.false_eq_true, reduceIte, Bool.not_true, Bool.not_false, wTru, tv, Nat.zero_add, Nat.reduceAdd, ci0, ci1, ci2, ci3, ci4, ci5, ci6, Nat.reduceSub, Nat.sub_self, Nat.le_refl, Nat.reduceLeDiff, sizeLine_eq, Nat.reduceLT, true_and, and_true, and_self, Bool.and_false, Bool.or_false, Bool.or_true, Bool.and_true, Bool.true_and, Bool.true_or, Bool.false_or, Bool.false_and, decide_true, decide_false, ne_eq, not_true_eq_false, not_false_eq_true, List.drop_zero, List.drop_nil, List.drop_succ_cons, p1, at_Drawing_homes, at_Drawing_parts, fn_pins_of, hno, p5]
  refine sorted_pins (fun d hd => by cases hd) (by simp) (wNew_of fun x S14 hx e18 l8 => ?_)
  have i1 := e18 _ _ p1
  have i2 := e18 _ _ p2
  simp only [i1, ↓wSs, ↓wS, ↓wE, ↓wEs, ↓wI, ↓wIfs, ↓wO, ↓wTg, ↓wTgs, ↓reduceIte, ofS_eq, ofS_beq, String.reduceEq, String.reduceBEq, List.lookup_cons, List.lookup_nil, wipeD, startD, endD, nmO, List.map_cons, List.map_nil, List.cons_append, List.nil_append, List.append_nil, List.getElem?_cons_zero, List.getElem?_cons_succ, List.length_cons, List.length_nil, List.replicate_succ, List.replicate_zero, List.set_cons_zero, List.set_cons_succ, if_true, if_false, Bool.false_eq_true, reduceIte, Bool.not_true, Bool.not_false, wTru, tv, Nat.zero_add, Nat.reduceAdd, ci0, ci1, ci2, ci3, ci4, ci5, ci6, Nat.reduceSub, Nat.sub_self, Nat.le_refl, Nat.reduceLeDiff, sizeLine_eq, Nat.reduceLT, true_and, and_true, and_self, Bool.and_false, Bool.or_false, Bool.or_true, Bool.and_true, Bool.true_and, Bool.true_or, Bool.false_or, Bool.false_and, decide_true, decide_false, ne_eq, not_true_eq_false, not_false_eq_true, List.drop_zero, List.drop_nil, List.drop_succ_cons, at_Drawing_parts]
  refine c_pins_of1 K (n + 3) (x := "a") (y := "r") (k := k) (lst_of_ i2) hk8 (fun S => ?_) (fun S Kt_ X h => name_r K (n + 4) h) fun S15 y e19 l9 => ?_
  · have key : ∀ k : Fin 9, List.Pairwise (fun a b => PySem.W.dataLe false id (pinP a) (pinP b) = true) (pinsK k.val) := by decide +kernel
    refine (key ⟨k, by omega⟩).imp_of_mem fun {d e} hd he h => ?_
    obtain ⟨x1, i1, rfl⟩ := pinsK_pin k d hd
    obtain ⟨x2, i2, rfl⟩ := pinsK_pin k e he
    exact h
  have f8 := e19 _ _ l8
  have f8 : S15 x = some (.lst []) := by rw [f8, show ([] : List D).mergeSort (leS S13) = [] from List.mergeSort_nil]
  have hq : wEq (.ref x) (.ref y) S15 (fun b => if (!b) = true then X "NoDrawing" S15 else Kt_ (.ref p) S15) := by
    have kk : ∀ k : Fin 9, SeqAt.shaped (.list ((pinsK k.val).map pinP)) = true ∧ (1 ≤ k.val → PyData.eqv (.list []) (.list ((pinsK k.val).map pinP)) = false) := by decide +kernel
    obtain ⟨q1, q2⟩ := kk ⟨k, by omega⟩
    refine ⟨.list [], _, ?_, pd_pins (k := k) l9 4, by decide +kernel, q1, ?_⟩
    · show (match lstAt S15 x with | some ds => (pdl (pd 7 S15) ds).map PyData.list | none => none) = _
      rw [lst_of_ f8]; rfl
    · rw [q2 hk8.1]
      exact hX _ ((e16.trans e18).trans e19)
  exact hq
end
end DL.K16

namespace DL.K16
open PySem PySem.Spec PyProof.Rows
section
variable (K : PySem.W.Frag) (n : Nat)
theorem done7 {m : Int} (hm : 0 ≤ m) {S : Sto} {Kt_ : Kt} {X : KtE} (hX : ∀ S', Ext S S' → X "NoPin" S') : wCall (feOf (GL K tab (n + 7)) d__law_done) [.int 7, .int m] S Kt_ X := by
  refine call_w rfl (skip rfl rfl (skip rfl rfl (skip rfl rfl (skip rfl rfl (skip rfl rfl (skip rfl rfl (skip rfl rfl (take_ rfl (ret_ ?_)))))))))
  simp only [↓wSs, ↓wS, ↓wE, ↓wEs, ↓wI, ↓wIfs, ↓wO, ↓wTg, ↓wTgs, ↓reduceIte, ofS_eq, ofS_beq, String.reduceEq, String.reduceBEq, List.lookup_cons, List.lookup_nil, wipeD, startD, endD, nmO, List.map_cons, List.map_nil, List.cons_append, List.nil_append, List.append_nil, List.getElem?_cons_zero, List.getElem?_cons_succ, List.length_cons, List.length_nil, List.replicate_succ, List.replicate_zero, List.set_cons_zero, List.set_cons_succ, if_true, if_false, Bool.false_eq_true, reduceIte, Bool.not_true, Bool.not_false, wTru, tv, Nat.zero_add, Nat.reduceAdd, ci0, ci1, ci2, ci3, ci4, ci5, ci6, Nat.reduceSub, Nat.sub_self, Nat.le_refl, Nat.reduceLeDiff, sizeLine_eq, Nat.reduceLT, true_and, and_true, and_self, Bool.and_false, Bool.or_false, Bool.or_true, Bool.and_true, Bool.true_and, Bool.true_or, Bool.false_or, Bool.false_and, decide_true, decide_false, ne_eq, not_true_eq_false, not_false_eq_true, List.drop_zero, List.drop_nil, List.drop_succ_cons, wBin, mk_Drawing]
  refine wNew_of fun q1 S1 h1 e1 g1 => wNew_of fun q2 S2 h2 e2 g2 => wNew_of fun q3 S3 h3 e3 g3 => ?_
  refine c_drawing K n (k := 1) (.inl rfl) (e3 _ _ (e2 _ _ g1)) (e3 _ _ g2) g3 fun p S4 hp e4 hd => ?_
  have e04 := ((e1.trans e2).trans e3).trans e4
  obtain ⟨a, b, c, h, i1, i2, i3, i4, i5⟩ := hd
  simp only [i1, mt_Drawing_net_of, ↓wSs, ↓wS, ↓wE, ↓wEs, ↓wI, ↓wIfs, ↓wO, ↓wTg, ↓wTgs, ↓reduceIte, ofS_eq, ofS_beq, String.reduceEq, String.reduceBEq, List.lookup_cons, List.lookup_nil, wipeD, startD, endD, nmO, List.map_cons, List.map_nil, List.cons_append, List.nil_append, List.append_nil, List.getElem?_cons_zero, List.getElem?_cons_succ, List.length_cons, List.length_nil, List.replicate_succ, List.replicate_zero, List.set_cons_zero, List.set_cons_succ, if_true, if_false, Bool.false_eq_true, reduceIte, Bool.not_true, Bool.not_false, wTru, tv, Nat.zero_add, Nat.reduceAdd, ci0, ci1, ci2, ci3, ci4, ci5, ci6, Nat.reduceSub, Nat.sub_self, Nat.le_refl, Nat.reduceLeDiff, sizeLine_eq, Nat.reduceLT, true_and, and_true, and_self, Bool.and_false, Bool.or_false, Bool.or_true, Bool.and_true, Bool.true_and, Bool.true_or, Bool.false_or, Bool.false_and, decide_true, decide_false, ne_eq, not_true_eq_false, not_false_eq_true, List.drop_zero, List.drop_nil, List.drop_succ_cons]
  refine call_w rfl ?_
  simp only [d_Drawing_net_of, ↓wSs, ↓wS, ↓wE, ↓wEs, ↓wI, ↓wIfs, ↓wO, ↓wTg, ↓wTgs, ↓reduceIte, ofS_eq, ofS_beq, String.reduceEq, String.reduceBEq, List.lookup_cons, List.lookup_nil, wipeD, startD, endD, nmO, List.map_cons, List.map_nil, List.cons_append, List.nil_append, List.append_nil, List.getElem?_cons_zero, List.getElem?_cons_succ, List.length_cons, List.length_nil, List.replicate_succ, List.replicate_zero, List.set_cons_zero, List.set_cons_succ, if_true, if_false, Bool.false_eq_true, reduceIte, Bool.not_true, Bool.not_false, wTru, tv, Nat.zero_add, Nat.reduceAdd, ci0, ci1, ci2, ci3, ci4, ci5, ci6, Nat.reduceSub, Nat.sub_self, Nat.le_refl, Nat.reduceLeDiff, sizeLine_eq, Nat.reduceLT, true_and, and_true, and_self, Bool.and_false, Bool.or_false, Bool.or_true, Bool.and_true, Bool.true_and, Bool.true_or, Bool.false_or, Bool.false_and, decide_true, decide_false, ne_eq, not_true_eq_false, not_false_eq_true, List.drop_zero, List.drop_nil, List.drop_succ_cons, fn_is_pin]
  refine c_is_pin K (n + 4) ⟨_, _, rfl⟩ ?_
  have hk1 : keyOk true (.tup [.str "a", .int (1 + m)]) = true := rfl
  have hg : dget ((pinsK 1).map fun d => (d, D.str (Str.ofString "n"))) (.tup [.str "a", .int (1 + m)]) = none := by
    refine dget_none ?_
    rw [show pinsK 1 = [.tup [.str "a", .int 0]] from rfl]
    simp only [List.map_cons, List.map_nil, List.mem_singleton, D.tup.injEq, List.cons.injEq, D.int.injEq, and_true, true_and]
    omega
  simp only [↓wSs, ↓wS, ↓wE, ↓wEs, ↓wI, ↓wIfs, ↓wO, ↓wTg, ↓wTgs, ↓reduceIte, ofS_eq, ofS_beq, String.reduceEq, String.reduceBEq, List.lookup_cons, List.lookup_nil, wipeD, startD, endD, nmO, List.map_cons, List.map_nil, List.cons_append, List.nil_append, List.append_nil, List.getElem?_cons_zero, List.getElem?_cons_succ, List.length_cons, List.length_nil, List.replicate_succ, List.replicate_zero, List.set_cons_zero, List.set_cons_succ, if_true, if_false, Bool.false_eq_true, reduceIte, Bool.not_true, Bool.not_false, wTru, tv, Nat.zero_add, Nat.reduceAdd, ci0, ci1, ci2, ci3, ci4, ci5, ci6, Nat.reduceSub, Nat.sub_self, Nat.le_refl, Nat.reduceLeDiff, sizeLine_eq, Nat.reduceLT, true_and, and_true, and_self, Bool.and_false, Bool.or_false, Bool.or_true, Bool.and_true, Bool.true_and, Bool.true_or, Bool.false_or, Bool.false_and, decide_true, decide_false, ne_eq, not_true_eq_false, not_false_eq_true, List.drop_zero, List.drop_nil, List.drop_succ_cons, i1, at_Drawing_homes, wCmp, wIn, i5, hk1, hg, Option.isSome_none]
  exact hX _ e04
end
end DL.K16

namespace DL.K16
open PySem PySem.Spec PyProof.Rows
section
variable (K : PySem.W.Frag) (n : Nat)
theorem done8 {m : Int} (hm : 0 ≤ m) {S : Sto} {Kt_ : Kt} {X : KtE} (hX : ∀ S', Ext S S' → X "NoSpan" S') : wCall (feOf (GL K tab (n + 4)) d__law_done) [.int 8, .int m] S Kt_ X := by
  refine call_w rfl (skip rfl rfl (skip rfl rfl (skip rfl rfl (skip rfl rfl (skip rfl rfl (skip rfl rfl (skip rfl rfl (skip rfl rfl (take_ rfl (ret_ ?_))))))))))
  simp only [↓wSs, ↓wS, ↓wE, ↓wEs, ↓wI, ↓wIfs, ↓wO, ↓wTg, ↓wTgs, ↓reduceIte, ofS_eq, ofS_beq, String.reduceEq, String.reduceBEq, wipeD, startD, endD, nmO, List.map_cons, List.map_nil, List.cons_append, List.nil_append, List.append_nil, List.getElem?_cons_zero, List.getElem?_cons_succ, List.length_cons, List.length_nil, List.replicate_succ, List.replicate_zero, List.set_cons_zero, List.set_cons_succ, if_true, if_false, Bool.false_eq_true, reduceIte, Bool.not_true, Bool.not_false, wTru, tv, Nat.zero_add, Nat.reduceAdd, Nat.reduceSub, Nat.sub_self, Nat.le_refl, Nat.reduceLeDiff, sizeLine_eq, Nat.reduceLT, true_and, and_true, and_self, List.drop_zero, List.drop_nil, List.drop_succ_cons, wBin, wNew, fn_lanes]
  intro q hq
  refine call_w rfl ?_
  simp only [d_lanes, ↓wSs, ↓wS, ↓wE, ↓wEs, ↓wI, ↓wIfs, ↓wO, ↓wTg, ↓wTgs, ↓reduceIte, ofS_eq, ofS_beq, String.reduceEq, String.reduceBEq, wipeD, startD, endD, nmO, List.map_cons, List.map_nil, List.cons_append, List.nil_append, List.append_nil, List.getElem?_cons_zero, List.getElem?_cons_succ, List.length_cons, List.length_nil, List.replicate_succ, List.replicate_zero, List.set_cons_zero, List.set_cons_succ, if_true, if_false, Bool.false_eq_true, reduceIte, Bool.not_true, Bool.not_false, wTru, tv, Nat.zero_add, Nat.reduceAdd, Nat.reduceSub, Nat.sub_self, Nat.le_refl, Nat.reduceLeDiff, sizeLine_eq, Nat.reduceLT, true_and, and_true, and_self, List.drop_zero, List.drop_nil, List.drop_succ_cons, fn_check_spans]
  refine call_w rfl ?_
  simp only [d_check_spans, ↓wSs, ↓wS, ↓wE, ↓wEs, ↓wI, ↓wIfs, ↓wO, ↓wTg, ↓wTgs, ↓reduceIte, ofS_eq, ofS_beq, String.reduceEq, String.reduceBEq, wipeD, startD, endD, nmO, List.map_cons, List.map_nil, List.cons_append, List.nil_append, List.append_nil, List.getElem?_cons_zero, List.getElem?_cons_succ, List.length_cons, List.length_nil, List.replicate_succ, List.replicate_zero, List.set_cons_zero, List.set_cons_succ, if_true, if_false, Bool.false_eq_true, reduceIte, Bool.not_true, Bool.not_false, wTru, tv, Nat.zero_add, Nat.reduceAdd, Nat.reduceSub, Nat.sub_self, Nat.le_refl, Nat.reduceLeDiff, sizeLine_eq, Nat.reduceLT, true_and, and_true, and_self, List.drop_zero, List.drop_nil, List.drop_succ_cons, wIter, lstAt, put_same, wComp]
  intro p hp
  rw [put_none] at hp
  simp only [put_same, put_ne hp.1, put_ne hp.1.symm, ↓wSs, ↓wS, ↓wE, ↓wEs, ↓wI, ↓wIfs, ↓wO, ↓wTg, ↓wTgs, ↓reduceIte, ofS_eq, ofS_beq, String.reduceEq, String.reduceBEq, wipeD, startD, endD, nmO, List.map_cons, List.map_nil, List.cons_append, List.nil_append, List.append_nil, List.getElem?_cons_zero, List.getElem?_cons_succ, List.length_cons, List.length_nil, List.replicate_succ, List.replicate_zero, List.set_cons_zero, List.set_cons_succ, if_true, if_false, Bool.false_eq_true, reduceIte, Bool.not_true, Bool.not_false, wTru, tv, Nat.zero_add, Nat.reduceAdd, Nat.reduceSub, Nat.sub_self, Nat.le_refl, Nat.reduceLeDiff, sizeLine_eq, Nat.reduceLT, true_and, and_true, and_self, List.drop_zero, List.drop_nil, List.drop_succ_cons, wLoop, wCmp, wGt, show m < 1 + m by omega, decide_true]
  exact hX _ ((Ext.refl.put hq).put hp.2 |>.put hp.2)
end
end DL.K16

namespace DL.K16
open PySem PySem.Spec PyProof.Rows
section
variable (K : PySem.W.Frag) (n : Nat)
theorem done9 {m : Int} (hm : 0 ≤ m) {S : Sto} {Kt_ : Kt} {X : KtE} (hX : ∀ S', Ext S S' → X "NoLay" S') : wCall (feOf (GL K tab (n + 9)) d__law_done) [.int 9, .int m] S Kt_ X := by
  refine call_w rfl (skip rfl rfl (skip rfl rfl (skip rfl rfl (skip rfl rfl (skip rfl rfl (skip rfl rfl (skip rfl rfl (skip rfl rfl (skip rfl rfl (ret_ ?_))))))))))
  simp only [↓wSs, ↓wS, ↓wE, ↓wEs, ↓wI, ↓wIfs, ↓wO, ↓wTg, ↓wTgs, ↓reduceIte, ofS_eq, ofS_beq, String.reduceEq, String.reduceBEq, List.lookup_cons, List.lookup_nil, wipeD, startD, endD, nmO, List.map_cons, List.map_nil, List.cons_append, List.nil_append, List.append_nil, List.getElem?_cons_zero, List.getElem?_cons_succ, List.length_cons, List.length_nil, List.replicate_succ, List.replicate_zero, List.set_cons_zero, List.set_cons_succ, if_true, if_false, Bool.false_eq_true, reduceIte, Bool.not_true, Bool.not_false, wTru, tv, Nat.zero_add, Nat.reduceAdd, ci0, ci1, ci2, ci3, ci4, ci5, ci6, Nat.reduceSub, Nat.sub_self, Nat.le_refl, Nat.reduceLeDiff, sizeLine_eq, Nat.reduceLT, true_and, and_true, and_self, Bool.and_false, Bool.or_false, Bool.or_true, Bool.and_true, Bool.true_and, Bool.true_or, Bool.false_or, Bool.false_and, decide_true, decide_false, ne_eq, not_true_eq_false, not_false_eq_true, List.drop_zero, List.drop_nil, List.drop_succ_cons, fn__law_bare]
  refine call_w rfl ?_
  simp only [d__law_bare, ↓wSs, ↓wS, ↓wE, ↓wEs, ↓wI, ↓wIfs, ↓wO, ↓wTg, ↓wTgs, ↓reduceIte, ofS_eq, ofS_beq, String.reduceEq, String.reduceBEq, List.lookup_cons, List.lookup_nil, wipeD, startD, endD, nmO, List.map_cons, List.map_nil, List.cons_append, List.nil_append, List.append_nil, List.getElem?_cons_zero, List.getElem?_cons_succ, List.length_cons, List.length_nil, List.replicate_succ, List.replicate_zero, List.set_cons_zero, List.set_cons_succ, if_true, if_false, Bool.false_eq_true, reduceIte, Bool.not_true, Bool.not_false, wTru, tv, Nat.zero_add, Nat.reduceAdd, ci0, ci1, ci2, ci3, ci4, ci5, ci6, Nat.reduceSub, Nat.sub_self, Nat.le_refl, Nat.reduceLeDiff, sizeLine_eq, Nat.reduceLT, true_and, and_true, and_self, Bool.and_false, Bool.or_false, Bool.or_true, Bool.and_true, Bool.true_and, Bool.true_or, Bool.false_or, Bool.false_and, decide_true, decide_false, ne_eq, not_true_eq_false, not_false_eq_true, List.drop_zero, List.drop_nil, List.drop_succ_cons, mk_Drawing]
  refine wNew_of fun q1 S1 h1 e1 g1 => wNew_of fun q2 S2 h2 e2 g2 => wNew_of fun q3 S3 h3 e3 g3 => ?_
  refine c_drawing K (n + 1) (k := 2) (.inr rfl) (e3 _ _ (e2 _ _ g1)) (e3 _ _ g2) g3 fun p S4 hp e4 hd => ?_
  have e04 := ((e1.trans e2).trans e3).trans e4
  obtain ⟨a, b, c, h, i1, i2, i3, i4, i5⟩ := hd
  left
  intro q hq
  have hqp : q ≠ p := fun e => by rw [e, i1] at hq; cases hq
  have hqa : q ≠ a := fun e => by rw [e, i2] at hq; cases hq
  have hqb : q ≠ b := fun e => by rw [e, i3] at hq; cases hq
  have hqc : q ≠ c := fun e => by rw [e, i4] at hq; cases hq
  have hqh : q ≠ h := fun e => by rw [e, i5] at hq; cases hq
  simp only [wBin, ↓wSs, ↓wS, ↓wE, ↓wEs, ↓wI, ↓wIfs, ↓wO, ↓wTg, ↓wTgs, ↓reduceIte, ofS_eq, ofS_beq, String.reduceEq, String.reduceBEq, List.lookup_cons, List.lookup_nil, wipeD, startD, endD, nmO, List.map_cons, List.map_nil, List.cons_append, List.nil_append, List.append_nil, List.getElem?_cons_zero, List.getElem?_cons_succ, List.length_cons, List.length_nil, List.replicate_succ, List.replicate_zero, List.set_cons_zero, List.set_cons_succ, if_true, if_false, Bool.false_eq_true, reduceIte, Bool.not_true, Bool.not_false, wTru, tv, Nat.zero_add, Nat.reduceAdd, ci0, ci1, ci2, ci3, ci4, ci5, ci6, Nat.reduceSub, Nat.sub_self, Nat.le_refl, Nat.reduceLeDiff, sizeLine_eq, Nat.reduceLT, true_and, and_true, and_self, Bool.and_false, Bool.or_false, Bool.or_true, Bool.and_true, Bool.true_and, Bool.true_or, Bool.false_or, Bool.false_and, decide_true, decide_false, ne_eq, not_true_eq_false, not_false_eq_true, List.drop_zero, List.drop_nil, List.drop_succ_cons, put_same]
  refine ⟨by decide, ?_⟩
  simp only [pairsD, keyOk, keyT, keyKs, keyK, ↓wSs, ↓wS, ↓wE, ↓wEs, ↓wI, ↓wIfs, ↓wO, ↓wTg, ↓wTgs, ↓reduceIte, ofS_eq, ofS_beq, String.reduceEq, String.reduceBEq, List.lookup_cons, List.lookup_nil, wipeD, startD, endD, nmO, List.map_cons, List.map_nil, List.cons_append, List.nil_append, List.append_nil, List.getElem?_cons_zero, List.getElem?_cons_succ, List.length_cons, List.length_nil, List.replicate_succ, List.replicate_zero, List.set_cons_zero, List.set_cons_succ, if_true, if_false, Bool.false_eq_true, reduceIte, Bool.not_true, Bool.not_false, wTru, tv, Nat.zero_add, Nat.reduceAdd, ci0, ci1, ci2, ci3, ci4, ci5, ci6, Nat.reduceSub, Nat.sub_self, Nat.le_refl, Nat.reduceLeDiff, sizeLine_eq, Nat.reduceLT, true_and, and_true, and_self, Bool.and_false, Bool.or_false, Bool.or_true, Bool.and_true, Bool.true_and, Bool.true_or, Bool.false_or, Bool.false_and, decide_true, decide_false, ne_eq, not_true_eq_false, not_false_eq_true, List.drop_zero, List.drop_nil, List.drop_succ_cons, Option.isSome_some, List.foldl_cons, List.foldl_nil, put_put, fn_lay_all, mk_Board, mk_Rules]
  rw [show dput (dput [] (D.tup [D.str (Str.ofString "a"), D.int 0]) (D.tup [D.int 0, D.int 0, D.int 0])) (D.tup [D.str (Str.ofString "a"), D.int 1]) (D.tup [D.int 1, D.int (m % 2), D.int 0]) = [(D.tup [D.str (Str.ofString "a"), D.int 0], D.tup [D.int 0, D.int 0, D.int 0]), (D.tup [D.str (Str.ofString "a"), D.int 1], D.tup [D.int 1, D.int (m % 2), D.int 0])] from rfl]
  refine mkBoard K (n + 5) fun bo S5 hbo e5 hB => ?_
  have f1 := e5 p _ ((put_ne hqp.symm).trans i1)
  have f2 := e5 a _ ((put_ne hqa.symm).trans i2)
  have f3 := e5 b _ ((put_ne hqb.symm).trans i3)
  have f4 := e5 c _ ((put_ne hqc.symm).trans i4)
  have f5 := e5 h _ ((put_ne hqh.symm).trans i5)
  have f6 := e5 q _ put_same
  have e05 : Ext S S5 := (e04.put (e04.none_ hq)).trans e5
  clear i1 i2 i3 i4 i5 e5 hq
  refine wNew_of fun u S6 hu e6 g6 => ?_
  intro ru hru
  refine call_w rfl ?_
  have hur : u ≠ ru := fun e => by rw [← e, g6] at hru; cases hru
  have wt : ∀ (x l h : Int) (S : Sto) (Kt_ : Kt) (X : KtE), l ≤ x → x ≤ h → Kt_ (.bl true) S → wCall (feOf (GL K tab (n + 6)) d_within) [.int x, .int l, .int h] S Kt_ X := fun x l h S Kt_ X h1 h2 hk => by
    refine call_w rfl ?_
    simp only [d_within, ↓wSs, ↓wS, ↓wE, ↓wEs, ↓wI, ↓wIfs, ↓wO, ↓wTg, ↓wTgs, ↓reduceIte, ofS_eq, ofS_beq, String.reduceEq, String.reduceBEq, List.lookup_cons, List.lookup_nil, wipeD, startD, endD, nmO, List.map_cons, List.map_nil, List.cons_append, List.nil_append, List.append_nil, List.getElem?_cons_zero, List.getElem?_cons_succ, List.length_cons, List.length_nil, List.replicate_succ, List.replicate_zero, List.set_cons_zero, List.set_cons_succ, if_true, if_false, Bool.false_eq_true, reduceIte, Bool.not_true, Bool.not_false, wTru, tv, Nat.zero_add, Nat.reduceAdd, ci0, ci1, ci2, ci3, ci4, ci5, ci6, Nat.reduceSub, Nat.sub_self, Nat.le_refl, Nat.reduceLeDiff, sizeLine_eq, Nat.reduceLT, true_and, and_true, and_self, Bool.and_false, Bool.or_false, Bool.or_true, Bool.and_true, Bool.true_and, Bool.true_or, Bool.false_or, Bool.false_and, decide_true, decide_false, ne_eq, not_true_eq_false, not_false_eq_true, List.drop_zero, List.drop_nil, List.drop_succ_cons, fn_is_whole]
    refine c_whole K (n + 5) rfl ?_
    simp only [isW, ↓wSs, ↓wS, ↓wE, ↓wEs, ↓wI, ↓wIfs, ↓wO, ↓wTg, ↓wTgs, ↓reduceIte, ofS_eq, ofS_beq, String.reduceEq, String.reduceBEq, List.lookup_cons, List.lookup_nil, wipeD, startD, endD, nmO, List.map_cons, List.map_nil, List.cons_append, List.nil_append, List.append_nil, List.getElem?_cons_zero, List.getElem?_cons_succ, List.length_cons, List.length_nil, List.replicate_succ, List.replicate_zero, List.set_cons_zero, List.set_cons_succ, if_true, if_false, Bool.false_eq_true, reduceIte, Bool.not_true, Bool.not_false, wTru, tv, Nat.zero_add, Nat.reduceAdd, ci0, ci1, ci2, ci3, ci4, ci5, ci6, Nat.reduceSub, Nat.sub_self, Nat.le_refl, Nat.reduceLeDiff, sizeLine_eq, Nat.reduceLT, true_and, and_true, and_self, Bool.and_false, Bool.or_false, Bool.or_true, Bool.and_true, Bool.true_and, Bool.true_or, Bool.false_or, Bool.false_and, decide_true, decide_false, ne_eq, not_true_eq_false, not_false_eq_true, List.drop_zero, List.drop_nil, List.drop_succ_cons, wCmp, wLe, h1, h2]
    exact hk
  simp only [d_Rules_init, ↓wSs, ↓wS, ↓wE, ↓wEs, ↓wI, ↓wIfs, ↓wO, ↓wTg, ↓wTgs, ↓reduceIte, ofS_eq, ofS_beq, String.reduceEq, String.reduceBEq, List.lookup_cons, List.lookup_nil, wipeD, startD, endD, nmO, List.map_cons, List.map_nil, List.cons_append, List.nil_append, List.append_nil, List.getElem?_cons_zero, List.getElem?_cons_succ, List.length_cons, List.length_nil, List.replicate_succ, List.replicate_zero, List.set_cons_zero, List.set_cons_succ, if_true, if_false, Bool.false_eq_true, reduceIte, Bool.not_true, Bool.not_false, wTru, tv, Nat.zero_add, Nat.reduceAdd, ci0, ci1, ci2, ci3, ci4, ci5, ci6, Nat.reduceSub, Nat.sub_self, Nat.le_refl, Nat.reduceLeDiff, sizeLine_eq, Nat.reduceLT, true_and, and_true, and_self, Bool.and_false, Bool.or_false, Bool.or_true, Bool.and_true, Bool.true_and, Bool.true_or, Bool.false_or, Bool.false_and, decide_true, decide_false, ne_eq, not_true_eq_false, not_false_eq_true, List.drop_zero, List.drop_nil, List.drop_succ_cons, fn_within]
  refine wt 0 0 2 _ _ _ (by decide) (by decide) ?_
  simp only [↓wSs, ↓wS, ↓wE, ↓wEs, ↓wI, ↓wIfs, ↓wO, ↓wTg, ↓wTgs, ↓reduceIte, ofS_eq, ofS_beq, String.reduceEq, String.reduceBEq, List.lookup_cons, List.lookup_nil, wipeD, startD, endD, nmO, List.map_cons, List.map_nil, List.cons_append, List.nil_append, List.append_nil, List.getElem?_cons_zero, List.getElem?_cons_succ, List.length_cons, List.length_nil, List.replicate_succ, List.replicate_zero, List.set_cons_zero, List.set_cons_succ, if_true, if_false, Bool.false_eq_true, reduceIte, Bool.not_true, Bool.not_false, wTru, tv, Nat.zero_add, Nat.reduceAdd, ci0, ci1, ci2, ci3, ci4, ci5, ci6, Nat.reduceSub, Nat.sub_self, Nat.le_refl, Nat.reduceLeDiff, sizeLine_eq, Nat.reduceLT, true_and, and_true, and_self, Bool.and_false, Bool.or_false, Bool.or_true, Bool.and_true, Bool.true_and, Bool.true_or, Bool.false_or, Bool.false_and, decide_true, decide_false, ne_eq, not_true_eq_false, not_false_eq_true, List.drop_zero, List.drop_nil, List.drop_succ_cons]
  refine wt 1 1 3 _ _ _ (by decide) (by decide) ?_
  simp only [↓wSs, ↓wS, ↓wE, ↓wEs, ↓wI, ↓wIfs, ↓wO, ↓wTg, ↓wTgs, ↓reduceIte, ofS_eq, ofS_beq, String.reduceEq, String.reduceBEq, List.lookup_cons, List.lookup_nil, wipeD, startD, endD, nmO, List.map_cons, List.map_nil, List.cons_append, List.nil_append, List.append_nil, List.getElem?_cons_zero, List.getElem?_cons_succ, List.length_cons, List.length_nil, List.replicate_succ, List.replicate_zero, List.set_cons_zero, List.set_cons_succ, if_true, if_false, Bool.false_eq_true, reduceIte, Bool.not_true, Bool.not_false, wTru, tv, Nat.zero_add, Nat.reduceAdd, ci0, ci1, ci2, ci3, ci4, ci5, ci6, Nat.reduceSub, Nat.sub_self, Nat.le_refl, Nat.reduceLeDiff, sizeLine_eq, Nat.reduceLT, true_and, and_true, and_self, Bool.and_false, Bool.or_false, Bool.or_true, Bool.and_true, Bool.true_and, Bool.true_or, Bool.false_or, Bool.false_and, decide_true, decide_false, ne_eq, not_true_eq_false, not_false_eq_true, List.drop_zero, List.drop_nil, List.drop_succ_cons]
  refine wt 0 0 1 _ _ _ (by decide) (by decide) ?_
  have gu : put S6 ru (.ins (He.ga K "Rules") []) u = some (.lst []) := by rw [put_ne hur]; exact g6
  simp only [↓wSs, ↓wS, ↓wE, ↓wEs, ↓wI, ↓wIfs, ↓wO, ↓wTg, ↓wTgs, ↓reduceIte, ofS_eq, ofS_beq, String.reduceEq, String.reduceBEq, List.lookup_cons, List.lookup_nil, wipeD, startD, endD, nmO, List.map_cons, List.map_nil, List.cons_append, List.nil_append, List.append_nil, List.getElem?_cons_zero, List.getElem?_cons_succ, List.length_cons, List.length_nil, List.replicate_succ, List.replicate_zero, List.set_cons_zero, List.set_cons_succ, if_true, if_false, Bool.false_eq_true, reduceIte, Bool.not_true, Bool.not_false, wTru, tv, Nat.zero_add, Nat.reduceAdd, ci0, ci1, ci2, ci3, ci4, ci5, ci6, Nat.reduceSub, Nat.sub_self, Nat.le_refl, Nat.reduceLeDiff, sizeLine_eq, Nat.reduceLT, true_and, and_true, and_self, Bool.and_false, Bool.or_false, Bool.or_true, Bool.and_true, Bool.true_and, Bool.true_or, Bool.false_or, Bool.false_and, decide_true, decide_false, ne_eq, not_true_eq_false, not_false_eq_true, List.drop_zero, List.drop_nil, List.drop_succ_cons, wBf, lst_of_ gu, va_MOST_KEEPS, wCmp, wGt, Int.reduceLT, wIter]
  intro v hv
  have vr : v ≠ ru := fun e => by rw [e, put_same] at hv; cases hv
  have vu : v ≠ u := fun e => by rw [e, gu] at hv; cases hv
  simp only [wComp]
  refine ⟨lst_of_ (by rw [put_ne vu.symm]; exact gu), [], lst_of_ put_same, ?_⟩
  simp only [List.all_nil, ↓wSs, ↓wS, ↓wE, ↓wEs, ↓wI, ↓wIfs, ↓wO, ↓wTg, ↓wTgs, ↓reduceIte, ofS_eq, ofS_beq, String.reduceEq, String.reduceBEq, List.lookup_cons, List.lookup_nil, wipeD, startD, endD, nmO, List.map_cons, List.map_nil, List.cons_append, List.nil_append, List.append_nil, List.getElem?_cons_zero, List.getElem?_cons_succ, List.length_cons, List.length_nil, List.replicate_succ, List.replicate_zero, List.set_cons_zero, List.set_cons_succ, if_true, if_false, Bool.false_eq_true, reduceIte, Bool.not_true, Bool.not_false, wTru, tv, Nat.zero_add, Nat.reduceAdd, ci0, ci1, ci2, ci3, ci4, ci5, ci6, Nat.reduceSub, Nat.sub_self, Nat.le_refl, Nat.reduceLeDiff, sizeLine_eq, Nat.reduceLT, true_and, and_true, and_self, Bool.and_false, Bool.or_false, Bool.or_true, Bool.and_true, Bool.true_and, Bool.true_or, Bool.false_or, Bool.false_and, decide_true, decide_false, ne_eq, not_true_eq_false, not_false_eq_true, List.drop_zero, List.drop_nil, List.drop_succ_cons, put_ne vr.symm, put_same, at_Rules_gap, at_Rules_width, at_Rules_rim, putD, put_put]
  have su : put (put (put S6 ru (.ins (He.ga K "Rules") [])) v (.lst [])) ru (.ins (He.ga K "Rules") [("gap", .int 0), ("width", .int 1), ("rim", .int 0)]) u = some (.lst []) := by rw [put_ne hur, put_ne vu.symm]; exact gu
  have sr : put (put (put S6 ru (.ins (He.ga K "Rules") [])) v (.lst [])) ru (.ins (He.ga K "Rules") [("gap", .int 0), ("width", .int 1), ("rim", .int 0)]) ru = some (.ins (He.ga K "Rules") [("gap", .int 0), ("width", .int 1), ("rim", .int 0)]) := put_same
  have sE : Ext S6 (put (put (put S6 ru (.ins (He.ga K "Rules") [])) v (.lst [])) ru (.ins (He.ga K "Rules") [("gap", .int 0), ("width", .int 1), ("rim", .int 0)])) := by
    rw [put_none] at hv
    exact ((Ext.refl.put hru).put hv.2).put hru
  generalize put (put (put S6 ru (.ins (He.ga K "Rules") [])) v (.lst [])) ru (.ins (He.ga K "Rules") [("gap", .int 0), ("width", .int 1), ("rim", .int 0)]) = S7 at *
  simp only [lst_of_ su]
  intro kp hkp
  have kru : kp ≠ ru := fun e => by rw [e, sr] at hkp; cases hkp
  have ku : kp ≠ u := fun e => by rw [e, su] at hkp; cases hkp
  simp only [wComp]
  refine ⟨lst_of_ (by rw [put_ne ku.symm]; exact su), ?_⟩
  simp only [put_ne kru.symm, sr, ↓wSs, ↓wS, ↓wE, ↓wEs, ↓wI, ↓wIfs, ↓wO, ↓wTg, ↓wTgs, ↓reduceIte, ofS_eq, ofS_beq, String.reduceEq, String.reduceBEq, List.lookup_cons, List.lookup_nil, wipeD, startD, endD, nmO, List.map_cons, List.map_nil, List.cons_append, List.nil_append, List.append_nil, List.getElem?_cons_zero, List.getElem?_cons_succ, List.length_cons, List.length_nil, List.replicate_succ, List.replicate_zero, List.set_cons_zero, List.set_cons_succ, if_true, if_false, Bool.false_eq_true, reduceIte, Bool.not_true, Bool.not_false, wTru, tv, Nat.zero_add, Nat.reduceAdd, ci0, ci1, ci2, ci3, ci4, ci5, ci6, Nat.reduceSub, Nat.sub_self, Nat.le_refl, Nat.reduceLeDiff, sizeLine_eq, Nat.reduceLT, true_and, and_true, and_self, Bool.and_false, Bool.or_false, Bool.or_true, Bool.and_true, Bool.true_and, Bool.true_or, Bool.false_or, Bool.false_and, decide_true, decide_false, ne_eq, not_true_eq_false, not_false_eq_true, List.drop_zero, List.drop_nil, List.drop_succ_cons, at_Rules_keeps, putD]
  have E8 : Ext S6 (put (put S7 kp (.lst [])) ru (.ins (He.ga K "Rules") [("gap", .int 0), ("width", .int 1), ("rim", .int 0), ("keeps", .ref kp)])) := (sE.put (sE.none_ hkp)).put hru
  have r8 : put (put S7 kp (.lst [])) ru (.ins (He.ga K "Rules") [("gap", .int 0), ("width", .int 1), ("rim", .int 0), ("keeps", .ref kp)]) ru = some (.ins (He.ga K "Rules") [("gap", .int 0), ("width", .int 1), ("rim", .int 0), ("keeps", .ref kp)]) := put_same
  generalize put (put S7 kp (.lst [])) ru (.ins (He.ga K "Rules") [("gap", .int 0), ("width", .int 1), ("rim", .int 0), ("keeps", .ref kp)]) = S8 at *
  have E58 := e6.trans E8
  have l1 := E58 _ _ f1
  have l2 := E58 _ _ f2
  have l3 := E58 _ _ f3
  have l4 := E58 _ _ f4
  have l5 := E58 _ _ f5
  have l6 := E58 _ _ f6
  have e08 := e05.trans E58
  obtain ⟨bc, br, bd, b1, b2, b3, b4⟩ := hB
  have b1 := E58 _ _ b1
  have b2 := E58 _ _ b2
  have b3 := E58 _ _ b3
  have b4 := E58 _ _ b4
  clear f1 f2 f3 f4 f5 f6 g6 gu su sr sE E8 E58 e6 e05 hkp hv hru hu hbo
  exact c_lay K n b1 b2 b3 b4 r8 l1 l2 l3 l4 l6 fun S' e => hX _ (e08.trans e)
end
end DL.K16

namespace DL.K16
open PySem PySem.Spec PyProof.Rows
section
variable (K : PySem.W.Frag) (n : Nat)
/-- the deeds' classes, in the order of the deeds -/
def kinds : List Str := ["NoShape", "NoBoard", "NoPlace", "NoPicture", "NoCopper", "NoRules", "NoDrawing", "NoPin", "NoSpan", "NoLay"]
def toldOf (k : Nat) : List D := ((List.range 10).map fun j => D.bl (decide (k = j))) ++ [.bl true]
theorem c_kinds {k : Nat} (hk : k < 10) {m : Int} {S : Sto} {Kt_ : Kt} {X : KtE} (hd : ∀ (S : Sto) (Kt_ : Kt) (X : KtE), (∀ S', Ext S S' → X (kinds.getD k "") S') → wCall (feOf (GL K tab (n + 1)) d__law_done) [.int k, .int m] S Kt_ X)
    (hK : ∀ S' p, Ext S S' → S' p = some (.lst (toldOf k)) → Kt_ (.ref p) S') : wCall (feOf (GL K tab (n + 2)) d__law_kinds) [.int k, .int m] S Kt_ X := by
  refine call_w rfl ?_
  simp only [d__law_kinds, ↓wSs, ↓wS, ↓wE, ↓wEs, ↓wI, ↓wIfs, ↓wO, ↓wTg, ↓wTgs, ↓reduceIte, ofS_eq, ofS_beq, String.reduceEq, String.reduceBEq, List.lookup_cons, List.lookup_nil, wipeD, startD, endD, nmO, List.map_cons, List.map_nil, List.cons_append, List.nil_append, List.append_nil, List.getElem?_cons_zero, List.getElem?_cons_succ, List.length_cons, List.length_nil, List.replicate_succ, List.replicate_zero, List.set_cons_zero, List.set_cons_succ, if_true, if_false, Bool.false_eq_true, reduceIte, Bool.not_true, Bool.not_false, wTru, tv, Nat.zero_add, Nat.reduceAdd, ci0, ci1, ci2, ci3, ci4, ci5, ci6, Nat.reduceSub, Nat.sub_self, Nat.le_refl, Nat.reduceLeDiff, sizeLine_eq, Nat.reduceLT, true_and, and_true, and_self, Bool.and_false, Bool.or_false, Bool.or_true, Bool.and_true, Bool.true_and, Bool.true_or, Bool.false_or, Bool.false_and, decide_true, decide_false, ne_eq, not_true_eq_false, not_false_eq_true, List.drop_zero, List.drop_nil, List.drop_succ_cons, fn__law_done]
  refine wNew_of fun t0 S1 ht e1 g1 => ?_
  refine hd _ _ _ fun S2 e2 => ?_
  have e12 := e1.trans e2
  rcases k with _ | _ | _ | _ | _ | _ | _ | _ | _ | _ | k
  all_goals first | (exfalso; omega; done) | skip
  all_goals simp only [kinds, List.getD_cons_zero, List.getD_cons_succ, ex_NoShape_CopperError, ex_NoBoard_CopperError, ex_NoPlace_CopperError, ex_NoPicture_CopperError, ex_NoCopper_CopperError, ex_NoRules_CopperError, ex_NoDrawing_CopperError, ex_NoPin_CopperError, ex_NoSpan_CopperError, ex_NoLay_CopperError]
  all_goals intro a ha
  all_goals simp only [ex_NoShape_NoShape, ex_NoShape_NoBoard, ex_NoShape_NoPlace, ex_NoShape_NoPicture, ex_NoShape_NoCopper, ex_NoShape_NoRules, ex_NoShape_NoDrawing, ex_NoShape_NoPin, ex_NoShape_NoSpan, ex_NoShape_NoLay, ex_NoShape_CopperError, ex_NoShape_ValueError, ex_NoBoard_NoShape, ex_NoBoard_NoBoard, ex_NoBoard_NoPlace, ex_NoBoard_NoPicture, ex_NoBoard_NoCopper, ex_NoBoard_NoRules, ex_NoBoard_NoDrawing, ex_NoBoard_NoPin, ex_NoBoard_NoSpan, ex_NoBoard_NoLay, ex_NoBoard_CopperError, ex_NoBoard_ValueError, ex_NoPlace_NoShape, ex_NoPlace_NoBoard, ex_NoPlace_NoPlace, ex_NoPlace_NoPicture, ex_NoPlace_NoCopper, ex_NoPlace_NoRules, ex_NoPlace_NoDrawing, ex_NoPlace_NoPin, ex_NoPlace_NoSpan, ex_NoPlace_NoLay, ex_NoPlace_CopperError, ex_NoPlace_ValueError, ex_NoPicture_NoShape, ex_NoPicture_NoBoard, ex_NoPicture_NoPlace, ex_NoPicture_NoPicture, ex_NoPicture_NoCopper, ex_NoPicture_NoRules, ex_NoPicture_NoDrawing, ex_NoPicture_NoPin, ex_NoPicture_NoSpan, ex_NoPicture_NoLay, ex_NoPicture_CopperError, ex_NoPicture_ValueError, ex_NoCopper_NoShape, ex_NoCopper_NoBoard, ex_NoCopper_NoPlace, ex_NoCopper_NoPicture, ex_NoCopper_NoCopper, ex_NoCopper_NoRules, ex_NoCopper_NoDrawing, ex_NoCopper_NoPin, ex_NoCopper_NoSpan, ex_NoCopper_NoLay, ex_NoCopper_CopperError, ex_NoCopper_ValueError, ex_NoRules_NoShape, ex_NoRules_NoBoard, ex_NoRules_NoPlace, ex_NoRules_NoPicture, ex_NoRules_NoCopper, ex_NoRules_NoRules, ex_NoRules_NoDrawing, ex_NoRules_NoPin, ex_NoRules_NoSpan, ex_NoRules_NoLay, ex_NoRules_CopperError, ex_NoRules_ValueError, ex_NoDrawing_NoShape, ex_NoDrawing_NoBoard, ex_NoDrawing_NoPlace, ex_NoDrawing_NoPicture, ex_NoDrawing_NoCopper, ex_NoDrawing_NoRules, ex_NoDrawing_NoDrawing, ex_NoDrawing_NoPin, ex_NoDrawing_NoSpan, ex_NoDrawing_NoLay, ex_NoDrawing_CopperError, ex_NoDrawing_ValueError, ex_NoPin_NoShape, ex_NoPin_NoBoard, ex_NoPin_NoPlace, ex_NoPin_NoPicture, ex_NoPin_NoCopper, ex_NoPin_NoRules, ex_NoPin_NoDrawing, ex_NoPin_NoPin, ex_NoPin_NoSpan, ex_NoPin_NoLay, ex_NoPin_CopperError, ex_NoPin_ValueError, ex_NoSpan_NoShape, ex_NoSpan_NoBoard, ex_NoSpan_NoPlace, ex_NoSpan_NoPicture, ex_NoSpan_NoCopper, ex_NoSpan_NoRules, ex_NoSpan_NoDrawing, ex_NoSpan_NoPin, ex_NoSpan_NoSpan, ex_NoSpan_NoLay, ex_NoSpan_CopperError, ex_NoSpan_ValueError, ex_NoLay_NoShape, ex_NoLay_NoBoard, ex_NoLay_NoPlace, ex_NoLay_NoPicture, ex_NoLay_NoCopper, ex_NoLay_NoRules, ex_NoLay_NoDrawing, ex_NoLay_NoPin, ex_NoLay_NoSpan, ex_NoLay_NoLay, ex_NoLay_CopperError, ex_NoLay_ValueError]
  all_goals refine wNew_of fun x1 S3 _ e3 g3 => wNew_of fun x2 S4 _ e4 g4 => ?_
  all_goals simp only [wBin, e4 _ _ g3, g4]
  all_goals refine ⟨by decide +kernel, wNew_of fun x3 S5 _ e5 g5 => wNew_of fun x4 S6 _ e6 g6 => ?_⟩
  all_goals simp only [wBin, e6 _ _ g5, g6]
  all_goals refine ⟨by decide +kernel, wNew_of fun x5 S7 _ e7 g7 => hK S7 x5 ((((((e12.trans e3).trans e4).trans e5).trans e6).trans e7)) (by rw [g7]; rfl)⟩
theorem c_cell {a : Addr} {ns : List Int} {j : Nat} {S : Sto} {Kt_ : Kt} {X : KtE} (ha : lstAt S a = some (ns.map D.int)) (hK : Kt_ (.int (ns.getD j 0)) S) : wCall (feOf (GL K tab n) d__law_cell) [.ref a, .int j] S Kt_ X := by
  refine call_w rfl ?_
  simp only [d__law_cell, ↓wSs, ↓wS, ↓wE, ↓wEs, ↓wI, ↓wIfs, ↓wO, ↓wTg, ↓wTgs, ↓reduceIte, ofS_eq, ofS_beq, String.reduceEq, String.reduceBEq, List.lookup_cons, List.lookup_nil, wipeD, startD, endD, nmO, List.map_cons, List.map_nil, List.cons_append, List.nil_append, List.append_nil, List.getElem?_cons_zero, List.getElem?_cons_succ, List.length_cons, List.length_nil, List.replicate_succ, List.replicate_zero, List.set_cons_zero, List.set_cons_succ, if_true, if_false, Bool.false_eq_true, reduceIte, Bool.not_true, Bool.not_false, wTru, tv, Nat.zero_add, Nat.reduceAdd, ci0, ci1, ci2, ci3, ci4, ci5, ci6, Nat.reduceSub, Nat.sub_self, Nat.le_refl, Nat.reduceLeDiff, sizeLine_eq, Nat.reduceLT, true_and, and_true, and_self, Bool.and_false, Bool.or_false, Bool.or_true, Bool.and_true, Bool.true_and, Bool.true_or, Bool.false_or, Bool.false_and, decide_true, decide_false, ne_eq, not_true_eq_false, not_false_eq_true, List.drop_zero, List.drop_nil, List.drop_succ_cons, wBf, ha, wCmp, wLt, List.length_map]
  by_cases h : j < ns.length
  · have h' : (j : Int) < (ns.length : Int) := by omega
    simp only [h', ↓wSs, ↓wS, ↓wE, ↓wEs, ↓wI, ↓wIfs, ↓wO, ↓wTg, ↓wTgs, ↓reduceIte, ofS_eq, ofS_beq, String.reduceEq, String.reduceBEq, List.lookup_cons, List.lookup_nil, wipeD, startD, endD, nmO, List.map_cons, List.map_nil, List.cons_append, List.nil_append, List.append_nil, List.getElem?_cons_zero, List.getElem?_cons_succ, List.length_cons, List.length_nil, List.replicate_succ, List.replicate_zero, List.set_cons_zero, List.set_cons_succ, if_true, if_false, Bool.false_eq_true, reduceIte, Bool.not_true, Bool.not_false, wTru, tv, Nat.zero_add, Nat.reduceAdd, ci0, ci1, ci2, ci3, ci4, ci5, ci6, Nat.reduceSub, Nat.sub_self, Nat.le_refl, Nat.reduceLeDiff, sizeLine_eq, Nat.reduceLT, true_and, and_true, and_self, Bool.and_false, Bool.or_false, Bool.or_true, Bool.and_true, Bool.true_and, Bool.true_or, Bool.false_or, Bool.false_and, decide_true, decide_false, ne_eq, not_true_eq_false, not_false_eq_true, List.drop_zero, List.drop_nil, List.drop_succ_cons]
    have e1 : (ns.map D.int)[j]? = some (.int (ns.getD j 0)) := by
      rw [List.getElem?_map, List.getElem?_eq_getElem h, List.getD_eq_getElem?_getD, List.getElem?_eq_getElem h]
      rfl
    unfold lstAt at ha
    unfold wSub
    split at ha
    · rename_i ds hd
      simp only [hd]
      exact ⟨_, _, _, by unfold lstAt; rw [hd]; exact ha, rfl, atI_nat e1, hK⟩
    · rename_i ds hd
      simp only [hd]
      exact ⟨_, _, _, by unfold lstAt; rw [hd]; exact ha, rfl, atI_nat e1, hK⟩
    · cases ha
  · have h' : ¬ ((j : Int) < (ns.length : Int)) := by omega
    simp only [h', ↓wSs, ↓wS, ↓wE, ↓wEs, ↓wI, ↓wIfs, ↓wO, ↓wTg, ↓wTgs, ↓reduceIte, ofS_eq, ofS_beq, String.reduceEq, String.reduceBEq, List.lookup_cons, List.lookup_nil, wipeD, startD, endD, nmO, List.map_cons, List.map_nil, List.cons_append, List.nil_append, List.append_nil, List.getElem?_cons_zero, List.getElem?_cons_succ, List.length_cons, List.length_nil, List.replicate_succ, List.replicate_zero, List.set_cons_zero, List.set_cons_succ, if_true, if_false, Bool.false_eq_true, reduceIte, Bool.not_true, Bool.not_false, wTru, tv, Nat.zero_add, Nat.reduceAdd, ci0, ci1, ci2, ci3, ci4, ci5, ci6, Nat.reduceSub, Nat.sub_self, Nat.le_refl, Nat.reduceLeDiff, sizeLine_eq, Nat.reduceLT, true_and, and_true, and_self, Bool.and_false, Bool.or_false, Bool.or_true, Bool.and_true, Bool.true_and, Bool.true_or, Bool.false_or, Bool.false_and, decide_true, decide_false, ne_eq, not_true_eq_false, not_false_eq_true, List.drop_zero, List.drop_nil, List.drop_succ_cons]
    rw [List.getD_eq_getElem?_getD, List.getElem?_eq_none (by omega)] at hK
    exact hK
theorem plain_of (hd : ∀ (k : Nat), k < 10 → ∀ (m : Int), 0 ≤ m → ∀ (S : Sto) (Kt_ : Kt) (X : KtE), (∀ S', Ext S S' → X (kinds.getD k "") S') → wCall (feOf (GL K tab (n + 1)) d__law_done) [.int k, .int m] S Kt_ X)
    (a : Addr) (ns : List Int) (S : Sto) (h3 : lstAt S a = some (ns.map D.int)) :
      wSs (GL K tab (n + 3)) d_law.il (endD fun v _ => v = .bl true) (fun _ _ _ => False) (startD d_law.N [.ref a]) S := by
  simp only [d_law, ↓wSs, ↓wS, ↓wE, ↓wEs, ↓wI, ↓wIfs, ↓wO, ↓wTg, ↓wTgs, ↓reduceIte, ofS_eq, ofS_beq, String.reduceEq, String.reduceBEq, List.lookup_cons, List.lookup_nil, wipeD, startD, endD, nmO, List.map_cons, List.map_nil, List.cons_append, List.nil_append, List.append_nil, List.getElem?_cons_zero, List.getElem?_cons_succ, List.length_cons, List.length_nil, List.replicate_succ, List.replicate_zero, List.set_cons_zero, List.set_cons_succ, if_true, if_false, Bool.false_eq_true, reduceIte, Bool.not_true, Bool.not_false, wTru, tv, Nat.zero_add, Nat.reduceAdd, ci0, ci1, ci2, ci3, ci4, ci5, ci6, Nat.reduceSub, Nat.sub_self, Nat.le_refl, Nat.reduceLeDiff, sizeLine_eq, Nat.reduceLT, true_and, and_true, and_self, Bool.and_false, Bool.or_false, Bool.or_true, Bool.and_true, Bool.true_and, Bool.true_or, Bool.false_or, Bool.false_and, decide_true, decide_false, ne_eq, not_true_eq_false, not_false_eq_true, List.drop_zero, List.drop_nil, List.drop_succ_cons, fn__law_cell]
  refine c_cell K (n + 2) (j := 0) h3 ?_
  simp only [wBin]
  refine ⟨⟨by decide, by decide, by decide +kernel⟩, by decide +kernel, c_cell K (n + 2) (j := 1) h3 ?_⟩
  refine ⟨by decide, by decide, wNew_of fun la S1 hla e1 g1 => ?_⟩
  have hmore : 0 ≤ ns.getD 0 0 % 10 ^ Int.toNat 39 := Int.emod_nonneg _ (by decide +kernel)
  generalize ns.getD 0 0 % 10 ^ Int.toNat 39 = more at hmore ⊢
  refine ⟨fun m ρ S' => ∃ (rest : Int) (ks : List Nat) (o4 o5 o6 : Option D), m = ks.length ∧ ks.length ≤ 10 ∧ ρ = [some (.ref a), some (.int more), some (.int rest), some (.ref la), o4, o5, o6] ∧ S' la = some (.lst (ks.map fun (k : Nat) => D.int k)) ∧ ∀ k ∈ ks, k < 10,
    ⟨10, ns.getD 1 0, List.range 10, none, none, none, rfl, by decide, rfl, by rw [g1]; rfl, fun k hk => List.mem_range.mp hk⟩, ?_⟩
  rintro m ρ S' ⟨rest, ks, o4, o5, o6, rfl, hl, rfl, g, hks⟩
  simp only [↓wSs, ↓wS, ↓wE, ↓wEs, ↓wI, ↓wIfs, ↓wO, ↓wTg, ↓wTgs, ↓reduceIte, ofS_eq, ofS_beq, String.reduceEq, String.reduceBEq, List.lookup_cons, List.lookup_nil, wipeD, startD, endD, nmO, List.map_cons, List.map_nil, List.cons_append, List.nil_append, List.append_nil, List.getElem?_cons_zero, List.getElem?_cons_succ, List.length_cons, List.length_nil, List.replicate_succ, List.replicate_zero, List.set_cons_zero, List.set_cons_succ, if_true, if_false, Bool.false_eq_true, reduceIte, Bool.not_true, Bool.not_false, wTru, tv, Nat.zero_add, Nat.reduceAdd, ci0, ci1, ci2, ci3, ci4, ci5, ci6, Nat.reduceSub, Nat.sub_self, Nat.le_refl, Nat.reduceLeDiff, sizeLine_eq, Nat.reduceLT, true_and, and_true, and_self, Bool.and_false, Bool.or_false, Bool.or_true, Bool.and_true, Bool.true_and, Bool.true_or, Bool.false_or, Bool.false_and, decide_true, decide_false, ne_eq, not_true_eq_false, not_false_eq_true, List.drop_zero, List.drop_nil, List.drop_succ_cons]
  refine wNew_of fun u S2 hu e2 g2 => ?_
  have g' := e2 _ _ g
  have hpd : ∀ ks : List Nat, pdl (pd 7 S2) (ks.map fun (k : Nat) => D.int k) = some (ks.map fun (k : Nat) => PyData.int k) := by
    intro ks
    induction ks with
    | nil => rfl
    | cons k ks ih => simp only [List.map_cons]; unfold pdl; rw [ih]; rfl
  have hne : wCmp .NotEq (.ref la) (.ref u) S2 = fun Kb => wEqD (.ref la) (.ref u) S2 fun b => Kb (!b) := rfl
  have pla : pd 8 S2 (.ref la) = some (.list (ks.map fun (k : Nat) => PyData.int k)) := by
    show (match lstAt S2 la with | some ds => (pdl (pd 7 S2) ds).map PyData.list | none => none) = _
    rw [lst_of_ g']; simp only [hpd, Option.map_some]
  have pu : pd 8 S2 (.ref u) = some (.list []) := by
    show (match lstAt S2 u with | some ds => (pdl (pd 7 S2) ds).map PyData.list | none => none) = _
    rw [lst_of_ g2]; rfl
  have hsh : SeqAt.shaped (.list (ks.map fun (k : Nat) => PyData.int k)) = true := by
    have h1 : ∀ ks : List Nat, PyData.canLayAll0 (ks.map fun (k : Nat) => PyData.int k) = true ∧ PyData.depthAll (ks.map fun (k : Nat) => PyData.int k) = 0 := by
      intro ks
      induction ks with
      | nil => exact ⟨by simp only [List.map_nil, PyData.canLayAll0], by simp only [List.map_nil, PyData.depthAll]⟩
      | cons k ks ih => exact ⟨by simp only [List.map_cons, PyData.canLayAll0, PyData.canLay0, ih.1, Bool.and_self], by simp only [List.map_cons, PyData.depthAll, PyData.depth, ih.2, Nat.max_self]⟩
    obtain ⟨q1, q2⟩ := h1 ks
    simp only [SeqAt.shaped, PyData.canLay0, PyData.depth, q1, q2]
    decide
  cases ks with
  | nil =>
    refine ⟨_, _, pla, pu, hsh, rfl, ?_⟩
    show True
    trivial
  | cons k0 kr =>
    refine ⟨_, _, pla, pu, hsh, rfl, ?_⟩
    rw [show PyData.eqv (.list ((k0 :: kr).map fun (k : Nat) => PyData.int k)) (.list []) = false from rfl]
    simp only [↓wSs, ↓wS, ↓wE, ↓wEs, ↓wI, ↓wIfs, ↓wO, ↓wTg, ↓wTgs, ↓reduceIte, ofS_eq, ofS_beq, String.reduceEq, String.reduceBEq, List.lookup_cons, List.lookup_nil, wipeD, startD, endD, nmO, List.map_cons, List.map_nil, List.cons_append, List.nil_append, List.append_nil, List.getElem?_cons_zero, List.getElem?_cons_succ, List.length_cons, List.length_nil, List.replicate_succ, List.replicate_zero, List.set_cons_zero, List.set_cons_succ, if_true, if_false, Bool.false_eq_true, reduceIte, Bool.not_true, Bool.not_false, wTru, tv, Nat.zero_add, Nat.reduceAdd, ci0, ci1, ci2, ci3, ci4, ci5, ci6, Nat.reduceSub, Nat.sub_self, Nat.le_refl, Nat.reduceLeDiff, sizeLine_eq, Nat.reduceLT, true_and, and_true, and_self, Bool.and_false, Bool.or_false, Bool.or_true, Bool.and_true, Bool.true_and, Bool.true_or, Bool.false_or, Bool.false_and, decide_true, decide_false, ne_eq, not_true_eq_false, not_false_eq_true, List.drop_zero, List.drop_nil, List.drop_succ_cons, bty, g', mT, wBf, lst_of_ g', List.length_map]
    refine ⟨by omega, ?_⟩
    obtain ⟨j, hj⟩ : ∃ j : Nat, rest % ((kr.length + 1 : Nat) : Int) = (j : Int) := ⟨(rest % ((kr.length + 1 : Nat) : Int)).toNat, by have := Int.emod_nonneg rest (b := ((kr.length + 1 : Nat) : Int)) (by omega); omega⟩
    have hj2 : j < kr.length + 1 := by have := Int.emod_lt_of_pos rest (b := ((kr.length + 1 : Nat) : Int)) (by omega); omega
    rw [hj]
    have hl' : kr.length + 1 ≤ 10 := hl
    have hjl : j < (k0 :: kr).length := hj2
    have hk10 : (k0 :: kr)[j] < 10 := hks _ (List.getElem_mem hjl)
    simp only [wBm, g']
    refine ⟨j, .int ((k0 :: kr)[j] : Nat), ?_, ?_, ?_, ?_⟩
    · unfold L2.ixN
      rw [if_pos (by omega), if_pos (by simp; omega)]
      rfl
    · rw [sizeLine_eq, List.length_map]; simp only [List.length_cons]; omega
    · show ((k0 :: kr).map fun (k : Nat) => D.int k)[j]? = _
      rw [List.getElem?_map, List.getElem?_eq_getElem hjl]; rfl
    generalize (k0 :: kr)[j] = kj at hk10 ⊢
    have her : ((k0 :: kr).map fun (k : Nat) => D.int k).eraseIdx j = ((k0 :: kr).eraseIdx j).map fun (k : Nat) => D.int k := by
      have : ∀ (l : List Nat) (j : Nat), (l.map fun (k : Nat) => D.int k).eraseIdx j = (l.eraseIdx j).map fun (k : Nat) => D.int k := by
        intro l
        induction l with
        | nil => intro j; rfl
        | cons x l ih =>
          intro j
          cases j with
          | zero => rfl
          | succ j => simp only [List.map_cons, List.eraseIdx_cons_succ, ih]
      exact this _ _
    have her' : (k0 :: kr).map (fun (k : Nat) => D.int k) = D.int (k0 : Nat) :: kr.map fun (k : Nat) => D.int k := rfl
    rw [her]
    have hks' : ∀ k ∈ (k0 :: kr).eraseIdx j, k < 10 := fun k hk => hks k (List.mem_of_mem_eraseIdx hk)
    have hlen : ((k0 :: kr).eraseIdx j).length = kr.length := by rw [List.length_eraseIdx, if_pos hjl]; rfl
    generalize (k0 :: kr).eraseIdx j = ke at hks' hlen ⊢
    refine ⟨⟨by decide, by decide⟩, ⟨by decide, by decide⟩, ?_⟩
    refine wLoop_of (fun r ρ S' => (∃ o5 o6, ρ = [some (.ref a), some (.int more), some (.int (rest / 10)), some (.ref la), some (.int kj), o5, o6]) ∧ S' la = some (.lst (ke.map fun (k : Nat) => D.int k)) ∧ ∀ d ∈ r, ∃ t : Int, 0 ≤ t ∧ d = .int t) ?_ ?_ _ _ _ ⟨⟨_, _, rfl⟩, put_same, fun d hd => ?_⟩
    · rintro ρ S3 ⟨⟨o5, o6, rfl⟩, g3, _⟩
      exact ⟨trivial, kr.length, by simp, _, ke, _, _, _, hlen.symm, by omega, rfl, g3, hks'⟩
    · rintro d r ρ S3 nx ⟨⟨o5, o6, rfl⟩, g3, hr⟩ hnx
      refine ⟨trivial, ?_⟩
      obtain ⟨t, ht, rfl⟩ := hr d List.mem_cons_self
      simp only [↓wSs, ↓wS, ↓wE, ↓wEs, ↓wI, ↓wIfs, ↓wO, ↓wTg, ↓wTgs, ↓reduceIte, ofS_eq, ofS_beq, String.reduceEq, String.reduceBEq, List.lookup_cons, List.lookup_nil, wipeD, startD, endD, nmO, List.map_cons, List.map_nil, List.cons_append, List.nil_append, List.append_nil, List.getElem?_cons_zero, List.getElem?_cons_succ, List.length_cons, List.length_nil, List.replicate_succ, List.replicate_zero, List.set_cons_zero, List.set_cons_succ, if_true, if_false, Bool.false_eq_true, reduceIte, Bool.not_true, Bool.not_false, wTru, tv, Nat.zero_add, Nat.reduceAdd, ci0, ci1, ci2, ci3, ci4, ci5, ci6, Nat.reduceSub, Nat.sub_self, Nat.le_refl, Nat.reduceLeDiff, sizeLine_eq, Nat.reduceLT, true_and, and_true, and_self, Bool.and_false, Bool.or_false, Bool.or_true, Bool.and_true, Bool.true_and, Bool.true_or, Bool.false_or, Bool.false_and, decide_true, decide_false, ne_eq, not_true_eq_false, not_false_eq_true, List.drop_zero, List.drop_nil, List.drop_succ_cons, wBin, fn__law_kinds]
      refine c_kinds K n hk10 (m := more + t) (fun S Kt_ X h => hd kj hk10 (more + t) (by omega) S Kt_ X h) fun S4 p e4 g4 => ?_
      refine ⟨⟨by decide, by decide⟩, fun v hv => ?_⟩
      refine wComp_of (fun S5 => Ext S4 S5) (fun d => match d with | .int i => .bl (decide ((kj : Int) = i)) | _ => .non) (fun _ _ => trivial) (fun S5 m e => e.put hv) _ _ _ (fun d hd S5 R e5 hR => ?_) (Ext.refl.put hv) put_same (by decide) (fun S5 e5 g5 => ?_)
      · unfold rangeD at hd
        obtain ⟨z, hz, rfl⟩ := List.mem_map.mp hd
        simp only [↓wSs, ↓wS, ↓wE, ↓wEs, ↓wI, ↓wIfs, ↓wO, ↓wTg, ↓wTgs, ↓reduceIte, ofS_eq, ofS_beq, String.reduceEq, String.reduceBEq, List.lookup_cons, List.lookup_nil, wipeD, startD, endD, nmO, List.map_cons, List.map_nil, List.cons_append, List.nil_append, List.append_nil, List.getElem?_cons_zero, List.getElem?_cons_succ, List.length_cons, List.length_nil, List.replicate_succ, List.replicate_zero, List.set_cons_zero, List.set_cons_succ, if_true, if_false, Bool.false_eq_true, reduceIte, Bool.not_true, Bool.not_false, wTru, tv, Nat.zero_add, Nat.reduceAdd, ci0, ci1, ci2, ci3, ci4, ci5, ci6, Nat.reduceSub, Nat.sub_self, Nat.le_refl, Nat.reduceLeDiff, sizeLine_eq, Nat.reduceLT, true_and, and_true, and_self, Bool.and_false, Bool.or_false, Bool.or_true, Bool.and_true, Bool.true_and, Bool.true_or, Bool.false_or, Bool.false_and, decide_true, decide_false, ne_eq, not_true_eq_false, not_false_eq_true, List.drop_zero, List.drop_nil, List.drop_succ_cons, wCmp, wEq]
        exact hR _ e5 fun _ z => z
      refine wNew_of fun w S6 hw e6 g6 => ?_
      simp only [e6 _ _ g5, g6]
      refine ⟨(by simp only [List.nil_append, List.length_map, rangeD, List.length_range, List.length_singleton]; decide), wNew_of fun y S7 hy e7 g7 => ?_⟩
      have f4 := e7 _ _ (e6 _ _ (e5 _ _ g4))
      have hle : ([] ++ List.map (fun d => match d with | .int i => D.bl (decide ((kj : Int) = i)) | _ => .non) (rangeD 0 (Int.toNat 10))) ++ [D.bl true] = toldOf kj := by
        rcases kj with _ | _ | _ | _ | _ | _ | _ | _ | _ | _ | kj <;> first | rfl | (exfalso; omega)
      rw [hle] at g7
      have hpd2 : ∀ (S : Sto) (x : Addr), S x = some (.lst (toldOf kj)) → pd 8 S (.ref x) = some (.list ((toldOf kj).map fun d => match d with | .bl b => PyData.bool b | _ => .none)) := fun S x hx => by
        show (match lstAt S x with | some ds => (pdl (pd 7 S) ds).map PyData.list | none => none) = _
        rw [lst_of_ hx]
        rfl
      have hsh2 : SeqAt.shaped (.list ((toldOf kj).map fun d => match d with | .bl b => PyData.bool b | _ => .none)) = true ∧ PyData.eqv (.list ((toldOf kj).map fun d => match d with | .bl b => PyData.bool b | _ => .none)) (.list ((toldOf kj).map fun d => match d with | .bl b => PyData.bool b | _ => .none)) = true := by
        rcases kj with _ | _ | _ | _ | _ | _ | _ | _ | _ | _ | kj <;> first | exact ⟨by decide +kernel, by decide +kernel⟩ | (exfalso; omega)
      refine ⟨_, _, hpd2 S7 p f4, hpd2 S7 y g7, hsh2.1, hsh2.1, ?_⟩
      rw [hsh2.2]
      simp only [↓wSs, ↓wS, ↓wE, ↓wEs, ↓wI, ↓wIfs, ↓wO, ↓wTg, ↓wTgs, ↓reduceIte, ofS_eq, ofS_beq, String.reduceEq, String.reduceBEq, List.lookup_cons, List.lookup_nil, wipeD, startD, endD, nmO, List.map_cons, List.map_nil, List.cons_append, List.nil_append, List.append_nil, List.getElem?_cons_zero, List.getElem?_cons_succ, List.length_cons, List.length_nil, List.replicate_succ, List.replicate_zero, List.set_cons_zero, List.set_cons_succ, if_true, if_false, Bool.false_eq_true, reduceIte, Bool.not_true, Bool.not_false, wTru, tv, Nat.zero_add, Nat.reduceAdd, ci0, ci1, ci2, ci3, ci4, ci5, ci6, Nat.reduceSub, Nat.sub_self, Nat.le_refl, Nat.reduceLeDiff, sizeLine_eq, Nat.reduceLT, true_and, and_true, and_self, Bool.and_false, Bool.or_false, Bool.or_true, Bool.and_true, Bool.true_and, Bool.true_or, Bool.false_or, Bool.false_and, decide_true, decide_false, ne_eq, not_true_eq_false, not_false_eq_true, List.drop_zero, List.drop_nil, List.drop_succ_cons]
      refine hnx _ _ ⟨⟨_, _, rfl⟩, e7 _ _ (e6 _ _ (e5 _ _ (e4 _ _ g3))), fun d hd => hr d (List.mem_cons_of_mem _ hd)⟩
    · unfold rangeD at hd
      obtain ⟨z, hz, rfl⟩ := List.mem_map.mp hd
      exact ⟨_, by omega, rfl⟩
end
end DL.K16

namespace DL.K16
open PySem PySem.Spec PyProof.Rows
theorem plain (K : PySem.W.Frag) (a : Addr) (ns : List Int) (S : Sto) (h1 : ns.length ≤ 63) (h2 : ∀ z ∈ ns, Builtin.Int.intBits z ≤ 1048576) (h3 : lstAt S a = some (ns.map D.int)) (h4 : ∀ b, b ≠ a → S b = none) :
      wSs (GL K tab 12) d_law.il (endD fun v _ => v = .bl true) (fun _ _ _ => False) (startD d_law.N [.ref a]) S := by
  refine plain_of K 9 (fun k hk m hm S Kt_ X h => ?_) a ns S h3
  rcases k with _ | _ | _ | _ | _ | _ | _ | _ | _ | _ | k
  · exact done0 K 6 h
  · exact done1 K 6 h
  · exact done2 K 6 hm h
  · exact done3 K 6 hm h
  · exact done4 K 6 hm h
  · exact done5 K 6 hm h
  · exact done6 K 3 hm h
  · exact done7 K 3 hm h
  · exact done8 K 6 hm h
  · exact done9 K 1 hm h
  · omega
end DL.K16


namespace DL.K16
open PySem PySem.Spec PyProof.Rows L2
abbrev top (i : Nat) : Stmt := PySem.Challenge.pw_copperbook_k16_refusals_apart.main.body.getD i (.Pass ⟨0, 0, 0, 0⟩)
abbrev inC (i j : Nat) : Stmt := inClass (top i) j
def cFns : List Str := (["check_copper", "beside", "near", "come_to", "island_of", "islands", "is_whole", "is_cell", "check_places", "homes_of"] : List Str) ++ (["opens_of", "shorts_of", "against", "steps", "spread", "wave", "put_way", "way_for", "lay_net", "check_lay"] : List Str) ++ (["checked_order", "lay_all", "is_measure", "check_spans", "row_for", "lanes", "is_name", "are_tuples", "is_pin", "check_kinds"] : List Str) ++ (["check_names", "pins_of", "sign", "picture", "sure", "measure", "empty_board", "put_sign", "read_picture", "within"] : List Str) ++ (["is_keep", "check_numbers", "places_of", "texted", "_law_cell", "_law_bare", "_law_done", "_law_kinds", "law"] : List Str)
def cMks : List Str := (["Field", "Board", "Drawing", "Rules", "Shape", "Block"] : List Str)
def cExs : List Str := (["CopperError", "NoShape", "NoBoard", "NoPlace", "NoPicture", "NoCopper", "NoRules", "NoDrawing", "NoPin", "NoSpan"] : List Str) ++ (["NoLay", "ValueError"] : List Str)
def cRss : List Str := (["CopperError", "NoShape", "NoBoard", "NoPlace", "NoPicture", "NoCopper", "NoRules", "NoDrawing", "NoPin", "NoSpan"] : List Str) ++ (["NoLay"] : List Str)
def cMts : List Str := (["cells", "check", "clear", "copy", "drill", "ends", "filled", "foreign_column", "has_hole", "holes"] : List Str) ++ (["is_copper", "is_open", "is_square", "kept_clear", "lay", "mirrored", "moved", "near_foreign", "net_of", "pins"] : List Str) ++ (["plug", "price", "put", "same_as", "squares", "take", "through", "told", "turned"] : List Str)
def T_check_copper : TC := ⟨["board", "cell"], (defScope (top 14)).names, cFns, cMks, cExs, cRss, cMts⟩
def T_beside : TC := ⟨["board", "cell", "x", "y", "z", "found", "layer"], (defScope (top 15)).names, cFns, cMks, cExs, cRss, cMts⟩
def T_near : TC := ⟨["board", "cell", "other"], (defScope (top 16)).names, cFns, cMks, cExs, cRss, cMts⟩
def T_come_to : TC := ⟨["board", "cell", "ahead", "row", "more", "one", "other"], (defScope (top 17)).names, cFns, cMks, cExs, cRss, cMts⟩
def T_island_of : TC := ⟨["board", "cell"], (defScope (top 18)).names, cFns, cMks, cExs, cRss, cMts⟩
def T_islands : TC := ⟨["board", "seen", "found", "cell", "other"], (defScope (top 19)).names, cFns, cMks, cExs, cRss, cMts⟩
def T_is_whole : TC := ⟨["thing"], (defScope (top 21)).names, cFns, cMks, cExs, cRss, cMts⟩
def T_is_cell : TC := ⟨["thing", "number"], (defScope (top 23)).names, cFns, cMks, cExs, cRss, cMts⟩
def T_check_places : TC := ⟨["board", "drawing", "places", "pin", "x", "y", "z"], (defScope (top 24)).names, cFns, cMks, cExs, cRss, cMts⟩
def T_homes_of : TC := ⟨["board", "places", "found", "number", "island", "pin"], (defScope (top 25)).names, cFns, cMks, cExs, cRss, cMts⟩
def T_opens_of : TC := ⟨["name", "pins", "homes", "some", "pin"], (defScope (top 26)).names, cFns, cMks, cExs, cRss, cMts⟩
def T_shorts_of : TC := ⟨["one", "other", "homes", "first", "last", "pin", "at"], (defScope (top 27)).names, cFns, cMks, cExs, cRss, cMts⟩
def T_against : TC := ⟨["board", "drawing", "places", "homes", "found", "nets", "k", "other", "pin"], (defScope (top 28)).names, cFns, cMks, cExs, cRss, cMts⟩
def T_steps : TC := ⟨["size", "through", "cell", "x", "y", "z", "wide", "high", "layers", "found", "across", "down", "change", "layer"], (defScope (top 30)).names, cFns, cMks, cExs, cRss, cMts⟩
def T_spread : TC := ⟨["size", "price", "through", "starts", "numbers", "ahead", "waiting", "number", "cell", "back", "other", "change", "cost"], (defScope (top 31)).names, cFns, cMks, cExs, cRss, cMts⟩
def T_wave : TC := ⟨["size", "price", "through", "starts", "goals", "numbers", "ahead", "reached", "total", "goal", "way", "cell"], (defScope (top 32)).names, cFns, cMks, cExs, cRss, cMts⟩
def T_Field_init : TC := ⟨["self", "board", "rules", "own", "cell"], (defScope (inC 36 0)).names, cFns, cMks, cExs, cRss, cMts⟩
def T_Field_near_foreign : TC := ⟨["self", "cell", "x", "y", "z", "gap", "down", "across", "spot"], (defScope (inC 36 1)).names, cFns, cMks, cExs, cRss, cMts⟩
def T_Field_foreign_column : TC := ⟨["self", "x", "y", "z"], (defScope (inC 36 2)).names, cFns, cMks, cExs, cRss, cMts⟩
def T_Field_kept_clear : TC := ⟨["self", "cell", "x", "y", "z", "left", "above", "wide", "high", "layer"], (defScope (inC 36 3)).names, cFns, cMks, cExs, cRss, cMts⟩
def T_Field_price : TC := ⟨["self", "cell"], (defScope (inC 36 4)).names, cFns, cMks, cExs, cRss, cMts⟩
def T_Field_is_open : TC := ⟨["self", "cell"], (defScope (inC 36 5)).names, cFns, cMks, cExs, cRss, cMts⟩
def T_Field_through : TC := ⟨["self", "x", "y"], (defScope (inC 36 6)).names, cFns, cMks, cExs, cRss, cMts⟩
def T_put_way : TC := ⟨["board", "cells", "k"], (defScope (top 37)).names, cFns, cMks, cExs, cRss, cMts⟩
def T_way_for : TC := ⟨["board", "rules", "spots", "home", "goals", "spot", "field", "price", "through", "cell", "x", "y"], (defScope (top 38)).names, cFns, cMks, cExs, cRss, cMts⟩
def T_lay_net : TC := ⟨["board", "rules", "spots", "ways", "found"], (defScope (top 39)).names, cFns, cMks, cExs, cRss, cMts⟩
def T_check_lay : TC := ⟨["board", "rules", "drawing", "places", "row"], (defScope (top 40)).names, cFns, cMks, cExs, cRss, cMts⟩
def T_checked_order : TC := ⟨["drawing", "order", "names", "net", "name"], (defScope (top 41)).names, cFns, cMks, cExs, cRss, cMts⟩
def T_lay_all : TC := ⟨["board", "rules", "drawing", "places", "order", "names", "other", "nets", "name", "pins", "ways", "spots", "found", "numbers", "pin", "cells"], (defScope (top 42)).names, cFns, cMks, cExs, cRss, cMts⟩
def T_is_measure : TC := ⟨["number", "most"], (defScope (top 46)).names, cFns, cMks, cExs, cRss, cMts⟩
def T_Board_init : TC := ⟨["self", "wide", "high", "layers", "z"], (defScope (inC 47 0)).names, cFns, cMks, cExs, cRss, cMts⟩
def T_Board_is_square : TC := ⟨["self", "x", "y"], (defScope (inC 47 1)).names, cFns, cMks, cExs, cRss, cMts⟩
def T_Board_check : TC := ⟨["self", "cells", "x", "y", "z"], (defScope (inC 47 2)).names, cFns, cMks, cExs, cRss, cMts⟩
def T_Board_put : TC := ⟨["self", "cells", "x", "y", "z"], (defScope (inC 47 3)).names, cFns, cMks, cExs, cRss, cMts⟩
def T_Board_drill : TC := ⟨["self", "x", "y"], (defScope (inC 47 7)).names, cFns, cMks, cExs, cRss, cMts⟩
def T_Board_is_copper : TC := ⟨["self", "x", "y", "z"], (defScope (inC 47 9)).names, cFns, cMks, cExs, cRss, cMts⟩
def T_Board_has_hole : TC := ⟨["self", "x", "y"], (defScope (inC 47 10)).names, cFns, cMks, cExs, cRss, cMts⟩
def T_Board_squares : TC := ⟨["self", "k"], (defScope (inC 47 11)).names, cFns, cMks, cExs, cRss, cMts⟩
def T_Board_cells : TC := ⟨["self", "z", "found", "x", "y", "layer"], (defScope (inC 47 12)).names, cFns, cMks, cExs, cRss, cMts⟩
def T_Board_holes : TC := ⟨["self", "spot"], (defScope (inC 47 13)).names, cFns, cMks, cExs, cRss, cMts⟩
def T_Board_filled : TC := ⟨["self", "cells", "holes", "x", "y"], (defScope (inC 47 14)).names, cFns, cMks, cExs, cRss, cMts⟩
def T_Board_copy : TC := ⟨["self"], (defScope (inC 47 15)).names, cFns, cMks, cExs, cRss, cMts⟩
def T_Board_turned : TC := ⟨["self", "last", "cells", "x", "y", "z"], (defScope (inC 47 17)).names, cFns, cMks, cExs, cRss, cMts⟩
def T_check_spans : TC := ⟨["spans", "nets", "net", "left", "right"], (defScope (top 49)).names, cFns, cMks, cExs, cRss, cMts⟩
def T_row_for : TC := ⟨["rows", "left", "row"], (defScope (top 50)).names, cFns, cMks, cExs, cRss, cMts⟩
def T_lanes : TC := ⟨["spans", "rows", "column", "span", "row", "nets", "one", "net", "left", "right"], (defScope (top 51)).names, cFns, cMks, cExs, cRss, cMts⟩
def T_is_name : TC := ⟨["text", "sign"], (defScope (top 59)).names, cFns, cMks, cExs, cRss, cMts⟩
def T_are_tuples : TC := ⟨["things", "many", "thing"], (defScope (top 60)).names, cFns, cMks, cExs, cRss, cMts⟩
def T_is_pin : TC := ⟨["thing"], (defScope (top 61)).names, cFns, cMks, cExs, cRss, cMts⟩
def T_check_kinds : TC := ⟨["parts", "nets", "name", "pins", "pin"], (defScope (top 62)).names, cFns, cMks, cExs, cRss, cMts⟩
def T_check_names : TC := ⟨["names", "name"], (defScope (top 63)).names, cFns, cMks, cExs, cRss, cMts⟩
def T_pins_of : TC := ⟨["parts", "found", "name", "kind", "many", "number"], (defScope (top 64)).names, cFns, cMks, cExs, cRss, cMts⟩
def T_Drawing_init : TC := ⟨["self", "parts", "nets", "name", "pins", "pin", "part", "net"], (defScope (inC 65 0)).names, cFns, cMks, cExs, cRss, cMts⟩
def T_Drawing_pins : TC := ⟨["self"], (defScope (inC 65 1)).names, cFns, cMks, cExs, cRss, cMts⟩
def T_Drawing_net_of : TC := ⟨["self", "pin"], (defScope (inC 65 2)).names, cFns, cMks, cExs, cRss, cMts⟩
def T_sign : TC := ⟨["board", "x", "y", "z"], (defScope (top 70)).names, cFns, cMks, cExs, cRss, cMts⟩
def T_picture : TC := ⟨["board", "rows", "z", "y", "x", "row"], (defScope (top 71)).names, cFns, cMks, cExs, cRss, cMts⟩
def T_sure : TC := ⟨["good"], (defScope (top 72)).names, cFns, cMks, cExs, cRss, cMts⟩
def T_measure : TC := ⟨["word"], (defScope (top 73)).names, cFns, cMks, cExs, cRss, cMts⟩
def T_empty_board : TC := ⟨["words", "numbers", "board", "word"], (defScope (top 74)).names, cFns, cMks, cExs, cRss, cMts⟩
def T_put_sign : TC := ⟨["board", "x", "y", "z", "one"], (defScope (top 75)).names, cFns, cMks, cExs, cRss, cMts⟩
def T_read_picture : TC := ⟨["text", "rows", "board", "k", "row", "z", "y", "x", "one"], (defScope (top 76)).names, cFns, cMks, cExs, cRss, cMts⟩
def T_within : TC := ⟨["number", "least", "most"], (defScope (top 80)).names, cFns, cMks, cExs, cRss, cMts⟩
def T_is_keep : TC := ⟨["keep", "x", "y", "wide", "high", "z", "ahead", "number"], (defScope (top 81)).names, cFns, cMks, cExs, cRss, cMts⟩
def T_Rules_init : TC := ⟨["self", "gap", "width", "rim", "keeps", "keep"], (defScope (inC 82 0)).names, cFns, cMks, cExs, cRss, cMts⟩
def T_Rules_told : TC := ⟨["self", "rows", "keep", "number", "row"], (defScope (inC 82 1)).names, cFns, cMks, cExs, cRss, cMts⟩
def T_check_numbers : TC := ⟨["numbers", "least", "number"], (defScope (top 84)).names, cFns, cMks, cExs, cRss, cMts⟩
def T_places_of : TC := ⟨["x", "y", "wide", "high", "found", "across", "down"], (defScope (top 85)).names, cFns, cMks, cExs, cRss, cMts⟩
def T_texted : TC := ⟨["word", "numbers", "number"], (defScope (top 86)).names, cFns, cMks, cExs, cRss, cMts⟩
def T_Shape_cells : TC := ⟨["self"], (defScope (inC 87 0)).names, cFns, cMks, cExs, cRss, cMts⟩
def T_Shape_ends : TC := ⟨["self"], (defScope (inC 87 1)).names, cFns, cMks, cExs, cRss, cMts⟩
def T_Shape_turned : TC := ⟨["self", "high"], (defScope (inC 87 3)).names, cFns, cMks, cExs, cRss, cMts⟩
def T_Shape_told : TC := ⟨["self"], (defScope (inC 87 5)).names, cFns, cMks, cExs, cRss, cMts⟩
def T_Block_init : TC := ⟨["self", "x", "y", "wide", "high"], (defScope (inC 88 0)).names, cFns, cMks, cExs, cRss, cMts⟩
def T_Block_cells : TC := ⟨["self"], (defScope (inC 88 1)).names, cFns, cMks, cExs, cRss, cMts⟩
def T_Block_ends : TC := ⟨["self"], (defScope (inC 88 2)).names, cFns, cMks, cExs, cRss, cMts⟩
def T_Block_turned : TC := ⟨["self", "high"], (defScope (inC 88 4)).names, cFns, cMks, cExs, cRss, cMts⟩
def T_Block_told : TC := ⟨["self"], (defScope (inC 88 6)).names, cFns, cMks, cExs, cRss, cMts⟩
def T__law_cell : TC := ⟨["script", "k"], (defScope (top 90)).names, cFns, cMks, cExs, cRss, cMts⟩
def T__law_bare : TC := ⟨["more", "drawing", "places"], (defScope (top 91)).names, cFns, cMks, cExs, cRss, cMts⟩
def T__law_done : TC := ⟨["k", "more"], (defScope (top 92)).names, cFns, cMks, cExs, cRss, cMts⟩
def T__law_kinds : TC := ⟨["k", "more", "told", "e"], (defScope (top 93)).names, cFns, cMks, cExs, cRss, cMts⟩
def T_law : TC := ⟨["script", "more", "rest", "left", "k", "turn", "j"], (defScope (top 94)).names, cFns, cMks, cExs, cRss, cMts⟩
def h_check_copper : He.DefD := ⟨("check_copper", none), "check_copper", "check_copper", defArgs (top 14), defBody (top 14), defScope (top 14), [], []⟩
def h_beside : He.DefD := ⟨("beside", none), "beside", "beside", defArgs (top 15), defBody (top 15), defScope (top 15), [], []⟩
def h_near : He.DefD := ⟨("near", none), "near", "near", defArgs (top 16), defBody (top 16), defScope (top 16), [], []⟩
def h_come_to : He.DefD := ⟨("come_to", none), "come_to", "come_to", defArgs (top 17), defBody (top 17), defScope (top 17), [], []⟩
def h_island_of : He.DefD := ⟨("island_of", none), "island_of", "island_of", defArgs (top 18), defBody (top 18), defScope (top 18), [], []⟩
def h_islands : He.DefD := ⟨("islands", none), "islands", "islands", defArgs (top 19), defBody (top 19), defScope (top 19), [], []⟩
def h_is_whole : He.DefD := ⟨("is_whole", none), "is_whole", "is_whole", defArgs (top 21), defBody (top 21), defScope (top 21), [], []⟩
def h_is_cell : He.DefD := ⟨("is_cell", none), "is_cell", "is_cell", defArgs (top 23), defBody (top 23), defScope (top 23), [], []⟩
def h_check_places : He.DefD := ⟨("check_places", none), "check_places", "check_places", defArgs (top 24), defBody (top 24), defScope (top 24), [], []⟩
def h_homes_of : He.DefD := ⟨("homes_of", none), "homes_of", "homes_of", defArgs (top 25), defBody (top 25), defScope (top 25), [], []⟩
def h_opens_of : He.DefD := ⟨("opens_of", none), "opens_of", "opens_of", defArgs (top 26), defBody (top 26), defScope (top 26), [], []⟩
def h_shorts_of : He.DefD := ⟨("shorts_of", none), "shorts_of", "shorts_of", defArgs (top 27), defBody (top 27), defScope (top 27), [], []⟩
def h_against : He.DefD := ⟨("against", none), "against", "against", defArgs (top 28), defBody (top 28), defScope (top 28), [], []⟩
def h_steps : He.DefD := ⟨("steps", none), "steps", "steps", defArgs (top 30), defBody (top 30), defScope (top 30), [], []⟩
def h_spread : He.DefD := ⟨("spread", none), "spread", "spread", defArgs (top 31), defBody (top 31), defScope (top 31), [], []⟩
def h_wave : He.DefD := ⟨("wave", none), "wave", "wave", defArgs (top 32), defBody (top 32), defScope (top 32), [], []⟩
def h_Field_init : He.DefD := ⟨("Field", some "__init__"), "__init__", "Field.__init__", defArgs (inC 36 0), defBody (inC 36 0), defScope (inC 36 0), [], []⟩
def h_Field_near_foreign : He.DefD := ⟨("Field", some "near_foreign"), "near_foreign", "Field.near_foreign", defArgs (inC 36 1), defBody (inC 36 1), defScope (inC 36 1), [], []⟩
def h_Field_foreign_column : He.DefD := ⟨("Field", some "foreign_column"), "foreign_column", "Field.foreign_column", defArgs (inC 36 2), defBody (inC 36 2), defScope (inC 36 2), [], []⟩
def h_Field_kept_clear : He.DefD := ⟨("Field", some "kept_clear"), "kept_clear", "Field.kept_clear", defArgs (inC 36 3), defBody (inC 36 3), defScope (inC 36 3), [], []⟩
def h_Field_price : He.DefD := ⟨("Field", some "price"), "price", "Field.price", defArgs (inC 36 4), defBody (inC 36 4), defScope (inC 36 4), [], []⟩
def h_Field_is_open : He.DefD := ⟨("Field", some "is_open"), "is_open", "Field.is_open", defArgs (inC 36 5), defBody (inC 36 5), defScope (inC 36 5), [], []⟩
def h_Field_through : He.DefD := ⟨("Field", some "through"), "through", "Field.through", defArgs (inC 36 6), defBody (inC 36 6), defScope (inC 36 6), [], []⟩
def h_put_way : He.DefD := ⟨("put_way", none), "put_way", "put_way", defArgs (top 37), defBody (top 37), defScope (top 37), [], []⟩
def h_way_for : He.DefD := ⟨("way_for", none), "way_for", "way_for", defArgs (top 38), defBody (top 38), defScope (top 38), [], []⟩
def h_lay_net : He.DefD := ⟨("lay_net", none), "lay_net", "lay_net", defArgs (top 39), defBody (top 39), defScope (top 39), [], []⟩
def h_check_lay : He.DefD := ⟨("check_lay", none), "check_lay", "check_lay", defArgs (top 40), defBody (top 40), defScope (top 40), [], []⟩
def h_checked_order : He.DefD := ⟨("checked_order", none), "checked_order", "checked_order", defArgs (top 41), defBody (top 41), defScope (top 41), [], []⟩
def h_lay_all : He.DefD := ⟨("lay_all", none), "lay_all", "lay_all", defArgs (top 42), defBody (top 42), defScope (top 42), [.non], []⟩
def h_is_measure : He.DefD := ⟨("is_measure", none), "is_measure", "is_measure", defArgs (top 46), defBody (top 46), defScope (top 46), [], []⟩
def h_Board_init : He.DefD := ⟨("Board", some "__init__"), "__init__", "Board.__init__", defArgs (inC 47 0), defBody (inC 47 0), defScope (inC 47 0), [.int 1], []⟩
def h_Board_is_square : He.DefD := ⟨("Board", some "is_square"), "is_square", "Board.is_square", defArgs (inC 47 1), defBody (inC 47 1), defScope (inC 47 1), [], []⟩
def h_Board_check : He.DefD := ⟨("Board", some "check"), "check", "Board.check", defArgs (inC 47 2), defBody (inC 47 2), defScope (inC 47 2), [], []⟩
def h_Board_put : He.DefD := ⟨("Board", some "put"), "put", "Board.put", defArgs (inC 47 3), defBody (inC 47 3), defScope (inC 47 3), [], []⟩
def h_Board_drill : He.DefD := ⟨("Board", some "drill"), "drill", "Board.drill", defArgs (inC 47 7), defBody (inC 47 7), defScope (inC 47 7), [], []⟩
def h_Board_is_copper : He.DefD := ⟨("Board", some "is_copper"), "is_copper", "Board.is_copper", defArgs (inC 47 9), defBody (inC 47 9), defScope (inC 47 9), [.int 0], []⟩
def h_Board_has_hole : He.DefD := ⟨("Board", some "has_hole"), "has_hole", "Board.has_hole", defArgs (inC 47 10), defBody (inC 47 10), defScope (inC 47 10), [], []⟩
def h_Board_squares : He.DefD := ⟨("Board", some "squares"), "squares", "Board.squares", defArgs (inC 47 11), defBody (inC 47 11), defScope (inC 47 11), [], []⟩
def h_Board_cells : He.DefD := ⟨("Board", some "cells"), "cells", "Board.cells", defArgs (inC 47 12), defBody (inC 47 12), defScope (inC 47 12), [.non], []⟩
def h_Board_holes : He.DefD := ⟨("Board", some "holes"), "holes", "Board.holes", defArgs (inC 47 13), defBody (inC 47 13), defScope (inC 47 13), [], []⟩
def h_Board_filled : He.DefD := ⟨("Board", some "filled"), "filled", "Board.filled", defArgs (inC 47 14), defBody (inC 47 14), defScope (inC 47 14), [], []⟩
def h_Board_copy : He.DefD := ⟨("Board", some "copy"), "copy", "Board.copy", defArgs (inC 47 15), defBody (inC 47 15), defScope (inC 47 15), [], []⟩
def h_Board_turned : He.DefD := ⟨("Board", some "turned"), "turned", "Board.turned", defArgs (inC 47 17), defBody (inC 47 17), defScope (inC 47 17), [], []⟩
def h_check_spans : He.DefD := ⟨("check_spans", none), "check_spans", "check_spans", defArgs (top 49), defBody (top 49), defScope (top 49), [], []⟩
def h_row_for : He.DefD := ⟨("row_for", none), "row_for", "row_for", defArgs (top 50), defBody (top 50), defScope (top 50), [], []⟩
def h_lanes : He.DefD := ⟨("lanes", none), "lanes", "lanes", defArgs (top 51), defBody (top 51), defScope (top 51), [], []⟩
def h_is_name : He.DefD := ⟨("is_name", none), "is_name", "is_name", defArgs (top 59), defBody (top 59), defScope (top 59), [], []⟩
def h_are_tuples : He.DefD := ⟨("are_tuples", none), "are_tuples", "are_tuples", defArgs (top 60), defBody (top 60), defScope (top 60), [], []⟩
def h_is_pin : He.DefD := ⟨("is_pin", none), "is_pin", "is_pin", defArgs (top 61), defBody (top 61), defScope (top 61), [], []⟩
def h_check_kinds : He.DefD := ⟨("check_kinds", none), "check_kinds", "check_kinds", defArgs (top 62), defBody (top 62), defScope (top 62), [], []⟩
def h_check_names : He.DefD := ⟨("check_names", none), "check_names", "check_names", defArgs (top 63), defBody (top 63), defScope (top 63), [], []⟩
def h_pins_of : He.DefD := ⟨("pins_of", none), "pins_of", "pins_of", defArgs (top 64), defBody (top 64), defScope (top 64), [], []⟩
def h_Drawing_init : He.DefD := ⟨("Drawing", some "__init__"), "__init__", "Drawing.__init__", defArgs (inC 65 0), defBody (inC 65 0), defScope (inC 65 0), [], []⟩
def h_Drawing_pins : He.DefD := ⟨("Drawing", some "pins"), "pins", "Drawing.pins", defArgs (inC 65 1), defBody (inC 65 1), defScope (inC 65 1), [], []⟩
def h_Drawing_net_of : He.DefD := ⟨("Drawing", some "net_of"), "net_of", "Drawing.net_of", defArgs (inC 65 2), defBody (inC 65 2), defScope (inC 65 2), [], []⟩
def h_sign : He.DefD := ⟨("sign", none), "sign", "sign", defArgs (top 70), defBody (top 70), defScope (top 70), [], []⟩
def h_picture : He.DefD := ⟨("picture", none), "picture", "picture", defArgs (top 71), defBody (top 71), defScope (top 71), [], []⟩
def h_sure : He.DefD := ⟨("sure", none), "sure", "sure", defArgs (top 72), defBody (top 72), defScope (top 72), [], []⟩
def h_measure : He.DefD := ⟨("measure", none), "measure", "measure", defArgs (top 73), defBody (top 73), defScope (top 73), [], []⟩
def h_empty_board : He.DefD := ⟨("empty_board", none), "empty_board", "empty_board", defArgs (top 74), defBody (top 74), defScope (top 74), [], []⟩
def h_put_sign : He.DefD := ⟨("put_sign", none), "put_sign", "put_sign", defArgs (top 75), defBody (top 75), defScope (top 75), [], []⟩
def h_read_picture : He.DefD := ⟨("read_picture", none), "read_picture", "read_picture", defArgs (top 76), defBody (top 76), defScope (top 76), [], []⟩
def h_within : He.DefD := ⟨("within", none), "within", "within", defArgs (top 80), defBody (top 80), defScope (top 80), [], []⟩
def h_is_keep : He.DefD := ⟨("is_keep", none), "is_keep", "is_keep", defArgs (top 81), defBody (top 81), defScope (top 81), [], []⟩
def h_Rules_init : He.DefD := ⟨("Rules", some "__init__"), "__init__", "Rules.__init__", defArgs (inC 82 0), defBody (inC 82 0), defScope (inC 82 0), [], []⟩
def h_Rules_told : He.DefD := ⟨("Rules", some "told"), "told", "Rules.told", defArgs (inC 82 1), defBody (inC 82 1), defScope (inC 82 1), [], []⟩
def h_check_numbers : He.DefD := ⟨("check_numbers", none), "check_numbers", "check_numbers", defArgs (top 84), defBody (top 84), defScope (top 84), [], []⟩
def h_places_of : He.DefD := ⟨("places_of", none), "places_of", "places_of", defArgs (top 85), defBody (top 85), defScope (top 85), [], []⟩
def h_texted : He.DefD := ⟨("texted", none), "texted", "texted", defArgs (top 86), defBody (top 86), defScope (top 86), [], []⟩
def h_Shape_cells : He.DefD := ⟨("Shape", some "cells"), "cells", "Shape.cells", defArgs (inC 87 0), defBody (inC 87 0), defScope (inC 87 0), [], []⟩
def h_Shape_ends : He.DefD := ⟨("Shape", some "ends"), "ends", "Shape.ends", defArgs (inC 87 1), defBody (inC 87 1), defScope (inC 87 1), [], []⟩
def h_Shape_turned : He.DefD := ⟨("Shape", some "turned"), "turned", "Shape.turned", defArgs (inC 87 3), defBody (inC 87 3), defScope (inC 87 3), [], []⟩
def h_Shape_told : He.DefD := ⟨("Shape", some "told"), "told", "Shape.told", defArgs (inC 87 5), defBody (inC 87 5), defScope (inC 87 5), [], []⟩
def h_Block_init : He.DefD := ⟨("Block", some "__init__"), "__init__", "Block.__init__", defArgs (inC 88 0), defBody (inC 88 0), defScope (inC 88 0), [], []⟩
def h_Block_cells : He.DefD := ⟨("Block", some "cells"), "cells", "Block.cells", defArgs (inC 88 1), defBody (inC 88 1), defScope (inC 88 1), [], []⟩
def h_Block_ends : He.DefD := ⟨("Block", some "ends"), "ends", "Block.ends", defArgs (inC 88 2), defBody (inC 88 2), defScope (inC 88 2), [], []⟩
def h_Block_turned : He.DefD := ⟨("Block", some "turned"), "turned", "Block.turned", defArgs (inC 88 4), defBody (inC 88 4), defScope (inC 88 4), [], []⟩
def h_Block_told : He.DefD := ⟨("Block", some "told"), "told", "Block.told", defArgs (inC 88 6), defBody (inC 88 6), defScope (inC 88 6), [], []⟩
def h__law_cell : He.DefD := ⟨("_law_cell", none), "_law_cell", "_law_cell", defArgs (top 90), defBody (top 90), defScope (top 90), [], []⟩
def h__law_bare : He.DefD := ⟨("_law_bare", none), "_law_bare", "_law_bare", defArgs (top 91), defBody (top 91), defScope (top 91), [], []⟩
def h__law_done : He.DefD := ⟨("_law_done", none), "_law_done", "_law_done", defArgs (top 92), defBody (top 92), defScope (top 92), [], []⟩
def h__law_kinds : He.DefD := ⟨("_law_kinds", none), "_law_kinds", "_law_kinds", defArgs (top 93), defBody (top 93), defScope (top 93), [], []⟩
def h_law : He.DefD := ⟨("law", none), "law", "law", defArgs (top 94), defBody (top 94), defScope (top 94), [], []⟩
def xs0 (K : PySem.W.Frag) : Bool := nolst K && (tExc.all (excB K) && (true))
abbrev R : PySem.W.OpenRow := PySem.W.OpenLaw.row PySem.Challenge.rw_copperbook_k16_refusals_apart
def facs0 : List He.Fa := ([.glo "check_copper", .glo "beside", .glo "near", .glo "come_to", .glo "island_of", .glo "islands", .glo "is_whole", .glo "is_cell", .glo "check_places", .glo "homes_of"] : List He.Fa) ++ ([.glo "opens_of", .glo "shorts_of", .glo "against", .glo "steps", .glo "spread", .glo "wave", .glo "put_way", .glo "way_for", .glo "lay_net", .glo "check_lay"] : List He.Fa) ++ ([.glo "checked_order", .glo "lay_all", .glo "is_measure", .glo "check_spans", .glo "row_for", .glo "lanes", .glo "is_name", .glo "are_tuples", .glo "is_pin", .glo "check_kinds"] : List He.Fa) ++ ([.glo "check_names", .glo "pins_of", .glo "sign", .glo "picture", .glo "sure", .glo "measure", .glo "empty_board", .glo "put_sign", .glo "read_picture", .glo "within"] : List He.Fa) ++ ([.glo "is_keep", .glo "check_numbers", .glo "places_of", .glo "texted", .glo "_law_cell", .glo "_law_bare", .glo "_law_done", .glo "_law_kinds", .glo "law", .glo "CopperError"] : List He.Fa) ++ ([.exc "CopperError", .glo "NoShape", .exc "NoShape", .glo "NoBoard", .exc "NoBoard", .glo "NoPlace", .exc "NoPlace", .glo "NoPicture", .exc "NoPicture", .glo "NoCopper"] : List He.Fa) ++ ([.exc "NoCopper", .glo "NoRules", .exc "NoRules", .glo "NoDrawing", .exc "NoDrawing", .glo "NoPin", .exc "NoPin", .glo "NoSpan", .exc "NoSpan", .glo "NoLay"] : List He.Fa) ++ ([.exc "NoLay", .glo "Field", .cls "Field", .noat "Field" "asked", .noat "Field" "board", .noat "Field" "others", .noat "Field" "own", .noat "Field" "rules", .glo "Board", .cls "Board"] : List He.Fa) ++ ([.noat "Board" "copper", .noat "Board" "drilled", .noat "Board" "high", .noat "Board" "layers", .noat "Board" "wide", .glo "Drawing", .cls "Drawing"] : List He.Fa)
def fns0 : List He.DefD := ([h_check_copper, h_beside, h_near, h_come_to, h_island_of, h_islands, h_is_whole, h_is_cell, h_check_places, h_homes_of] : List He.DefD) ++ ([h_opens_of, h_shorts_of, h_against, h_steps, h_spread, h_wave, h_Field_init, h_Field_near_foreign, h_Field_foreign_column, h_Field_kept_clear] : List He.DefD) ++ ([h_Field_price, h_Field_is_open, h_Field_through, h_put_way, h_way_for, h_lay_net, h_check_lay, h_checked_order, h_lay_all, h_is_measure] : List He.DefD) ++ ([h_Board_init, h_Board_is_square, h_Board_check, h_Board_put, h_Board_drill, h_Board_is_copper, h_Board_has_hole, h_Board_squares, h_Board_cells, h_Board_holes] : List He.DefD) ++ ([h_Board_filled] : List He.DefD)
def facs1 : List He.Fa := ([.noat "Drawing" "homes", .noat "Drawing" "nets", .noat "Drawing" "parts", .glo "Rules", .cls "Rules", .noat "Rules" "gap", .noat "Rules" "keeps", .noat "Rules" "rim", .noat "Rules" "width", .glo "Shape"] : List He.Fa) ++ ([.cls "Shape", .glo "Block", .cls "Block", .noat "Block" "high", .noat "Block" "wide", .noat "Block" "x", .noat "Block" "y", .mkr "Field", .mkr "Board", .mkr "Drawing"] : List He.Fa) ++ ([.mkr "Rules", .mkr "Block", .meth "Field" "near_foreign", .meth "Field" "foreign_column", .meth "Field" "kept_clear", .meth "Field" "price", .meth "Field" "is_open", .meth "Field" "through", .meth "Board" "is_square", .meth "Board" "check"] : List He.Fa) ++ ([.meth "Board" "put", .meth "Board" "drill", .meth "Board" "is_copper", .meth "Board" "has_hole", .meth "Board" "squares", .meth "Board" "cells", .meth "Board" "holes", .meth "Board" "filled", .meth "Board" "copy", .meth "Board" "turned"] : List He.Fa) ++ ([.meth "Drawing" "pins", .meth "Drawing" "net_of", .meth "Rules" "told", .meth "Shape" "cells", .meth "Shape" "ends", .meth "Shape" "turned", .meth "Shape" "told", .meth "Block" "cells", .meth "Block" "ends", .meth "Block" "turned"] : List He.Fa) ++ ([.meth "Block" "told", .int "NEW_HOLE" 3, .int "OLD_HOLE" 1, .int "MOST" 12, .int "MOST_LAYERS" 3, .str "SMALL" "abcdefghijklmnopqrstuvwxyz", .str "FIGURES_drawings" "0123456789", .int "MOST_PARTS" 8, .int "MOST_PINS" 8, .int "MOST_NETS" 24] : List He.Fa) ++ ([.int "MOST_SIGNS" 8, .str "FIGURES_pictures" "0123456789", .int "LONGEST" 2, .str "SIGNS" ".#oO", .int "MOST_KEEPS" 12, .int "MOST_NUMBER" 9999999999999999999999999999999999999999, .free "len", .free "sorted", .free "min", .free "max"] : List He.Fa) ++ ([.free "abs", .free "divmod", .free "all", .free "any", .free "int", .free "str", .free "list", .free "tuple", .free "range", .free "enumerate"] : List He.Fa) ++ ([.free "zip", .free "reversed", .free "isinstance", .free "set", .free "dict", .free "bool", .free "ValueError"] : List He.Fa)
def fns1 : List He.DefD := ([h_Board_copy, h_Board_turned, h_check_spans, h_row_for, h_lanes, h_is_name, h_are_tuples, h_is_pin, h_check_kinds, h_check_names] : List He.DefD) ++ ([h_pins_of, h_Drawing_init, h_Drawing_pins, h_Drawing_net_of, h_sign, h_picture, h_sure, h_measure, h_empty_board, h_put_sign] : List He.DefD) ++ ([h_read_picture, h_within, h_is_keep, h_Rules_init, h_Rules_told, h_check_numbers, h_places_of, h_texted, h_Shape_cells, h_Shape_ends] : List He.DefD) ++ ([h_Shape_turned, h_Shape_told, h_Block_init, h_Block_cells, h_Block_ends, h_Block_turned, h_Block_told, h__law_cell, h__law_bare, h__law_done] : List He.DefD) ++ ([h__law_kinds, h_law] : List He.DefD)
def facs : List He.Fa := (facs0 ++ facs1)
def fns : List He.DefD := (fns0 ++ fns1)
def xsT (_ : PySem.W.Frag) : Bool := true


def xs : PySem.W.Frag → Bool := (fun K => xs0 K && xsT K)
def asl : List Addr := ([0, 3, 6, 31, 44, 56, 68, 80, 92, 104, 116, 128, 140, 152, 305, 493, 577, 658, 731, 794] : List Addr) ++ ([30, 43, 55, 67, 79, 91, 103, 115, 127, 139, 151, 304, 492, 576, 657, 730, 793, 21, 161, 166] : List Addr) ++ ([171, 178, 185, 192, 199, 204, 211, 218, 223, 228, 233, 238, 243, 248, 316, 323, 330, 335, 340, 346] : List Addr) ++ ([353, 502, 509, 514, 519, 524, 531, 536, 543, 548, 588, 593, 600, 607, 612, 619, 626, 633, 638, 669] : List Addr) ++ ([674, 679, 803, 810, 817, 824, 829, 20, 160, 165, 170, 177, 184, 191, 198, 203, 210, 217, 222, 227] : List Addr) ++ ([232, 237, 242, 247, 315, 322, 329, 334, 339, 345, 352, 501, 508, 513, 518, 523, 530, 535, 542, 547] : List Addr) ++ ([587, 592, 599, 606, 611, 618, 625, 632, 637, 668, 673, 678, 802, 809, 816, 823, 828, 16, 19, 32] : List Addr) ++ ([156, 159, 163, 164, 168, 169, 173, 176, 180, 183, 187, 190, 194, 197, 201, 202, 206, 209, 213, 216] : List Addr) ++ ([220, 221, 225, 226, 230, 231, 235, 236, 240, 241, 245, 246, 262, 269, 274, 281, 288, 295, 302, 306] : List Addr) ++ ([307, 311, 314, 318, 321, 325, 328, 332, 333, 337, 338, 343, 344, 348, 351, 366, 373, 380, 387, 394] : List Addr) ++ ([402, 410, 417, 424, 432, 439, 444, 452, 457, 464, 471, 478, 483, 490, 494, 495, 499, 500, 504, 507] : List Addr) ++ ([511, 512, 516, 517, 521, 522, 526, 529, 533, 534, 538, 541, 545, 546, 560, 567, 574, 578, 579, 583] : List Addr) ++ ([586, 590, 591, 595, 598, 602, 605, 609, 610, 614, 617, 621, 624, 628, 631, 635, 636, 650, 655, 659] : List Addr) ++ ([660, 664, 667, 671, 672, 676, 677, 693, 700, 707, 714, 721, 728, 732, 733, 749, 756, 763, 770, 777] : List Addr) ++ ([784, 791, 798, 801, 805, 808, 812, 815, 819, 822, 826, 827, 261, 268, 273, 280, 287, 294, 301, 365] : List Addr) ++ ([372, 379, 386, 393, 401, 409, 416, 423, 431, 438, 443, 451, 456, 463, 470, 477, 482, 489, 559, 566] : List Addr) ++ ([573, 649, 654, 692, 699, 706, 713, 720, 727, 748, 755, 762, 769, 776, 783, 790, 257, 260, 264, 267] : List Addr) ++ ([271, 272, 276, 279, 283, 286, 290, 293, 297, 300, 363, 364, 368, 371, 375, 378, 382, 385, 389, 392] : List Addr) ++ ([397, 400, 405, 408, 412, 415, 419, 422, 427, 430, 434, 437, 441, 442, 447, 450, 454, 455, 459, 462] : List Addr) ++ ([466, 469, 473, 476, 480, 481, 485, 488, 557, 558, 562, 565, 569, 572, 647, 648, 652, 653, 688, 691] : List Addr) ++ ([695, 698, 702, 705, 709, 712, 716, 719, 723, 726, 744, 747, 751, 754, 758, 761, 765, 768, 772, 775] : List Addr) ++ ([779, 782, 786, 789, 341, 361, 395, 403, 425, 445] : List Addr)
abbrev hk : PySem.W.Hook := hookL asl facs fns xs
def ob (s : PySem.W.SharedT) : He.AlD × Bool := obsLG asl facs fns xs (HandSHeadRun.getT s)
theorem ob_eq (s : PySem.W.SharedT) : ob s = hk.obs s.abs := obsLG_eq (HandSHeadRun.getT_eq s)
def ob0 (s : PySem.W.SharedT) : He.AlD × Bool := obsLG asl facs0 fns0 xs0 (HandSHeadRun.getT s)
def ob1 (s : PySem.W.SharedT) : He.AlD × Bool := obsLG asl facs1 fns1 xsT (HandSHeadRun.getT s)
def loose : List PySem.Str := (["_wall", "__name__", "CopperError", "NoShape", "NoBoard", "NoPlace", "NoPicture", "NoCopper", "NoRules", "NoDrawing"] : List PySem.Str) ++ (["NoPin", "NoSpan", "NoLay", "check_copper", "beside", "near", "come_to", "island_of", "islands", "is_whole"] : List PySem.Str) ++ (["is_cell", "check_places", "homes_of", "opens_of", "shorts_of", "against", "steps", "spread", "wave", "NEW_HOLE"] : List PySem.Str) ++ (["OLD_HOLE", "Field", "put_way", "way_for", "lay_net", "check_lay", "checked_order", "lay_all", "MOST", "MOST_LAYERS"] : List PySem.Str) ++ (["is_measure", "Board", "check_spans", "row_for", "lanes", "SMALL", "FIGURES_drawings", "MOST_PARTS", "MOST_PINS", "MOST_NETS"] : List PySem.Str) ++ (["MOST_SIGNS", "is_name", "are_tuples", "is_pin", "check_kinds", "check_names", "pins_of", "Drawing", "FIGURES_pictures", "LONGEST"] : List PySem.Str) ++ (["SIGNS", "sign", "picture", "sure", "measure", "empty_board", "put_sign", "read_picture", "MOST_KEEPS", "MOST_NUMBER"] : List PySem.Str) ++ (["within", "is_keep", "Rules", "check_numbers", "places_of", "texted", "Shape", "Block", "_law_cell", "_law_bare"] : List PySem.Str) ++ (["_law_done", "_law_kinds"] : List PySem.Str)
noncomputable abbrev endW (w : World) (os : OsState) : Option PySem.W.SharedT := HandSHeadRun.endF (HandSHeadRun.stepQ (HandSHeadRun.denQ HandSHeadRun.tabQ) R.prog w) 40000 R.prog w os
theorem run_ls (w : World) (os : OsState) : (endW w os).map (fun s => (HandSHeadRun.looksF R.prog (PySem.W.boot_heap w.params) s.abs, HandSHeadRun.seenQ (PySem.W.view R.prog [94]) loose (importedModules R.prog.main.body) (fun s => PySem.W.xlAt (PySem.W.view R.prog [94]) [] s && PySem.W.recOk R.toRowW.records s) s.abs)) = some (true, PySem.W.openGood (PySem.W.view R.prog [94]) loose) := by kernel_rfl
theorem run_o0 (w : World) (os : OsState) : (endW w os).map ob0 = some (He.valD fns0, true) := by kernel_rfl
theorem run_o1 (w : World) (os : OsState) : (endW w os).map ob1 = some (He.valD fns1, true) := by kernel_rfl
theorem run_o (w : World) (os : OsState) : (endW w os).map ob = some (He.valD fns, true) := (obs_app (ob2 := fun s => obsLG asl (facs0 ++ facs1) (fns0 ++ fns1) (fun K => xs0 K && xsT K) (HandSHeadRun.getT s)) (fun _ => rfl) (fun _ => rfl) (fun _ => rfl) (run_o0 w os) (run_o1 w os))
theorem run (w : World) : HandSHeadRun.RunEq R (PySem.W.view R.prog [94]) hk ob 40000 loose w := fun os => run_split2 (run_ls w os) (run_o w os)
section
variable {K : PySem.W.Frag} {mg : Str → Option Value} {h : Heap}
theorem k_check_copper (c : He.SaysD facs fns K) : DefOk K tab d_check_copper (He.fAd K h_check_copper.at_) := by
  obtain ⟨fd, F⟩ := c.def_ 0 (d := h_check_copper) rfl
  refine ⟨_, _, _, _, _, _, _, fd, ["board", "cell"], T_check_copper, F, ⟨rfl, rfl, rfl, by decide +kernel, rfl, by decide +kernel, by decide +kernel⟩, rfl, rfl, rfl, fun _ h => h, (by kernel_rfl), fun n h1 h2 => ?_⟩
  exact binds_all (fe := { sp := fun _ _ _ _ => True, np := 2 }) F rfl rfl (fun kV doc pm an cdv ct us hl => match us, hl with | [_, _], _ => rfl) n h1 h2
theorem k_beside (c : He.SaysD facs fns K) : DefOk K tab d_beside (He.fAd K h_beside.at_) := by
  obtain ⟨fd, F⟩ := c.def_ 1 (d := h_beside) rfl
  refine ⟨_, _, _, _, _, _, _, fd, ["board", "cell"], T_beside, F, ⟨rfl, rfl, rfl, by decide +kernel, rfl, by decide +kernel, by decide +kernel⟩, rfl, rfl, rfl, fun _ h => h, (by kernel_rfl), fun n h1 h2 => ?_⟩
  exact binds_all (fe := { sp := fun _ _ _ _ => True, np := 2 }) F rfl rfl (fun kV doc pm an cdv ct us hl => match us, hl with | [_, _], _ => rfl) n h1 h2
theorem k_near (c : He.SaysD facs fns K) : DefOk K tab d_near (He.fAd K h_near.at_) := by
  obtain ⟨fd, F⟩ := c.def_ 2 (d := h_near) rfl
  refine ⟨_, _, _, _, _, _, _, fd, ["board", "cell"], T_near, F, ⟨rfl, rfl, rfl, by decide +kernel, rfl, by decide +kernel, by decide +kernel⟩, rfl, rfl, rfl, fun _ h => h, (by kernel_rfl), fun n h1 h2 => ?_⟩
  exact binds_all (fe := { sp := fun _ _ _ _ => True, np := 2 }) F rfl rfl (fun kV doc pm an cdv ct us hl => match us, hl with | [_, _], _ => rfl) n h1 h2
theorem k_come_to (c : He.SaysD facs fns K) : DefOk K tab d_come_to (He.fAd K h_come_to.at_) := by
  obtain ⟨fd, F⟩ := c.def_ 3 (d := h_come_to) rfl
  refine ⟨_, _, _, _, _, _, _, fd, ["board", "cell"], T_come_to, F, ⟨rfl, rfl, rfl, by decide +kernel, rfl, by decide +kernel, by decide +kernel⟩, rfl, rfl, rfl, fun _ h => h, (by kernel_rfl), fun n h1 h2 => ?_⟩
  exact binds_all (fe := { sp := fun _ _ _ _ => True, np := 2 }) F rfl rfl (fun kV doc pm an cdv ct us hl => match us, hl with | [_, _], _ => rfl) n h1 h2
theorem k_island_of (c : He.SaysD facs fns K) : DefOk K tab d_island_of (He.fAd K h_island_of.at_) := by
  obtain ⟨fd, F⟩ := c.def_ 4 (d := h_island_of) rfl
  refine ⟨_, _, _, _, _, _, _, fd, ["board", "cell"], T_island_of, F, ⟨rfl, rfl, rfl, by decide +kernel, rfl, by decide +kernel, by decide +kernel⟩, rfl, rfl, rfl, fun _ h => h, (by kernel_rfl), fun n h1 h2 => ?_⟩
  exact binds_all (fe := { sp := fun _ _ _ _ => True, np := 2 }) F rfl rfl (fun kV doc pm an cdv ct us hl => match us, hl with | [_, _], _ => rfl) n h1 h2
theorem k_islands (c : He.SaysD facs fns K) : DefOk K tab d_islands (He.fAd K h_islands.at_) := by
  obtain ⟨fd, F⟩ := c.def_ 5 (d := h_islands) rfl
  refine ⟨_, _, _, _, _, _, _, fd, ["board"], T_islands, F, ⟨rfl, rfl, rfl, by decide +kernel, rfl, by decide +kernel, by decide +kernel⟩, rfl, rfl, rfl, fun _ h => h, (by kernel_rfl), fun n h1 h2 => ?_⟩
  exact binds_all (fe := { sp := fun _ _ _ _ => True, np := 1 }) F rfl rfl (fun kV doc pm an cdv ct us hl => match us, hl with | [_], _ => rfl) n h1 h2
theorem k_is_whole (c : He.SaysD facs fns K) : DefOk K tab d_is_whole (He.fAd K h_is_whole.at_) := by
  obtain ⟨fd, F⟩ := c.def_ 6 (d := h_is_whole) rfl
  refine ⟨_, _, _, _, _, _, _, fd, ["thing"], T_is_whole, F, ⟨rfl, rfl, rfl, by decide +kernel, rfl, by decide +kernel, by decide +kernel⟩, rfl, rfl, rfl, fun _ h => h, (by kernel_rfl), fun n h1 h2 => ?_⟩
  exact binds_all (fe := { sp := fun _ _ _ _ => True, np := 1 }) F rfl rfl (fun kV doc pm an cdv ct us hl => match us, hl with | [_], _ => rfl) n h1 h2
theorem k_is_cell (c : He.SaysD facs fns K) : DefOk K tab d_is_cell (He.fAd K h_is_cell.at_) := by
  obtain ⟨fd, F⟩ := c.def_ 7 (d := h_is_cell) rfl
  refine ⟨_, _, _, _, _, _, _, fd, ["thing"], T_is_cell, F, ⟨rfl, rfl, rfl, by decide +kernel, rfl, by decide +kernel, by decide +kernel⟩, rfl, rfl, rfl, fun _ h => h, (by kernel_rfl), fun n h1 h2 => ?_⟩
  exact binds_all (fe := { sp := fun _ _ _ _ => True, np := 1 }) F rfl rfl (fun kV doc pm an cdv ct us hl => match us, hl with | [_], _ => rfl) n h1 h2
theorem k_check_places (c : He.SaysD facs fns K) : DefOk K tab d_check_places (He.fAd K h_check_places.at_) := by
  obtain ⟨fd, F⟩ := c.def_ 8 (d := h_check_places) rfl
  refine ⟨_, _, _, _, _, _, _, fd, ["board", "drawing", "places"], T_check_places, F, ⟨rfl, rfl, rfl, by decide +kernel, rfl, by decide +kernel, by decide +kernel⟩, rfl, rfl, rfl, fun _ h => h, (by kernel_rfl), fun n h1 h2 => ?_⟩
  exact binds_all (fe := { sp := fun _ _ _ _ => True, np := 3 }) F rfl rfl (fun kV doc pm an cdv ct us hl => match us, hl with | [_, _, _], _ => rfl) n h1 h2
theorem k_homes_of (c : He.SaysD facs fns K) : DefOk K tab d_homes_of (He.fAd K h_homes_of.at_) := by
  obtain ⟨fd, F⟩ := c.def_ 9 (d := h_homes_of) rfl
  refine ⟨_, _, _, _, _, _, _, fd, ["board", "places"], T_homes_of, F, ⟨rfl, rfl, rfl, by decide +kernel, rfl, by decide +kernel, by decide +kernel⟩, rfl, rfl, rfl, fun _ h => h, (by kernel_rfl), fun n h1 h2 => ?_⟩
  exact binds_all (fe := { sp := fun _ _ _ _ => True, np := 2 }) F rfl rfl (fun kV doc pm an cdv ct us hl => match us, hl with | [_, _], _ => rfl) n h1 h2
theorem k_opens_of (c : He.SaysD facs fns K) : DefOk K tab d_opens_of (He.fAd K h_opens_of.at_) := by
  obtain ⟨fd, F⟩ := c.def_ 10 (d := h_opens_of) rfl
  refine ⟨_, _, _, _, _, _, _, fd, ["name", "pins", "homes"], T_opens_of, F, ⟨rfl, rfl, rfl, by decide +kernel, rfl, by decide +kernel, by decide +kernel⟩, rfl, rfl, rfl, fun _ h => h, (by kernel_rfl), fun n h1 h2 => ?_⟩
  exact binds_all (fe := { sp := fun _ _ _ _ => True, np := 3 }) F rfl rfl (fun kV doc pm an cdv ct us hl => match us, hl with | [_, _, _], _ => rfl) n h1 h2
theorem k_shorts_of (c : He.SaysD facs fns K) : DefOk K tab d_shorts_of (He.fAd K h_shorts_of.at_) := by
  obtain ⟨fd, F⟩ := c.def_ 11 (d := h_shorts_of) rfl
  refine ⟨_, _, _, _, _, _, _, fd, ["one", "other", "homes"], T_shorts_of, F, ⟨rfl, rfl, rfl, by decide +kernel, rfl, by decide +kernel, by decide +kernel⟩, rfl, rfl, rfl, fun _ h => h, (by kernel_rfl), fun n h1 h2 => ?_⟩
  exact binds_all (fe := { sp := fun _ _ _ _ => True, np := 3 }) F rfl rfl (fun kV doc pm an cdv ct us hl => match us, hl with | [_, _, _], _ => rfl) n h1 h2
theorem k_against (c : He.SaysD facs fns K) : DefOk K tab d_against (He.fAd K h_against.at_) := by
  obtain ⟨fd, F⟩ := c.def_ 12 (d := h_against) rfl
  refine ⟨_, _, _, _, _, _, _, fd, ["board", "drawing", "places"], T_against, F, ⟨rfl, rfl, rfl, by decide +kernel, rfl, by decide +kernel, by decide +kernel⟩, rfl, rfl, rfl, fun _ h => h, (by kernel_rfl), fun n h1 h2 => ?_⟩
  exact binds_all (fe := { sp := fun _ _ _ _ => True, np := 3 }) F rfl rfl (fun kV doc pm an cdv ct us hl => match us, hl with | [_, _, _], _ => rfl) n h1 h2
theorem k_steps (c : He.SaysD facs fns K) : DefOk K tab d_steps (He.fAd K h_steps.at_) := by
  obtain ⟨fd, F⟩ := c.def_ 13 (d := h_steps) rfl
  refine ⟨_, _, _, _, _, _, _, fd, ["size", "through", "cell"], T_steps, F, ⟨rfl, rfl, rfl, by decide +kernel, rfl, by decide +kernel, by decide +kernel⟩, rfl, rfl, rfl, fun _ h => h, (by kernel_rfl), fun n h1 h2 => ?_⟩
  exact binds_all (fe := { sp := fun _ _ _ _ => True, np := 3 }) F rfl rfl (fun kV doc pm an cdv ct us hl => match us, hl with | [_, _, _], _ => rfl) n h1 h2
theorem k_spread (c : He.SaysD facs fns K) : DefOk K tab d_spread (He.fAd K h_spread.at_) := by
  obtain ⟨fd, F⟩ := c.def_ 14 (d := h_spread) rfl
  refine ⟨_, _, _, _, _, _, _, fd, ["size", "price", "through", "starts"], T_spread, F, ⟨rfl, rfl, rfl, by decide +kernel, rfl, by decide +kernel, by decide +kernel⟩, rfl, rfl, rfl, fun _ h => h, (by kernel_rfl), fun n h1 h2 => ?_⟩
  exact binds_all (fe := { sp := fun _ _ _ _ => True, np := 4 }) F rfl rfl (fun kV doc pm an cdv ct us hl => match us, hl with | [_, _, _, _], _ => rfl) n h1 h2
theorem k_wave (c : He.SaysD facs fns K) : DefOk K tab d_wave (He.fAd K h_wave.at_) := by
  obtain ⟨fd, F⟩ := c.def_ 15 (d := h_wave) rfl
  refine ⟨_, _, _, _, _, _, _, fd, ["size", "price", "through", "starts", "goals"], T_wave, F, ⟨rfl, rfl, rfl, by decide +kernel, rfl, by decide +kernel, by decide +kernel⟩, rfl, rfl, rfl, fun _ h => h, (by kernel_rfl), fun n h1 h2 => ?_⟩
  exact binds_all (fe := { sp := fun _ _ _ _ => True, np := 5 }) F rfl rfl (fun kV doc pm an cdv ct us hl => match us, hl with | [_, _, _, _, _], _ => rfl) n h1 h2
theorem k_Field_init (c : He.SaysD facs fns K) : DefOk K tab d_Field_init (He.fAd K h_Field_init.at_) := by
  obtain ⟨fd, F⟩ := c.def_ 16 (d := h_Field_init) rfl
  refine ⟨_, _, _, _, _, _, _, fd, ["self", "board", "rules", "own"], T_Field_init, F, ⟨rfl, rfl, rfl, by decide +kernel, rfl, by decide +kernel, by decide +kernel⟩, rfl, rfl, rfl, fun _ h => h, (by kernel_rfl), fun n h1 h2 => ?_⟩
  exact binds_all (fe := { sp := fun _ _ _ _ => True, np := 4 }) F rfl rfl (fun kV doc pm an cdv ct us hl => match us, hl with | [_, _, _, _], _ => rfl) n h1 h2
theorem k_Field_near_foreign (c : He.SaysD facs fns K) : DefOk K tab d_Field_near_foreign (He.fAd K h_Field_near_foreign.at_) := by
  obtain ⟨fd, F⟩ := c.def_ 17 (d := h_Field_near_foreign) rfl
  refine ⟨_, _, _, _, _, _, _, fd, ["self", "cell"], T_Field_near_foreign, F, ⟨rfl, rfl, rfl, by decide +kernel, rfl, by decide +kernel, by decide +kernel⟩, rfl, rfl, rfl, fun _ h => h, (by kernel_rfl), fun n h1 h2 => ?_⟩
  exact binds_all (fe := { sp := fun _ _ _ _ => True, np := 2 }) F rfl rfl (fun kV doc pm an cdv ct us hl => match us, hl with | [_, _], _ => rfl) n h1 h2
theorem k_Field_foreign_column (c : He.SaysD facs fns K) : DefOk K tab d_Field_foreign_column (He.fAd K h_Field_foreign_column.at_) := by
  obtain ⟨fd, F⟩ := c.def_ 18 (d := h_Field_foreign_column) rfl
  refine ⟨_, _, _, _, _, _, _, fd, ["self", "x", "y"], T_Field_foreign_column, F, ⟨rfl, rfl, rfl, by decide +kernel, rfl, by decide +kernel, by decide +kernel⟩, rfl, rfl, rfl, fun _ h => h, (by kernel_rfl), fun n h1 h2 => ?_⟩
  exact binds_all (fe := { sp := fun _ _ _ _ => True, np := 3 }) F rfl rfl (fun kV doc pm an cdv ct us hl => match us, hl with | [_, _, _], _ => rfl) n h1 h2
theorem k_Field_kept_clear (c : He.SaysD facs fns K) : DefOk K tab d_Field_kept_clear (He.fAd K h_Field_kept_clear.at_) := by
  obtain ⟨fd, F⟩ := c.def_ 19 (d := h_Field_kept_clear) rfl
  refine ⟨_, _, _, _, _, _, _, fd, ["self", "cell"], T_Field_kept_clear, F, ⟨rfl, rfl, rfl, by decide +kernel, rfl, by decide +kernel, by decide +kernel⟩, rfl, rfl, rfl, fun _ h => h, (by kernel_rfl), fun n h1 h2 => ?_⟩
  exact binds_all (fe := { sp := fun _ _ _ _ => True, np := 2 }) F rfl rfl (fun kV doc pm an cdv ct us hl => match us, hl with | [_, _], _ => rfl) n h1 h2
theorem k_Field_price (c : He.SaysD facs fns K) : DefOk K tab d_Field_price (He.fAd K h_Field_price.at_) := by
  obtain ⟨fd, F⟩ := c.def_ 20 (d := h_Field_price) rfl
  refine ⟨_, _, _, _, _, _, _, fd, ["self", "cell"], T_Field_price, F, ⟨rfl, rfl, rfl, by decide +kernel, rfl, by decide +kernel, by decide +kernel⟩, rfl, rfl, rfl, fun _ h => h, (by kernel_rfl), fun n h1 h2 => ?_⟩
  exact binds_all (fe := { sp := fun _ _ _ _ => True, np := 2 }) F rfl rfl (fun kV doc pm an cdv ct us hl => match us, hl with | [_, _], _ => rfl) n h1 h2
theorem k_Field_is_open (c : He.SaysD facs fns K) : DefOk K tab d_Field_is_open (He.fAd K h_Field_is_open.at_) := by
  obtain ⟨fd, F⟩ := c.def_ 21 (d := h_Field_is_open) rfl
  refine ⟨_, _, _, _, _, _, _, fd, ["self", "cell"], T_Field_is_open, F, ⟨rfl, rfl, rfl, by decide +kernel, rfl, by decide +kernel, by decide +kernel⟩, rfl, rfl, rfl, fun _ h => h, (by kernel_rfl), fun n h1 h2 => ?_⟩
  exact binds_all (fe := { sp := fun _ _ _ _ => True, np := 2 }) F rfl rfl (fun kV doc pm an cdv ct us hl => match us, hl with | [_, _], _ => rfl) n h1 h2
theorem k_Field_through (c : He.SaysD facs fns K) : DefOk K tab d_Field_through (He.fAd K h_Field_through.at_) := by
  obtain ⟨fd, F⟩ := c.def_ 22 (d := h_Field_through) rfl
  refine ⟨_, _, _, _, _, _, _, fd, ["self", "x", "y"], T_Field_through, F, ⟨rfl, rfl, rfl, by decide +kernel, rfl, by decide +kernel, by decide +kernel⟩, rfl, rfl, rfl, fun _ h => h, (by kernel_rfl), fun n h1 h2 => ?_⟩
  exact binds_all (fe := { sp := fun _ _ _ _ => True, np := 3 }) F rfl rfl (fun kV doc pm an cdv ct us hl => match us, hl with | [_, _, _], _ => rfl) n h1 h2
theorem k_put_way (c : He.SaysD facs fns K) : DefOk K tab d_put_way (He.fAd K h_put_way.at_) := by
  obtain ⟨fd, F⟩ := c.def_ 23 (d := h_put_way) rfl
  refine ⟨_, _, _, _, _, _, _, fd, ["board", "cells"], T_put_way, F, ⟨rfl, rfl, rfl, by decide +kernel, rfl, by decide +kernel, by decide +kernel⟩, rfl, rfl, rfl, fun _ h => h, (by kernel_rfl), fun n h1 h2 => ?_⟩
  exact binds_all (fe := { sp := fun _ _ _ _ => True, np := 2 }) F rfl rfl (fun kV doc pm an cdv ct us hl => match us, hl with | [_, _], _ => rfl) n h1 h2
theorem k_way_for (c : He.SaysD facs fns K) : DefOk K tab d_way_for (He.fAd K h_way_for.at_) := by
  obtain ⟨fd, F⟩ := c.def_ 24 (d := h_way_for) rfl
  refine ⟨_, _, _, _, _, _, _, fd, ["board", "rules", "spots"], T_way_for, F, ⟨rfl, rfl, rfl, by decide +kernel, rfl, by decide +kernel, by decide +kernel⟩, rfl, rfl, rfl, fun _ h => h, (by kernel_rfl), fun n h1 h2 => ?_⟩
  exact binds_all (fe := { sp := fun _ _ _ _ => True, np := 3 }) F rfl rfl (fun kV doc pm an cdv ct us hl => match us, hl with | [_, _, _], _ => rfl) n h1 h2
theorem k_lay_net (c : He.SaysD facs fns K) : DefOk K tab d_lay_net (He.fAd K h_lay_net.at_) := by
  obtain ⟨fd, F⟩ := c.def_ 25 (d := h_lay_net) rfl
  refine ⟨_, _, _, _, _, _, _, fd, ["board", "rules", "spots"], T_lay_net, F, ⟨rfl, rfl, rfl, by decide +kernel, rfl, by decide +kernel, by decide +kernel⟩, rfl, rfl, rfl, fun _ h => h, (by kernel_rfl), fun n h1 h2 => ?_⟩
  exact binds_all (fe := { sp := fun _ _ _ _ => True, np := 3 }) F rfl rfl (fun kV doc pm an cdv ct us hl => match us, hl with | [_, _, _], _ => rfl) n h1 h2
theorem k_check_lay (c : He.SaysD facs fns K) : DefOk K tab d_check_lay (He.fAd K h_check_lay.at_) := by
  obtain ⟨fd, F⟩ := c.def_ 26 (d := h_check_lay) rfl
  refine ⟨_, _, _, _, _, _, _, fd, ["board", "rules", "drawing", "places"], T_check_lay, F, ⟨rfl, rfl, rfl, by decide +kernel, rfl, by decide +kernel, by decide +kernel⟩, rfl, rfl, rfl, fun _ h => h, (by kernel_rfl), fun n h1 h2 => ?_⟩
  exact binds_all (fe := { sp := fun _ _ _ _ => True, np := 4 }) F rfl rfl (fun kV doc pm an cdv ct us hl => match us, hl with | [_, _, _, _], _ => rfl) n h1 h2
theorem k_checked_order (c : He.SaysD facs fns K) : DefOk K tab d_checked_order (He.fAd K h_checked_order.at_) := by
  obtain ⟨fd, F⟩ := c.def_ 27 (d := h_checked_order) rfl
  refine ⟨_, _, _, _, _, _, _, fd, ["drawing", "order"], T_checked_order, F, ⟨rfl, rfl, rfl, by decide +kernel, rfl, by decide +kernel, by decide +kernel⟩, rfl, rfl, rfl, fun _ h => h, (by kernel_rfl), fun n h1 h2 => ?_⟩
  exact binds_all (fe := { sp := fun _ _ _ _ => True, np := 2 }) F rfl rfl (fun kV doc pm an cdv ct us hl => match us, hl with | [_, _], _ => rfl) n h1 h2
theorem k_lay_all (c : He.SaysD facs fns K) : DefOk K tab d_lay_all (He.fAd K h_lay_all.at_) := by
  obtain ⟨fd, F⟩ := c.def_ 28 (d := h_lay_all) rfl
  refine ⟨_, _, _, _, _, _, _, fd, ["board", "rules", "drawing", "places", "order"], T_lay_all, F, ⟨rfl, rfl, rfl, by decide +kernel, rfl, by decide +kernel, by decide +kernel⟩, rfl, rfl, rfl, fun _ h => h, (by kernel_rfl), fun n h1 h2 => ?_⟩
  have h1 : n ≤ 5 := h1
  have h2 : 5 - n ≤ 1 := h2
  have h3 : n = 4 ∨ n = 5 := by omega
  rcases h3 with rfl | rfl
  · obtain ⟨ds, hv, hb⟩ := F.binds1 (ps := ["board", "rules", "drawing", "places", "order"]) 4 0 (by simp [h_lay_all, He.DefD.dvs]) rfl (fun T kV doc pm an cdv ct us its hl hi => match us, its, hl, hi with | [_, _, _, _], [_], _, _ => ⟨_, rfl, rfl⟩)
    exact ⟨_, ds, hv, fun H => Reps.cons (by simp only [Rep]; rfl) Reps.nil, hb⟩
  · obtain ⟨ds, hv, hb⟩ := F.binds1 (ps := ["board", "rules", "drawing", "places", "order"]) 5 1 (by simp [h_lay_all, He.DefD.dvs]) rfl (fun T kV doc pm an cdv ct us its hl hi => match us, its, hl, hi with | [_, _, _, _, _], [_], _, _ => ⟨_, rfl, rfl⟩)
    exact ⟨_, ds, hv, fun H => Reps.nil, hb⟩
theorem k_is_measure (c : He.SaysD facs fns K) : DefOk K tab d_is_measure (He.fAd K h_is_measure.at_) := by
  obtain ⟨fd, F⟩ := c.def_ 29 (d := h_is_measure) rfl
  refine ⟨_, _, _, _, _, _, _, fd, ["number", "most"], T_is_measure, F, ⟨rfl, rfl, rfl, by decide +kernel, rfl, by decide +kernel, by decide +kernel⟩, rfl, rfl, rfl, fun _ h => h, (by kernel_rfl), fun n h1 h2 => ?_⟩
  exact binds_all (fe := { sp := fun _ _ _ _ => True, np := 2 }) F rfl rfl (fun kV doc pm an cdv ct us hl => match us, hl with | [_, _], _ => rfl) n h1 h2
theorem k_Board_init (c : He.SaysD facs fns K) : DefOk K tab d_Board_init (He.fAd K h_Board_init.at_) := by
  obtain ⟨fd, F⟩ := c.def_ 30 (d := h_Board_init) rfl
  refine ⟨_, _, _, _, _, _, _, fd, ["self", "wide", "high", "layers"], T_Board_init, F, ⟨rfl, rfl, rfl, by decide +kernel, rfl, by decide +kernel, by decide +kernel⟩, rfl, rfl, rfl, fun _ h => h, (by kernel_rfl), fun n h1 h2 => ?_⟩
  have h1 : n ≤ 4 := h1
  have h2 : 4 - n ≤ 1 := h2
  have h3 : n = 3 ∨ n = 4 := by omega
  rcases h3 with rfl | rfl
  · obtain ⟨ds, hv, hb⟩ := F.binds1 (ps := ["self", "wide", "high", "layers"]) 3 0 (by simp [h_Board_init, He.DefD.dvs]) rfl (fun T kV doc pm an cdv ct us its hl hi => match us, its, hl, hi with | [_, _, _], [_], _, _ => ⟨_, rfl, rfl⟩)
    exact ⟨_, ds, hv, fun H => Reps.cons (by simp only [Rep]; rfl) Reps.nil, hb⟩
  · obtain ⟨ds, hv, hb⟩ := F.binds1 (ps := ["self", "wide", "high", "layers"]) 4 1 (by simp [h_Board_init, He.DefD.dvs]) rfl (fun T kV doc pm an cdv ct us its hl hi => match us, its, hl, hi with | [_, _, _, _], [_], _, _ => ⟨_, rfl, rfl⟩)
    exact ⟨_, ds, hv, fun H => Reps.nil, hb⟩
theorem k_Board_is_square (c : He.SaysD facs fns K) : DefOk K tab d_Board_is_square (He.fAd K h_Board_is_square.at_) := by
  obtain ⟨fd, F⟩ := c.def_ 31 (d := h_Board_is_square) rfl
  refine ⟨_, _, _, _, _, _, _, fd, ["self", "x", "y"], T_Board_is_square, F, ⟨rfl, rfl, rfl, by decide +kernel, rfl, by decide +kernel, by decide +kernel⟩, rfl, rfl, rfl, fun _ h => h, (by kernel_rfl), fun n h1 h2 => ?_⟩
  exact binds_all (fe := { sp := fun _ _ _ _ => True, np := 3 }) F rfl rfl (fun kV doc pm an cdv ct us hl => match us, hl with | [_, _, _], _ => rfl) n h1 h2
theorem k_Board_check (c : He.SaysD facs fns K) : DefOk K tab d_Board_check (He.fAd K h_Board_check.at_) := by
  obtain ⟨fd, F⟩ := c.def_ 32 (d := h_Board_check) rfl
  refine ⟨_, _, _, _, _, _, _, fd, ["self", "cells"], T_Board_check, F, ⟨rfl, rfl, rfl, by decide +kernel, rfl, by decide +kernel, by decide +kernel⟩, rfl, rfl, rfl, fun _ h => h, (by kernel_rfl), fun n h1 h2 => ?_⟩
  exact binds_all (fe := { sp := fun _ _ _ _ => True, np := 2 }) F rfl rfl (fun kV doc pm an cdv ct us hl => match us, hl with | [_, _], _ => rfl) n h1 h2
theorem k_Board_put (c : He.SaysD facs fns K) : DefOk K tab d_Board_put (He.fAd K h_Board_put.at_) := by
  obtain ⟨fd, F⟩ := c.def_ 33 (d := h_Board_put) rfl
  refine ⟨_, _, _, _, _, _, _, fd, ["self", "cells"], T_Board_put, F, ⟨rfl, rfl, rfl, by decide +kernel, rfl, by decide +kernel, by decide +kernel⟩, rfl, rfl, rfl, fun _ h => h, (by kernel_rfl), fun n h1 h2 => ?_⟩
  exact binds_all (fe := { sp := fun _ _ _ _ => True, np := 2 }) F rfl rfl (fun kV doc pm an cdv ct us hl => match us, hl with | [_, _], _ => rfl) n h1 h2
theorem k_Board_drill (c : He.SaysD facs fns K) : DefOk K tab d_Board_drill (He.fAd K h_Board_drill.at_) := by
  obtain ⟨fd, F⟩ := c.def_ 34 (d := h_Board_drill) rfl
  refine ⟨_, _, _, _, _, _, _, fd, ["self", "x", "y"], T_Board_drill, F, ⟨rfl, rfl, rfl, by decide +kernel, rfl, by decide +kernel, by decide +kernel⟩, rfl, rfl, rfl, fun _ h => h, (by kernel_rfl), fun n h1 h2 => ?_⟩
  exact binds_all (fe := { sp := fun _ _ _ _ => True, np := 3 }) F rfl rfl (fun kV doc pm an cdv ct us hl => match us, hl with | [_, _, _], _ => rfl) n h1 h2
theorem k_Board_is_copper (c : He.SaysD facs fns K) : DefOk K tab d_Board_is_copper (He.fAd K h_Board_is_copper.at_) := by
  obtain ⟨fd, F⟩ := c.def_ 35 (d := h_Board_is_copper) rfl
  refine ⟨_, _, _, _, _, _, _, fd, ["self", "x", "y", "z"], T_Board_is_copper, F, ⟨rfl, rfl, rfl, by decide +kernel, rfl, by decide +kernel, by decide +kernel⟩, rfl, rfl, rfl, fun _ h => h, (by kernel_rfl), fun n h1 h2 => ?_⟩
  have h1 : n ≤ 4 := h1
  have h2 : 4 - n ≤ 1 := h2
  have h3 : n = 3 ∨ n = 4 := by omega
  rcases h3 with rfl | rfl
  · obtain ⟨ds, hv, hb⟩ := F.binds1 (ps := ["self", "x", "y", "z"]) 3 0 (by simp [h_Board_is_copper, He.DefD.dvs]) rfl (fun T kV doc pm an cdv ct us its hl hi => match us, its, hl, hi with | [_, _, _], [_], _, _ => ⟨_, rfl, rfl⟩)
    exact ⟨_, ds, hv, fun H => Reps.cons (by simp only [Rep]; rfl) Reps.nil, hb⟩
  · obtain ⟨ds, hv, hb⟩ := F.binds1 (ps := ["self", "x", "y", "z"]) 4 1 (by simp [h_Board_is_copper, He.DefD.dvs]) rfl (fun T kV doc pm an cdv ct us its hl hi => match us, its, hl, hi with | [_, _, _, _], [_], _, _ => ⟨_, rfl, rfl⟩)
    exact ⟨_, ds, hv, fun H => Reps.nil, hb⟩
theorem k_Board_has_hole (c : He.SaysD facs fns K) : DefOk K tab d_Board_has_hole (He.fAd K h_Board_has_hole.at_) := by
  obtain ⟨fd, F⟩ := c.def_ 36 (d := h_Board_has_hole) rfl
  refine ⟨_, _, _, _, _, _, _, fd, ["self", "x", "y"], T_Board_has_hole, F, ⟨rfl, rfl, rfl, by decide +kernel, rfl, by decide +kernel, by decide +kernel⟩, rfl, rfl, rfl, fun _ h => h, (by kernel_rfl), fun n h1 h2 => ?_⟩
  exact binds_all (fe := { sp := fun _ _ _ _ => True, np := 3 }) F rfl rfl (fun kV doc pm an cdv ct us hl => match us, hl with | [_, _, _], _ => rfl) n h1 h2
theorem k_Board_squares (c : He.SaysD facs fns K) : DefOk K tab d_Board_squares (He.fAd K h_Board_squares.at_) := by
  obtain ⟨fd, F⟩ := c.def_ 37 (d := h_Board_squares) rfl
  refine ⟨_, _, _, _, _, _, _, fd, ["self"], T_Board_squares, F, ⟨rfl, rfl, rfl, by decide +kernel, rfl, by decide +kernel, by decide +kernel⟩, rfl, rfl, rfl, fun _ h => h, (by kernel_rfl), fun n h1 h2 => ?_⟩
  exact binds_all (fe := { sp := fun _ _ _ _ => True, np := 1 }) F rfl rfl (fun kV doc pm an cdv ct us hl => match us, hl with | [_], _ => rfl) n h1 h2
theorem k_Board_cells (c : He.SaysD facs fns K) : DefOk K tab d_Board_cells (He.fAd K h_Board_cells.at_) := by
  obtain ⟨fd, F⟩ := c.def_ 38 (d := h_Board_cells) rfl
  refine ⟨_, _, _, _, _, _, _, fd, ["self", "z"], T_Board_cells, F, ⟨rfl, rfl, rfl, by decide +kernel, rfl, by decide +kernel, by decide +kernel⟩, rfl, rfl, rfl, fun _ h => h, (by kernel_rfl), fun n h1 h2 => ?_⟩
  have h1 : n ≤ 2 := h1
  have h2 : 2 - n ≤ 1 := h2
  have h3 : n = 1 ∨ n = 2 := by omega
  rcases h3 with rfl | rfl
  · obtain ⟨ds, hv, hb⟩ := F.binds1 (ps := ["self", "z"]) 1 0 (by simp [h_Board_cells, He.DefD.dvs]) rfl (fun T kV doc pm an cdv ct us its hl hi => match us, its, hl, hi with | [_], [_], _, _ => ⟨_, rfl, rfl⟩)
    exact ⟨_, ds, hv, fun H => Reps.cons (by simp only [Rep]; rfl) Reps.nil, hb⟩
  · obtain ⟨ds, hv, hb⟩ := F.binds1 (ps := ["self", "z"]) 2 1 (by simp [h_Board_cells, He.DefD.dvs]) rfl (fun T kV doc pm an cdv ct us its hl hi => match us, its, hl, hi with | [_, _], [_], _, _ => ⟨_, rfl, rfl⟩)
    exact ⟨_, ds, hv, fun H => Reps.nil, hb⟩
theorem k_Board_holes (c : He.SaysD facs fns K) : DefOk K tab d_Board_holes (He.fAd K h_Board_holes.at_) := by
  obtain ⟨fd, F⟩ := c.def_ 39 (d := h_Board_holes) rfl
  refine ⟨_, _, _, _, _, _, _, fd, ["self"], T_Board_holes, F, ⟨rfl, rfl, rfl, by decide +kernel, rfl, by decide +kernel, by decide +kernel⟩, rfl, rfl, rfl, fun _ h => h, (by kernel_rfl), fun n h1 h2 => ?_⟩
  exact binds_all (fe := { sp := fun _ _ _ _ => True, np := 1 }) F rfl rfl (fun kV doc pm an cdv ct us hl => match us, hl with | [_], _ => rfl) n h1 h2
theorem k_Board_filled (c : He.SaysD facs fns K) : DefOk K tab d_Board_filled (He.fAd K h_Board_filled.at_) := by
  obtain ⟨fd, F⟩ := c.def_ 40 (d := h_Board_filled) rfl
  refine ⟨_, _, _, _, _, _, _, fd, ["self", "cells", "holes"], T_Board_filled, F, ⟨rfl, rfl, rfl, by decide +kernel, rfl, by decide +kernel, by decide +kernel⟩, rfl, rfl, rfl, fun _ h => h, (by kernel_rfl), fun n h1 h2 => ?_⟩
  exact binds_all (fe := { sp := fun _ _ _ _ => True, np := 3 }) F rfl rfl (fun kV doc pm an cdv ct us hl => match us, hl with | [_, _, _], _ => rfl) n h1 h2
theorem k_Board_copy (c : He.SaysD facs fns K) : DefOk K tab d_Board_copy (He.fAd K h_Board_copy.at_) := by
  obtain ⟨fd, F⟩ := c.def_ 41 (d := h_Board_copy) rfl
  refine ⟨_, _, _, _, _, _, _, fd, ["self"], T_Board_copy, F, ⟨rfl, rfl, rfl, by decide +kernel, rfl, by decide +kernel, by decide +kernel⟩, rfl, rfl, rfl, fun _ h => h, (by kernel_rfl), fun n h1 h2 => ?_⟩
  exact binds_all (fe := { sp := fun _ _ _ _ => True, np := 1 }) F rfl rfl (fun kV doc pm an cdv ct us hl => match us, hl with | [_], _ => rfl) n h1 h2
theorem k_Board_turned (c : He.SaysD facs fns K) : DefOk K tab d_Board_turned (He.fAd K h_Board_turned.at_) := by
  obtain ⟨fd, F⟩ := c.def_ 42 (d := h_Board_turned) rfl
  refine ⟨_, _, _, _, _, _, _, fd, ["self"], T_Board_turned, F, ⟨rfl, rfl, rfl, by decide +kernel, rfl, by decide +kernel, by decide +kernel⟩, rfl, rfl, rfl, fun _ h => h, (by kernel_rfl), fun n h1 h2 => ?_⟩
  exact binds_all (fe := { sp := fun _ _ _ _ => True, np := 1 }) F rfl rfl (fun kV doc pm an cdv ct us hl => match us, hl with | [_], _ => rfl) n h1 h2
theorem k_check_spans (c : He.SaysD facs fns K) : DefOk K tab d_check_spans (He.fAd K h_check_spans.at_) := by
  obtain ⟨fd, F⟩ := c.def_ 43 (d := h_check_spans) rfl
  refine ⟨_, _, _, _, _, _, _, fd, ["spans"], T_check_spans, F, ⟨rfl, rfl, rfl, by decide +kernel, rfl, by decide +kernel, by decide +kernel⟩, rfl, rfl, rfl, fun _ h => h, (by kernel_rfl), fun n h1 h2 => ?_⟩
  exact binds_all (fe := { sp := fun _ _ _ _ => True, np := 1 }) F rfl rfl (fun kV doc pm an cdv ct us hl => match us, hl with | [_], _ => rfl) n h1 h2
theorem k_row_for (c : He.SaysD facs fns K) : DefOk K tab d_row_for (He.fAd K h_row_for.at_) := by
  obtain ⟨fd, F⟩ := c.def_ 44 (d := h_row_for) rfl
  refine ⟨_, _, _, _, _, _, _, fd, ["rows", "left"], T_row_for, F, ⟨rfl, rfl, rfl, by decide +kernel, rfl, by decide +kernel, by decide +kernel⟩, rfl, rfl, rfl, fun _ h => h, (by kernel_rfl), fun n h1 h2 => ?_⟩
  exact binds_all (fe := { sp := fun _ _ _ _ => True, np := 2 }) F rfl rfl (fun kV doc pm an cdv ct us hl => match us, hl with | [_, _], _ => rfl) n h1 h2
theorem k_lanes (c : He.SaysD facs fns K) : DefOk K tab d_lanes (He.fAd K h_lanes.at_) := by
  obtain ⟨fd, F⟩ := c.def_ 45 (d := h_lanes) rfl
  refine ⟨_, _, _, _, _, _, _, fd, ["spans"], T_lanes, F, ⟨rfl, rfl, rfl, by decide +kernel, rfl, by decide +kernel, by decide +kernel⟩, rfl, rfl, rfl, fun _ h => h, (by kernel_rfl), fun n h1 h2 => ?_⟩
  exact binds_all (fe := { sp := fun _ _ _ _ => True, np := 1 }) F rfl rfl (fun kV doc pm an cdv ct us hl => match us, hl with | [_], _ => rfl) n h1 h2
theorem k_is_name (c : He.SaysD facs fns K) : DefOk K tab d_is_name (He.fAd K h_is_name.at_) := by
  obtain ⟨fd, F⟩ := c.def_ 46 (d := h_is_name) rfl
  refine ⟨_, _, _, _, _, _, _, fd, ["text"], T_is_name, F, ⟨rfl, rfl, rfl, by decide +kernel, rfl, by decide +kernel, by decide +kernel⟩, rfl, rfl, rfl, fun _ h => h, (by kernel_rfl), fun n h1 h2 => ?_⟩
  exact binds_all (fe := { sp := fun _ _ _ _ => True, np := 1 }) F rfl rfl (fun kV doc pm an cdv ct us hl => match us, hl with | [_], _ => rfl) n h1 h2
theorem k_are_tuples (c : He.SaysD facs fns K) : DefOk K tab d_are_tuples (He.fAd K h_are_tuples.at_) := by
  obtain ⟨fd, F⟩ := c.def_ 47 (d := h_are_tuples) rfl
  refine ⟨_, _, _, _, _, _, _, fd, ["things", "many"], T_are_tuples, F, ⟨rfl, rfl, rfl, by decide +kernel, rfl, by decide +kernel, by decide +kernel⟩, rfl, rfl, rfl, fun _ h => h, (by kernel_rfl), fun n h1 h2 => ?_⟩
  exact binds_all (fe := { sp := fun _ _ _ _ => True, np := 2 }) F rfl rfl (fun kV doc pm an cdv ct us hl => match us, hl with | [_, _], _ => rfl) n h1 h2
theorem k_is_pin (c : He.SaysD facs fns K) : DefOk K tab d_is_pin (He.fAd K h_is_pin.at_) := by
  obtain ⟨fd, F⟩ := c.def_ 48 (d := h_is_pin) rfl
  refine ⟨_, _, _, _, _, _, _, fd, ["thing"], T_is_pin, F, ⟨rfl, rfl, rfl, by decide +kernel, rfl, by decide +kernel, by decide +kernel⟩, rfl, rfl, rfl, fun _ h => h, (by kernel_rfl), fun n h1 h2 => ?_⟩
  exact binds_all (fe := { sp := fun _ _ _ _ => True, np := 1 }) F rfl rfl (fun kV doc pm an cdv ct us hl => match us, hl with | [_], _ => rfl) n h1 h2
theorem k_check_kinds (c : He.SaysD facs fns K) : DefOk K tab d_check_kinds (He.fAd K h_check_kinds.at_) := by
  obtain ⟨fd, F⟩ := c.def_ 49 (d := h_check_kinds) rfl
  refine ⟨_, _, _, _, _, _, _, fd, ["parts", "nets"], T_check_kinds, F, ⟨rfl, rfl, rfl, by decide +kernel, rfl, by decide +kernel, by decide +kernel⟩, rfl, rfl, rfl, fun _ h => h, (by kernel_rfl), fun n h1 h2 => ?_⟩
  exact binds_all (fe := { sp := fun _ _ _ _ => True, np := 2 }) F rfl rfl (fun kV doc pm an cdv ct us hl => match us, hl with | [_, _], _ => rfl) n h1 h2
theorem k_check_names (c : He.SaysD facs fns K) : DefOk K tab d_check_names (He.fAd K h_check_names.at_) := by
  obtain ⟨fd, F⟩ := c.def_ 50 (d := h_check_names) rfl
  refine ⟨_, _, _, _, _, _, _, fd, ["names"], T_check_names, F, ⟨rfl, rfl, rfl, by decide +kernel, rfl, by decide +kernel, by decide +kernel⟩, rfl, rfl, rfl, fun _ h => h, (by kernel_rfl), fun n h1 h2 => ?_⟩
  exact binds_all (fe := { sp := fun _ _ _ _ => True, np := 1 }) F rfl rfl (fun kV doc pm an cdv ct us hl => match us, hl with | [_], _ => rfl) n h1 h2
theorem k_pins_of (c : He.SaysD facs fns K) : DefOk K tab d_pins_of (He.fAd K h_pins_of.at_) := by
  obtain ⟨fd, F⟩ := c.def_ 51 (d := h_pins_of) rfl
  refine ⟨_, _, _, _, _, _, _, fd, ["parts"], T_pins_of, F, ⟨rfl, rfl, rfl, by decide +kernel, rfl, by decide +kernel, by decide +kernel⟩, rfl, rfl, rfl, fun _ h => h, (by kernel_rfl), fun n h1 h2 => ?_⟩
  exact binds_all (fe := { sp := fun _ _ _ _ => True, np := 1 }) F rfl rfl (fun kV doc pm an cdv ct us hl => match us, hl with | [_], _ => rfl) n h1 h2
theorem k_Drawing_init (c : He.SaysD facs fns K) : DefOk K tab d_Drawing_init (He.fAd K h_Drawing_init.at_) := by
  obtain ⟨fd, F⟩ := c.def_ 52 (d := h_Drawing_init) rfl
  refine ⟨_, _, _, _, _, _, _, fd, ["self", "parts", "nets"], T_Drawing_init, F, ⟨rfl, rfl, rfl, by decide +kernel, rfl, by decide +kernel, by decide +kernel⟩, rfl, rfl, rfl, fun _ h => h, (by kernel_rfl), fun n h1 h2 => ?_⟩
  exact binds_all (fe := { sp := fun _ _ _ _ => True, np := 3 }) F rfl rfl (fun kV doc pm an cdv ct us hl => match us, hl with | [_, _, _], _ => rfl) n h1 h2
theorem k_Drawing_pins (c : He.SaysD facs fns K) : DefOk K tab d_Drawing_pins (He.fAd K h_Drawing_pins.at_) := by
  obtain ⟨fd, F⟩ := c.def_ 53 (d := h_Drawing_pins) rfl
  refine ⟨_, _, _, _, _, _, _, fd, ["self"], T_Drawing_pins, F, ⟨rfl, rfl, rfl, by decide +kernel, rfl, by decide +kernel, by decide +kernel⟩, rfl, rfl, rfl, fun _ h => h, (by kernel_rfl), fun n h1 h2 => ?_⟩
  exact binds_all (fe := { sp := fun _ _ _ _ => True, np := 1 }) F rfl rfl (fun kV doc pm an cdv ct us hl => match us, hl with | [_], _ => rfl) n h1 h2
theorem k_Drawing_net_of (c : He.SaysD facs fns K) : DefOk K tab d_Drawing_net_of (He.fAd K h_Drawing_net_of.at_) := by
  obtain ⟨fd, F⟩ := c.def_ 54 (d := h_Drawing_net_of) rfl
  refine ⟨_, _, _, _, _, _, _, fd, ["self", "pin"], T_Drawing_net_of, F, ⟨rfl, rfl, rfl, by decide +kernel, rfl, by decide +kernel, by decide +kernel⟩, rfl, rfl, rfl, fun _ h => h, (by kernel_rfl), fun n h1 h2 => ?_⟩
  exact binds_all (fe := { sp := fun _ _ _ _ => True, np := 2 }) F rfl rfl (fun kV doc pm an cdv ct us hl => match us, hl with | [_, _], _ => rfl) n h1 h2
theorem k_sign (c : He.SaysD facs fns K) : DefOk K tab d_sign (He.fAd K h_sign.at_) := by
  obtain ⟨fd, F⟩ := c.def_ 55 (d := h_sign) rfl
  refine ⟨_, _, _, _, _, _, _, fd, ["board", "x", "y", "z"], T_sign, F, ⟨rfl, rfl, rfl, by decide +kernel, rfl, by decide +kernel, by decide +kernel⟩, rfl, rfl, rfl, fun _ h => h, (by kernel_rfl), fun n h1 h2 => ?_⟩
  exact binds_all (fe := { sp := fun _ _ _ _ => True, np := 4 }) F rfl rfl (fun kV doc pm an cdv ct us hl => match us, hl with | [_, _, _, _], _ => rfl) n h1 h2
theorem k_picture (c : He.SaysD facs fns K) : DefOk K tab d_picture (He.fAd K h_picture.at_) := by
  obtain ⟨fd, F⟩ := c.def_ 56 (d := h_picture) rfl
  refine ⟨_, _, _, _, _, _, _, fd, ["board"], T_picture, F, ⟨rfl, rfl, rfl, by decide +kernel, rfl, by decide +kernel, by decide +kernel⟩, rfl, rfl, rfl, fun _ h => h, (by kernel_rfl), fun n h1 h2 => ?_⟩
  exact binds_all (fe := { sp := fun _ _ _ _ => True, np := 1 }) F rfl rfl (fun kV doc pm an cdv ct us hl => match us, hl with | [_], _ => rfl) n h1 h2
theorem k_sure (c : He.SaysD facs fns K) : DefOk K tab d_sure (He.fAd K h_sure.at_) := by
  obtain ⟨fd, F⟩ := c.def_ 57 (d := h_sure) rfl
  refine ⟨_, _, _, _, _, _, _, fd, ["good"], T_sure, F, ⟨rfl, rfl, rfl, by decide +kernel, rfl, by decide +kernel, by decide +kernel⟩, rfl, rfl, rfl, fun _ h => h, (by kernel_rfl), fun n h1 h2 => ?_⟩
  exact binds_all (fe := { sp := fun _ _ _ _ => True, np := 1 }) F rfl rfl (fun kV doc pm an cdv ct us hl => match us, hl with | [_], _ => rfl) n h1 h2
theorem k_measure (c : He.SaysD facs fns K) : DefOk K tab d_measure (He.fAd K h_measure.at_) := by
  obtain ⟨fd, F⟩ := c.def_ 58 (d := h_measure) rfl
  refine ⟨_, _, _, _, _, _, _, fd, ["word"], T_measure, F, ⟨rfl, rfl, rfl, by decide +kernel, rfl, by decide +kernel, by decide +kernel⟩, rfl, rfl, rfl, fun _ h => h, (by kernel_rfl), fun n h1 h2 => ?_⟩
  exact binds_all (fe := { sp := fun _ _ _ _ => True, np := 1 }) F rfl rfl (fun kV doc pm an cdv ct us hl => match us, hl with | [_], _ => rfl) n h1 h2
theorem k_empty_board (c : He.SaysD facs fns K) : DefOk K tab d_empty_board (He.fAd K h_empty_board.at_) := by
  obtain ⟨fd, F⟩ := c.def_ 59 (d := h_empty_board) rfl
  refine ⟨_, _, _, _, _, _, _, fd, ["words"], T_empty_board, F, ⟨rfl, rfl, rfl, by decide +kernel, rfl, by decide +kernel, by decide +kernel⟩, rfl, rfl, rfl, fun _ h => h, (by kernel_rfl), fun n h1 h2 => ?_⟩
  exact binds_all (fe := { sp := fun _ _ _ _ => True, np := 1 }) F rfl rfl (fun kV doc pm an cdv ct us hl => match us, hl with | [_], _ => rfl) n h1 h2
theorem k_put_sign (c : He.SaysD facs fns K) : DefOk K tab d_put_sign (He.fAd K h_put_sign.at_) := by
  obtain ⟨fd, F⟩ := c.def_ 60 (d := h_put_sign) rfl
  refine ⟨_, _, _, _, _, _, _, fd, ["board", "x", "y", "z", "one"], T_put_sign, F, ⟨rfl, rfl, rfl, by decide +kernel, rfl, by decide +kernel, by decide +kernel⟩, rfl, rfl, rfl, fun _ h => h, (by kernel_rfl), fun n h1 h2 => ?_⟩
  exact binds_all (fe := { sp := fun _ _ _ _ => True, np := 5 }) F rfl rfl (fun kV doc pm an cdv ct us hl => match us, hl with | [_, _, _, _, _], _ => rfl) n h1 h2
theorem k_read_picture (c : He.SaysD facs fns K) : DefOk K tab d_read_picture (He.fAd K h_read_picture.at_) := by
  obtain ⟨fd, F⟩ := c.def_ 61 (d := h_read_picture) rfl
  refine ⟨_, _, _, _, _, _, _, fd, ["text"], T_read_picture, F, ⟨rfl, rfl, rfl, by decide +kernel, rfl, by decide +kernel, by decide +kernel⟩, rfl, rfl, rfl, fun _ h => h, (by kernel_rfl), fun n h1 h2 => ?_⟩
  exact binds_all (fe := { sp := fun _ _ _ _ => True, np := 1 }) F rfl rfl (fun kV doc pm an cdv ct us hl => match us, hl with | [_], _ => rfl) n h1 h2
theorem k_within (c : He.SaysD facs fns K) : DefOk K tab d_within (He.fAd K h_within.at_) := by
  obtain ⟨fd, F⟩ := c.def_ 62 (d := h_within) rfl
  refine ⟨_, _, _, _, _, _, _, fd, ["number", "least", "most"], T_within, F, ⟨rfl, rfl, rfl, by decide +kernel, rfl, by decide +kernel, by decide +kernel⟩, rfl, rfl, rfl, fun _ h => h, (by kernel_rfl), fun n h1 h2 => ?_⟩
  exact binds_all (fe := { sp := fun _ _ _ _ => True, np := 3 }) F rfl rfl (fun kV doc pm an cdv ct us hl => match us, hl with | [_, _, _], _ => rfl) n h1 h2
theorem k_is_keep (c : He.SaysD facs fns K) : DefOk K tab d_is_keep (He.fAd K h_is_keep.at_) := by
  obtain ⟨fd, F⟩ := c.def_ 63 (d := h_is_keep) rfl
  refine ⟨_, _, _, _, _, _, _, fd, ["keep"], T_is_keep, F, ⟨rfl, rfl, rfl, by decide +kernel, rfl, by decide +kernel, by decide +kernel⟩, rfl, rfl, rfl, fun _ h => h, (by kernel_rfl), fun n h1 h2 => ?_⟩
  exact binds_all (fe := { sp := fun _ _ _ _ => True, np := 1 }) F rfl rfl (fun kV doc pm an cdv ct us hl => match us, hl with | [_], _ => rfl) n h1 h2
theorem k_Rules_init (c : He.SaysD facs fns K) : DefOk K tab d_Rules_init (He.fAd K h_Rules_init.at_) := by
  obtain ⟨fd, F⟩ := c.def_ 64 (d := h_Rules_init) rfl
  refine ⟨_, _, _, _, _, _, _, fd, ["self", "gap", "width", "rim", "keeps"], T_Rules_init, F, ⟨rfl, rfl, rfl, by decide +kernel, rfl, by decide +kernel, by decide +kernel⟩, rfl, rfl, rfl, fun _ h => h, (by kernel_rfl), fun n h1 h2 => ?_⟩
  exact binds_all (fe := { sp := fun _ _ _ _ => True, np := 5 }) F rfl rfl (fun kV doc pm an cdv ct us hl => match us, hl with | [_, _, _, _, _], _ => rfl) n h1 h2
theorem k_Rules_told (c : He.SaysD facs fns K) : DefOk K tab d_Rules_told (He.fAd K h_Rules_told.at_) := by
  obtain ⟨fd, F⟩ := c.def_ 65 (d := h_Rules_told) rfl
  refine ⟨_, _, _, _, _, _, _, fd, ["self"], T_Rules_told, F, ⟨rfl, rfl, rfl, by decide +kernel, rfl, by decide +kernel, by decide +kernel⟩, rfl, rfl, rfl, fun _ h => h, (by kernel_rfl), fun n h1 h2 => ?_⟩
  exact binds_all (fe := { sp := fun _ _ _ _ => True, np := 1 }) F rfl rfl (fun kV doc pm an cdv ct us hl => match us, hl with | [_], _ => rfl) n h1 h2
theorem k_check_numbers (c : He.SaysD facs fns K) : DefOk K tab d_check_numbers (He.fAd K h_check_numbers.at_) := by
  obtain ⟨fd, F⟩ := c.def_ 66 (d := h_check_numbers) rfl
  refine ⟨_, _, _, _, _, _, _, fd, ["numbers", "least"], T_check_numbers, F, ⟨rfl, rfl, rfl, by decide +kernel, rfl, by decide +kernel, by decide +kernel⟩, rfl, rfl, rfl, fun _ h => h, (by kernel_rfl), fun n h1 h2 => ?_⟩
  exact binds_all (fe := { sp := fun _ _ _ _ => True, np := 2 }) F rfl rfl (fun kV doc pm an cdv ct us hl => match us, hl with | [_, _], _ => rfl) n h1 h2
theorem k_places_of (c : He.SaysD facs fns K) : DefOk K tab d_places_of (He.fAd K h_places_of.at_) := by
  obtain ⟨fd, F⟩ := c.def_ 67 (d := h_places_of) rfl
  refine ⟨_, _, _, _, _, _, _, fd, ["x", "y", "wide", "high"], T_places_of, F, ⟨rfl, rfl, rfl, by decide +kernel, rfl, by decide +kernel, by decide +kernel⟩, rfl, rfl, rfl, fun _ h => h, (by kernel_rfl), fun n h1 h2 => ?_⟩
  exact binds_all (fe := { sp := fun _ _ _ _ => True, np := 4 }) F rfl rfl (fun kV doc pm an cdv ct us hl => match us, hl with | [_, _, _, _], _ => rfl) n h1 h2
theorem k_texted (c : He.SaysD facs fns K) : DefOk K tab d_texted (He.fAd K h_texted.at_) := by
  obtain ⟨fd, F⟩ := c.def_ 68 (d := h_texted) rfl
  refine ⟨_, _, _, _, _, _, _, fd, ["word", "numbers"], T_texted, F, ⟨rfl, rfl, rfl, by decide +kernel, rfl, by decide +kernel, by decide +kernel⟩, rfl, rfl, rfl, fun _ h => h, (by kernel_rfl), fun n h1 h2 => ?_⟩
  exact binds_all (fe := { sp := fun _ _ _ _ => True, np := 2 }) F rfl rfl (fun kV doc pm an cdv ct us hl => match us, hl with | [_, _], _ => rfl) n h1 h2
theorem k_Shape_cells (c : He.SaysD facs fns K) : DefOk K tab d_Shape_cells (He.fAd K h_Shape_cells.at_) := by
  obtain ⟨fd, F⟩ := c.def_ 69 (d := h_Shape_cells) rfl
  refine ⟨_, _, _, _, _, _, _, fd, ["self"], T_Shape_cells, F, ⟨rfl, rfl, rfl, by decide +kernel, rfl, by decide +kernel, by decide +kernel⟩, rfl, rfl, rfl, fun _ h => h, (by kernel_rfl), fun n h1 h2 => ?_⟩
  exact binds_all (fe := { sp := fun _ _ _ _ => True, np := 1 }) F rfl rfl (fun kV doc pm an cdv ct us hl => match us, hl with | [_], _ => rfl) n h1 h2
theorem k_Shape_ends (c : He.SaysD facs fns K) : DefOk K tab d_Shape_ends (He.fAd K h_Shape_ends.at_) := by
  obtain ⟨fd, F⟩ := c.def_ 70 (d := h_Shape_ends) rfl
  refine ⟨_, _, _, _, _, _, _, fd, ["self"], T_Shape_ends, F, ⟨rfl, rfl, rfl, by decide +kernel, rfl, by decide +kernel, by decide +kernel⟩, rfl, rfl, rfl, fun _ h => h, (by kernel_rfl), fun n h1 h2 => ?_⟩
  exact binds_all (fe := { sp := fun _ _ _ _ => True, np := 1 }) F rfl rfl (fun kV doc pm an cdv ct us hl => match us, hl with | [_], _ => rfl) n h1 h2
theorem k_Shape_turned (c : He.SaysD facs fns K) : DefOk K tab d_Shape_turned (He.fAd K h_Shape_turned.at_) := by
  obtain ⟨fd, F⟩ := c.def_ 71 (d := h_Shape_turned) rfl
  refine ⟨_, _, _, _, _, _, _, fd, ["self", "high"], T_Shape_turned, F, ⟨rfl, rfl, rfl, by decide +kernel, rfl, by decide +kernel, by decide +kernel⟩, rfl, rfl, rfl, fun _ h => h, (by kernel_rfl), fun n h1 h2 => ?_⟩
  exact binds_all (fe := { sp := fun _ _ _ _ => True, np := 2 }) F rfl rfl (fun kV doc pm an cdv ct us hl => match us, hl with | [_, _], _ => rfl) n h1 h2
theorem k_Shape_told (c : He.SaysD facs fns K) : DefOk K tab d_Shape_told (He.fAd K h_Shape_told.at_) := by
  obtain ⟨fd, F⟩ := c.def_ 72 (d := h_Shape_told) rfl
  refine ⟨_, _, _, _, _, _, _, fd, ["self"], T_Shape_told, F, ⟨rfl, rfl, rfl, by decide +kernel, rfl, by decide +kernel, by decide +kernel⟩, rfl, rfl, rfl, fun _ h => h, (by kernel_rfl), fun n h1 h2 => ?_⟩
  exact binds_all (fe := { sp := fun _ _ _ _ => True, np := 1 }) F rfl rfl (fun kV doc pm an cdv ct us hl => match us, hl with | [_], _ => rfl) n h1 h2
theorem k_Block_init (c : He.SaysD facs fns K) : DefOk K tab d_Block_init (He.fAd K h_Block_init.at_) := by
  obtain ⟨fd, F⟩ := c.def_ 73 (d := h_Block_init) rfl
  refine ⟨_, _, _, _, _, _, _, fd, ["self", "x", "y", "wide", "high"], T_Block_init, F, ⟨rfl, rfl, rfl, by decide +kernel, rfl, by decide +kernel, by decide +kernel⟩, rfl, rfl, rfl, fun _ h => h, (by kernel_rfl), fun n h1 h2 => ?_⟩
  exact binds_all (fe := { sp := fun _ _ _ _ => True, np := 5 }) F rfl rfl (fun kV doc pm an cdv ct us hl => match us, hl with | [_, _, _, _, _], _ => rfl) n h1 h2
theorem k_Block_cells (c : He.SaysD facs fns K) : DefOk K tab d_Block_cells (He.fAd K h_Block_cells.at_) := by
  obtain ⟨fd, F⟩ := c.def_ 74 (d := h_Block_cells) rfl
  refine ⟨_, _, _, _, _, _, _, fd, ["self"], T_Block_cells, F, ⟨rfl, rfl, rfl, by decide +kernel, rfl, by decide +kernel, by decide +kernel⟩, rfl, rfl, rfl, fun _ h => h, (by kernel_rfl), fun n h1 h2 => ?_⟩
  exact binds_all (fe := { sp := fun _ _ _ _ => True, np := 1 }) F rfl rfl (fun kV doc pm an cdv ct us hl => match us, hl with | [_], _ => rfl) n h1 h2
theorem k_Block_ends (c : He.SaysD facs fns K) : DefOk K tab d_Block_ends (He.fAd K h_Block_ends.at_) := by
  obtain ⟨fd, F⟩ := c.def_ 75 (d := h_Block_ends) rfl
  refine ⟨_, _, _, _, _, _, _, fd, ["self"], T_Block_ends, F, ⟨rfl, rfl, rfl, by decide +kernel, rfl, by decide +kernel, by decide +kernel⟩, rfl, rfl, rfl, fun _ h => h, (by kernel_rfl), fun n h1 h2 => ?_⟩
  exact binds_all (fe := { sp := fun _ _ _ _ => True, np := 1 }) F rfl rfl (fun kV doc pm an cdv ct us hl => match us, hl with | [_], _ => rfl) n h1 h2
theorem k_Block_turned (c : He.SaysD facs fns K) : DefOk K tab d_Block_turned (He.fAd K h_Block_turned.at_) := by
  obtain ⟨fd, F⟩ := c.def_ 76 (d := h_Block_turned) rfl
  refine ⟨_, _, _, _, _, _, _, fd, ["self", "high"], T_Block_turned, F, ⟨rfl, rfl, rfl, by decide +kernel, rfl, by decide +kernel, by decide +kernel⟩, rfl, rfl, rfl, fun _ h => h, (by kernel_rfl), fun n h1 h2 => ?_⟩
  exact binds_all (fe := { sp := fun _ _ _ _ => True, np := 2 }) F rfl rfl (fun kV doc pm an cdv ct us hl => match us, hl with | [_, _], _ => rfl) n h1 h2
theorem k_Block_told (c : He.SaysD facs fns K) : DefOk K tab d_Block_told (He.fAd K h_Block_told.at_) := by
  obtain ⟨fd, F⟩ := c.def_ 77 (d := h_Block_told) rfl
  refine ⟨_, _, _, _, _, _, _, fd, ["self"], T_Block_told, F, ⟨rfl, rfl, rfl, by decide +kernel, rfl, by decide +kernel, by decide +kernel⟩, rfl, rfl, rfl, fun _ h => h, (by kernel_rfl), fun n h1 h2 => ?_⟩
  exact binds_all (fe := { sp := fun _ _ _ _ => True, np := 1 }) F rfl rfl (fun kV doc pm an cdv ct us hl => match us, hl with | [_], _ => rfl) n h1 h2
theorem k__law_cell (c : He.SaysD facs fns K) : DefOk K tab d__law_cell (He.fAd K h__law_cell.at_) := by
  obtain ⟨fd, F⟩ := c.def_ 78 (d := h__law_cell) rfl
  refine ⟨_, _, _, _, _, _, _, fd, ["script", "k"], T__law_cell, F, ⟨rfl, rfl, rfl, by decide +kernel, rfl, by decide +kernel, by decide +kernel⟩, rfl, rfl, rfl, fun _ h => h, (by kernel_rfl), fun n h1 h2 => ?_⟩
  exact binds_all (fe := { sp := fun _ _ _ _ => True, np := 2 }) F rfl rfl (fun kV doc pm an cdv ct us hl => match us, hl with | [_, _], _ => rfl) n h1 h2
theorem k__law_bare (c : He.SaysD facs fns K) : DefOk K tab d__law_bare (He.fAd K h__law_bare.at_) := by
  obtain ⟨fd, F⟩ := c.def_ 79 (d := h__law_bare) rfl
  refine ⟨_, _, _, _, _, _, _, fd, ["more"], T__law_bare, F, ⟨rfl, rfl, rfl, by decide +kernel, rfl, by decide +kernel, by decide +kernel⟩, rfl, rfl, rfl, fun _ h => h, (by kernel_rfl), fun n h1 h2 => ?_⟩
  exact binds_all (fe := { sp := fun _ _ _ _ => True, np := 1 }) F rfl rfl (fun kV doc pm an cdv ct us hl => match us, hl with | [_], _ => rfl) n h1 h2
theorem k__law_done (c : He.SaysD facs fns K) : DefOk K tab d__law_done (He.fAd K h__law_done.at_) := by
  obtain ⟨fd, F⟩ := c.def_ 80 (d := h__law_done) rfl
  refine ⟨_, _, _, _, _, _, _, fd, ["k", "more"], T__law_done, F, ⟨rfl, rfl, rfl, by decide +kernel, rfl, by decide +kernel, by decide +kernel⟩, rfl, rfl, rfl, fun _ h => h, (by kernel_rfl), fun n h1 h2 => ?_⟩
  exact binds_all (fe := { sp := fun _ _ _ _ => True, np := 2 }) F rfl rfl (fun kV doc pm an cdv ct us hl => match us, hl with | [_, _], _ => rfl) n h1 h2
theorem k__law_kinds (c : He.SaysD facs fns K) : DefOk K tab d__law_kinds (He.fAd K h__law_kinds.at_) := by
  obtain ⟨fd, F⟩ := c.def_ 81 (d := h__law_kinds) rfl
  refine ⟨_, _, _, _, _, _, _, fd, ["k", "more"], T__law_kinds, F, ⟨rfl, rfl, rfl, by decide +kernel, rfl, by decide +kernel, by decide +kernel⟩, rfl, rfl, rfl, fun _ h => h, (by kernel_rfl), fun n h1 h2 => ?_⟩
  exact binds_all (fe := { sp := fun _ _ _ _ => True, np := 2 }) F rfl rfl (fun kV doc pm an cdv ct us hl => match us, hl with | [_, _], _ => rfl) n h1 h2
theorem k_law (c : He.SaysD facs fns K) : DefOk K tab d_law (He.fAd K h_law.at_) := by
  obtain ⟨fd, F⟩ := c.def_ 82 (d := h_law) rfl
  refine ⟨_, _, _, _, _, _, _, fd, ["script"], T_law, F, ⟨rfl, rfl, rfl, by decide +kernel, rfl, by decide +kernel, by decide +kernel⟩, rfl, rfl, rfl, fun _ h => h, (by kernel_rfl), fun n h1 h2 => ?_⟩
  exact binds_all (fe := { sp := fun _ _ _ _ => True, np := 1 }) F rfl rfl (fun kV doc pm an cdv ct us hl => match us, hl with | [_], _ => rfl) n h1 h2
theorem lf (X : K.In h) (G : h.Ns mainGlobals mg) (c0 : SaysX facs fns xs K) : LF tab K mg := by
  have c := c0.d
  obtain ⟨_, x2⟩ := an (an (show (xs0 K && _) = true from c0.x)).1
  obtain ⟨hexc, hinh⟩ := an x2
  have hfn : ∀ p ∈ tFns, ∃ f, mg p.1 = some (.ref f) ∧ DefOk K tab p.2 f := (List.forall_mem_cons.mpr ⟨⟨_, He.glo_ok X G (c.fact 0 (f := .glo "check_copper") rfl), k_check_copper c⟩, (List.forall_mem_cons.mpr ⟨⟨_, He.glo_ok X G (c.fact 1 (f := .glo "beside") rfl), k_beside c⟩, (List.forall_mem_cons.mpr ⟨⟨_, He.glo_ok X G (c.fact 2 (f := .glo "near") rfl), k_near c⟩, (List.forall_mem_cons.mpr ⟨⟨_, He.glo_ok X G (c.fact 3 (f := .glo "come_to") rfl), k_come_to c⟩, (List.forall_mem_cons.mpr ⟨⟨_, He.glo_ok X G (c.fact 4 (f := .glo "island_of") rfl), k_island_of c⟩, (List.forall_mem_cons.mpr ⟨⟨_, He.glo_ok X G (c.fact 5 (f := .glo "islands") rfl), k_islands c⟩, (List.forall_mem_cons.mpr ⟨⟨_, He.glo_ok X G (c.fact 6 (f := .glo "is_whole") rfl), k_is_whole c⟩, (List.forall_mem_cons.mpr ⟨⟨_, He.glo_ok X G (c.fact 7 (f := .glo "is_cell") rfl), k_is_cell c⟩, (List.forall_mem_cons.mpr ⟨⟨_, He.glo_ok X G (c.fact 8 (f := .glo "check_places") rfl), k_check_places c⟩, (List.forall_mem_cons.mpr ⟨⟨_, He.glo_ok X G (c.fact 9 (f := .glo "homes_of") rfl), k_homes_of c⟩, (List.forall_mem_cons.mpr ⟨⟨_, He.glo_ok X G (c.fact 10 (f := .glo "opens_of") rfl), k_opens_of c⟩, (List.forall_mem_cons.mpr ⟨⟨_, He.glo_ok X G (c.fact 11 (f := .glo "shorts_of") rfl), k_shorts_of c⟩, (List.forall_mem_cons.mpr ⟨⟨_, He.glo_ok X G (c.fact 12 (f := .glo "against") rfl), k_against c⟩, (List.forall_mem_cons.mpr ⟨⟨_, He.glo_ok X G (c.fact 13 (f := .glo "steps") rfl), k_steps c⟩, (List.forall_mem_cons.mpr ⟨⟨_, He.glo_ok X G (c.fact 14 (f := .glo "spread") rfl), k_spread c⟩, (List.forall_mem_cons.mpr ⟨⟨_, He.glo_ok X G (c.fact 15 (f := .glo "wave") rfl), k_wave c⟩, (List.forall_mem_cons.mpr ⟨⟨_, He.glo_ok X G (c.fact 16 (f := .glo "put_way") rfl), k_put_way c⟩, (List.forall_mem_cons.mpr ⟨⟨_, He.glo_ok X G (c.fact 17 (f := .glo "way_for") rfl), k_way_for c⟩, (List.forall_mem_cons.mpr ⟨⟨_, He.glo_ok X G (c.fact 18 (f := .glo "lay_net") rfl), k_lay_net c⟩, (List.forall_mem_cons.mpr ⟨⟨_, He.glo_ok X G (c.fact 19 (f := .glo "check_lay") rfl), k_check_lay c⟩, (List.forall_mem_cons.mpr ⟨⟨_, He.glo_ok X G (c.fact 20 (f := .glo "checked_order") rfl), k_checked_order c⟩, (List.forall_mem_cons.mpr ⟨⟨_, He.glo_ok X G (c.fact 21 (f := .glo "lay_all") rfl), k_lay_all c⟩, (List.forall_mem_cons.mpr ⟨⟨_, He.glo_ok X G (c.fact 22 (f := .glo "is_measure") rfl), k_is_measure c⟩, (List.forall_mem_cons.mpr ⟨⟨_, He.glo_ok X G (c.fact 23 (f := .glo "check_spans") rfl), k_check_spans c⟩, (List.forall_mem_cons.mpr ⟨⟨_, He.glo_ok X G (c.fact 24 (f := .glo "row_for") rfl), k_row_for c⟩, (List.forall_mem_cons.mpr ⟨⟨_, He.glo_ok X G (c.fact 25 (f := .glo "lanes") rfl), k_lanes c⟩, (List.forall_mem_cons.mpr ⟨⟨_, He.glo_ok X G (c.fact 26 (f := .glo "is_name") rfl), k_is_name c⟩, (List.forall_mem_cons.mpr ⟨⟨_, He.glo_ok X G (c.fact 27 (f := .glo "are_tuples") rfl), k_are_tuples c⟩, (List.forall_mem_cons.mpr ⟨⟨_, He.glo_ok X G (c.fact 28 (f := .glo "is_pin") rfl), k_is_pin c⟩, (List.forall_mem_cons.mpr ⟨⟨_, He.glo_ok X G (c.fact 29 (f := .glo "check_kinds") rfl), k_check_kinds c⟩, (List.forall_mem_cons.mpr ⟨⟨_, He.glo_ok X G (c.fact 30 (f := .glo "check_names") rfl), k_check_names c⟩, (List.forall_mem_cons.mpr ⟨⟨_, He.glo_ok X G (c.fact 31 (f := .glo "pins_of") rfl), k_pins_of c⟩, (List.forall_mem_cons.mpr ⟨⟨_, He.glo_ok X G (c.fact 32 (f := .glo "sign") rfl), k_sign c⟩, (List.forall_mem_cons.mpr ⟨⟨_, He.glo_ok X G (c.fact 33 (f := .glo "picture") rfl), k_picture c⟩, (List.forall_mem_cons.mpr ⟨⟨_, He.glo_ok X G (c.fact 34 (f := .glo "sure") rfl), k_sure c⟩, (List.forall_mem_cons.mpr ⟨⟨_, He.glo_ok X G (c.fact 35 (f := .glo "measure") rfl), k_measure c⟩, (List.forall_mem_cons.mpr ⟨⟨_, He.glo_ok X G (c.fact 36 (f := .glo "empty_board") rfl), k_empty_board c⟩, (List.forall_mem_cons.mpr ⟨⟨_, He.glo_ok X G (c.fact 37 (f := .glo "put_sign") rfl), k_put_sign c⟩, (List.forall_mem_cons.mpr ⟨⟨_, He.glo_ok X G (c.fact 38 (f := .glo "read_picture") rfl), k_read_picture c⟩, (List.forall_mem_cons.mpr ⟨⟨_, He.glo_ok X G (c.fact 39 (f := .glo "within") rfl), k_within c⟩, (List.forall_mem_cons.mpr ⟨⟨_, He.glo_ok X G (c.fact 40 (f := .glo "is_keep") rfl), k_is_keep c⟩, (List.forall_mem_cons.mpr ⟨⟨_, He.glo_ok X G (c.fact 41 (f := .glo "check_numbers") rfl), k_check_numbers c⟩, (List.forall_mem_cons.mpr ⟨⟨_, He.glo_ok X G (c.fact 42 (f := .glo "places_of") rfl), k_places_of c⟩, (List.forall_mem_cons.mpr ⟨⟨_, He.glo_ok X G (c.fact 43 (f := .glo "texted") rfl), k_texted c⟩, (List.forall_mem_cons.mpr ⟨⟨_, He.glo_ok X G (c.fact 44 (f := .glo "_law_cell") rfl), k__law_cell c⟩, (List.forall_mem_cons.mpr ⟨⟨_, He.glo_ok X G (c.fact 45 (f := .glo "_law_bare") rfl), k__law_bare c⟩, (List.forall_mem_cons.mpr ⟨⟨_, He.glo_ok X G (c.fact 46 (f := .glo "_law_done") rfl), k__law_done c⟩, (List.forall_mem_cons.mpr ⟨⟨_, He.glo_ok X G (c.fact 47 (f := .glo "_law_kinds") rfl), k__law_kinds c⟩, (List.forall_mem_cons.mpr ⟨⟨_, He.glo_ok X G (c.fact 48 (f := .glo "law") rfl), k_law c⟩, (fun p hp => by cases hp)⟩)⟩)⟩)⟩)⟩)⟩)⟩)⟩)⟩)⟩)⟩)⟩)⟩)⟩)⟩)⟩)⟩)⟩)⟩)⟩)⟩)⟩)⟩)⟩)⟩)⟩)⟩)⟩)⟩)⟩)⟩)⟩)⟩)⟩)⟩)⟩)⟩)⟩)⟩)⟩)⟩)⟩)⟩)⟩)⟩)⟩)⟩)⟩)⟩)
  have hmk : ∀ p ∈ tMks, mg p.1 = some (.ref (He.ga K p.1)) ∧ ∃ f, Mk K (He.ga K p.1) f ∧ DefOk K tab p.2 f := (List.forall_mem_cons.mpr ⟨⟨He.glo_ok X G (c.fact 71 (f := .glo "Field") rfl), _, He.mkr_ok (c.fact 104 (f := .mkr "Field") rfl), k_Field_init c⟩, (List.forall_mem_cons.mpr ⟨⟨He.glo_ok X G (c.fact 78 (f := .glo "Board") rfl), _, He.mkr_ok (c.fact 105 (f := .mkr "Board") rfl), k_Board_init c⟩, (List.forall_mem_cons.mpr ⟨⟨He.glo_ok X G (c.fact 85 (f := .glo "Drawing") rfl), _, He.mkr_ok (c.fact 106 (f := .mkr "Drawing") rfl), k_Drawing_init c⟩, (List.forall_mem_cons.mpr ⟨⟨He.glo_ok X G (c.fact 90 (f := .glo "Rules") rfl), _, He.mkr_ok (c.fact 107 (f := .mkr "Rules") rfl), k_Rules_init c⟩, (List.forall_mem_cons.mpr ⟨⟨He.glo_ok X G (c.fact 98 (f := .glo "Block") rfl), _, He.mkr_ok (c.fact 108 (f := .mkr "Block") rfl), k_Block_init c⟩, (fun p hp => by cases hp)⟩)⟩)⟩)⟩)⟩)
  have hmt : ∀ p ∈ tMts, Cls K (He.ga K p.1.1) ∧ ∃ f, Meth K (He.ga K p.1.1) p.1.2 f ∧ DefOk K tab p.2 f := (List.forall_mem_cons.mpr ⟨⟨He.cls_ok (c.fact 72 (f := .cls "Field") rfl), _, He.meth_ok (c.fact 109 (f := .meth "Field" "near_foreign") rfl), k_Field_near_foreign c⟩, (List.forall_mem_cons.mpr ⟨⟨He.cls_ok (c.fact 72 (f := .cls "Field") rfl), _, He.meth_ok (c.fact 110 (f := .meth "Field" "foreign_column") rfl), k_Field_foreign_column c⟩, (List.forall_mem_cons.mpr ⟨⟨He.cls_ok (c.fact 72 (f := .cls "Field") rfl), _, He.meth_ok (c.fact 111 (f := .meth "Field" "kept_clear") rfl), k_Field_kept_clear c⟩, (List.forall_mem_cons.mpr ⟨⟨He.cls_ok (c.fact 72 (f := .cls "Field") rfl), _, He.meth_ok (c.fact 112 (f := .meth "Field" "price") rfl), k_Field_price c⟩, (List.forall_mem_cons.mpr ⟨⟨He.cls_ok (c.fact 72 (f := .cls "Field") rfl), _, He.meth_ok (c.fact 113 (f := .meth "Field" "is_open") rfl), k_Field_is_open c⟩, (List.forall_mem_cons.mpr ⟨⟨He.cls_ok (c.fact 72 (f := .cls "Field") rfl), _, He.meth_ok (c.fact 114 (f := .meth "Field" "through") rfl), k_Field_through c⟩, (List.forall_mem_cons.mpr ⟨⟨He.cls_ok (c.fact 79 (f := .cls "Board") rfl), _, He.meth_ok (c.fact 115 (f := .meth "Board" "is_square") rfl), k_Board_is_square c⟩, (List.forall_mem_cons.mpr ⟨⟨He.cls_ok (c.fact 79 (f := .cls "Board") rfl), _, He.meth_ok (c.fact 116 (f := .meth "Board" "check") rfl), k_Board_check c⟩, (List.forall_mem_cons.mpr ⟨⟨He.cls_ok (c.fact 79 (f := .cls "Board") rfl), _, He.meth_ok (c.fact 117 (f := .meth "Board" "put") rfl), k_Board_put c⟩, (List.forall_mem_cons.mpr ⟨⟨He.cls_ok (c.fact 79 (f := .cls "Board") rfl), _, He.meth_ok (c.fact 118 (f := .meth "Board" "drill") rfl), k_Board_drill c⟩, (List.forall_mem_cons.mpr ⟨⟨He.cls_ok (c.fact 79 (f := .cls "Board") rfl), _, He.meth_ok (c.fact 119 (f := .meth "Board" "is_copper") rfl), k_Board_is_copper c⟩, (List.forall_mem_cons.mpr ⟨⟨He.cls_ok (c.fact 79 (f := .cls "Board") rfl), _, He.meth_ok (c.fact 120 (f := .meth "Board" "has_hole") rfl), k_Board_has_hole c⟩, (List.forall_mem_cons.mpr ⟨⟨He.cls_ok (c.fact 79 (f := .cls "Board") rfl), _, He.meth_ok (c.fact 121 (f := .meth "Board" "squares") rfl), k_Board_squares c⟩, (List.forall_mem_cons.mpr ⟨⟨He.cls_ok (c.fact 79 (f := .cls "Board") rfl), _, He.meth_ok (c.fact 122 (f := .meth "Board" "cells") rfl), k_Board_cells c⟩, (List.forall_mem_cons.mpr ⟨⟨He.cls_ok (c.fact 79 (f := .cls "Board") rfl), _, He.meth_ok (c.fact 123 (f := .meth "Board" "holes") rfl), k_Board_holes c⟩, (List.forall_mem_cons.mpr ⟨⟨He.cls_ok (c.fact 79 (f := .cls "Board") rfl), _, He.meth_ok (c.fact 124 (f := .meth "Board" "filled") rfl), k_Board_filled c⟩, (List.forall_mem_cons.mpr ⟨⟨He.cls_ok (c.fact 79 (f := .cls "Board") rfl), _, He.meth_ok (c.fact 125 (f := .meth "Board" "copy") rfl), k_Board_copy c⟩, (List.forall_mem_cons.mpr ⟨⟨He.cls_ok (c.fact 79 (f := .cls "Board") rfl), _, He.meth_ok (c.fact 126 (f := .meth "Board" "turned") rfl), k_Board_turned c⟩, (List.forall_mem_cons.mpr ⟨⟨He.cls_ok (c.fact 86 (f := .cls "Drawing") rfl), _, He.meth_ok (c.fact 127 (f := .meth "Drawing" "pins") rfl), k_Drawing_pins c⟩, (List.forall_mem_cons.mpr ⟨⟨He.cls_ok (c.fact 86 (f := .cls "Drawing") rfl), _, He.meth_ok (c.fact 128 (f := .meth "Drawing" "net_of") rfl), k_Drawing_net_of c⟩, (List.forall_mem_cons.mpr ⟨⟨He.cls_ok (c.fact 91 (f := .cls "Rules") rfl), _, He.meth_ok (c.fact 129 (f := .meth "Rules" "told") rfl), k_Rules_told c⟩, (List.forall_mem_cons.mpr ⟨⟨He.cls_ok (c.fact 97 (f := .cls "Shape") rfl), _, He.meth_ok (c.fact 130 (f := .meth "Shape" "cells") rfl), k_Shape_cells c⟩, (List.forall_mem_cons.mpr ⟨⟨He.cls_ok (c.fact 97 (f := .cls "Shape") rfl), _, He.meth_ok (c.fact 131 (f := .meth "Shape" "ends") rfl), k_Shape_ends c⟩, (List.forall_mem_cons.mpr ⟨⟨He.cls_ok (c.fact 97 (f := .cls "Shape") rfl), _, He.meth_ok (c.fact 132 (f := .meth "Shape" "turned") rfl), k_Shape_turned c⟩, (List.forall_mem_cons.mpr ⟨⟨He.cls_ok (c.fact 97 (f := .cls "Shape") rfl), _, He.meth_ok (c.fact 133 (f := .meth "Shape" "told") rfl), k_Shape_told c⟩, (List.forall_mem_cons.mpr ⟨⟨He.cls_ok (c.fact 99 (f := .cls "Block") rfl), _, He.meth_ok (c.fact 134 (f := .meth "Block" "cells") rfl), k_Block_cells c⟩, (List.forall_mem_cons.mpr ⟨⟨He.cls_ok (c.fact 99 (f := .cls "Block") rfl), _, He.meth_ok (c.fact 135 (f := .meth "Block" "ends") rfl), k_Block_ends c⟩, (List.forall_mem_cons.mpr ⟨⟨He.cls_ok (c.fact 99 (f := .cls "Block") rfl), _, He.meth_ok (c.fact 136 (f := .meth "Block" "turned") rfl), k_Block_turned c⟩, (List.forall_mem_cons.mpr ⟨⟨He.cls_ok (c.fact 99 (f := .cls "Block") rfl), _, He.meth_ok (c.fact 137 (f := .meth "Block" "told") rfl), k_Block_told c⟩, (fun p hp => by cases hp)⟩)⟩)⟩)⟩)⟩)⟩)⟩)⟩)⟩)⟩)⟩)⟩)⟩)⟩)⟩)⟩)⟩)⟩)⟩)⟩)⟩)⟩)⟩)⟩)⟩)⟩)⟩)⟩)⟩)
  have hva : ∀ p ∈ tVals, ∃ u v, mg p.1 = some u ∧ RelV v u ∧ ∀ H, Rep H p.2 v := (List.forall_mem_cons.mpr ⟨(let ⟨t, e⟩ := He.int_ok X G (c.fact 138 (f := .int "NEW_HOLE" 3) rfl); ⟨_, .int 3, e, ⟨t, rfl⟩, fun H => by simp only [Rep]⟩), (List.forall_mem_cons.mpr ⟨(let ⟨t, e⟩ := He.int_ok X G (c.fact 139 (f := .int "OLD_HOLE" 1) rfl); ⟨_, .int 1, e, ⟨t, rfl⟩, fun H => by simp only [Rep]⟩), (List.forall_mem_cons.mpr ⟨(let ⟨t, e⟩ := He.int_ok X G (c.fact 140 (f := .int "MOST" 12) rfl); ⟨_, .int 12, e, ⟨t, rfl⟩, fun H => by simp only [Rep]⟩), (List.forall_mem_cons.mpr ⟨(let ⟨t, e⟩ := He.int_ok X G (c.fact 141 (f := .int "MOST_LAYERS" 3) rfl); ⟨_, .int 3, e, ⟨t, rfl⟩, fun H => by simp only [Rep]⟩), (List.forall_mem_cons.mpr ⟨(let ⟨t, e⟩ := He.str_ok X G (c.fact 142 (f := .str "SMALL" "abcdefghijklmnopqrstuvwxyz") rfl); ⟨_, .str "abcdefghijklmnopqrstuvwxyz", e, ⟨t, rfl⟩, fun H => by simp only [Rep]⟩), (List.forall_mem_cons.mpr ⟨(let ⟨t, e⟩ := He.str_ok X G (c.fact 143 (f := .str "FIGURES_drawings" "0123456789") rfl); ⟨_, .str "0123456789", e, ⟨t, rfl⟩, fun H => by simp only [Rep]⟩), (List.forall_mem_cons.mpr ⟨(let ⟨t, e⟩ := He.int_ok X G (c.fact 144 (f := .int "MOST_PARTS" 8) rfl); ⟨_, .int 8, e, ⟨t, rfl⟩, fun H => by simp only [Rep]⟩), (List.forall_mem_cons.mpr ⟨(let ⟨t, e⟩ := He.int_ok X G (c.fact 145 (f := .int "MOST_PINS" 8) rfl); ⟨_, .int 8, e, ⟨t, rfl⟩, fun H => by simp only [Rep]⟩), (List.forall_mem_cons.mpr ⟨(let ⟨t, e⟩ := He.int_ok X G (c.fact 146 (f := .int "MOST_NETS" 24) rfl); ⟨_, .int 24, e, ⟨t, rfl⟩, fun H => by simp only [Rep]⟩), (List.forall_mem_cons.mpr ⟨(let ⟨t, e⟩ := He.int_ok X G (c.fact 147 (f := .int "MOST_SIGNS" 8) rfl); ⟨_, .int 8, e, ⟨t, rfl⟩, fun H => by simp only [Rep]⟩), (List.forall_mem_cons.mpr ⟨(let ⟨t, e⟩ := He.str_ok X G (c.fact 148 (f := .str "FIGURES_pictures" "0123456789") rfl); ⟨_, .str "0123456789", e, ⟨t, rfl⟩, fun H => by simp only [Rep]⟩), (List.forall_mem_cons.mpr ⟨(let ⟨t, e⟩ := He.int_ok X G (c.fact 149 (f := .int "LONGEST" 2) rfl); ⟨_, .int 2, e, ⟨t, rfl⟩, fun H => by simp only [Rep]⟩), (List.forall_mem_cons.mpr ⟨(let ⟨t, e⟩ := He.str_ok X G (c.fact 150 (f := .str "SIGNS" ".#oO") rfl); ⟨_, .str ".#oO", e, ⟨t, rfl⟩, fun H => by simp only [Rep]⟩), (List.forall_mem_cons.mpr ⟨(let ⟨t, e⟩ := He.int_ok X G (c.fact 151 (f := .int "MOST_KEEPS" 12) rfl); ⟨_, .int 12, e, ⟨t, rfl⟩, fun H => by simp only [Rep]⟩), (List.forall_mem_cons.mpr ⟨(let ⟨t, e⟩ := He.int_ok X G (c.fact 152 (f := .int "MOST_NUMBER" 9999999999999999999999999999999999999999) rfl); ⟨_, .int 9999999999999999999999999999999999999999, e, ⟨t, rfl⟩, fun H => by simp only [Rep]⟩), (fun p hp => by cases hp)⟩)⟩)⟩)⟩)⟩)⟩)⟩)⟩)⟩)⟩)⟩)⟩)⟩)⟩)⟩)
  have hat : ∀ p ∈ tAtts, Cls K (He.ga K p.1) ∧ ∀ f ∈ p.2, NoAttr K (He.ga K p.1) f := (List.forall_mem_cons.mpr ⟨⟨He.cls_ok (c.fact 72 (f := .cls "Field") rfl), (List.forall_mem_cons.mpr ⟨He.noat_ok (c.fact 73 (f := .noat "Field" "asked") rfl), (List.forall_mem_cons.mpr ⟨He.noat_ok (c.fact 74 (f := .noat "Field" "board") rfl), (List.forall_mem_cons.mpr ⟨He.noat_ok (c.fact 75 (f := .noat "Field" "others") rfl), (List.forall_mem_cons.mpr ⟨He.noat_ok (c.fact 76 (f := .noat "Field" "own") rfl), (List.forall_mem_cons.mpr ⟨He.noat_ok (c.fact 77 (f := .noat "Field" "rules") rfl), (fun p hp => by cases hp)⟩)⟩)⟩)⟩)⟩)⟩, (List.forall_mem_cons.mpr ⟨⟨He.cls_ok (c.fact 79 (f := .cls "Board") rfl), (List.forall_mem_cons.mpr ⟨He.noat_ok (c.fact 80 (f := .noat "Board" "copper") rfl), (List.forall_mem_cons.mpr ⟨He.noat_ok (c.fact 81 (f := .noat "Board" "drilled") rfl), (List.forall_mem_cons.mpr ⟨He.noat_ok (c.fact 82 (f := .noat "Board" "high") rfl), (List.forall_mem_cons.mpr ⟨He.noat_ok (c.fact 83 (f := .noat "Board" "layers") rfl), (List.forall_mem_cons.mpr ⟨He.noat_ok (c.fact 84 (f := .noat "Board" "wide") rfl), (fun p hp => by cases hp)⟩)⟩)⟩)⟩)⟩)⟩, (List.forall_mem_cons.mpr ⟨⟨He.cls_ok (c.fact 86 (f := .cls "Drawing") rfl), (List.forall_mem_cons.mpr ⟨He.noat_ok (c.fact 87 (f := .noat "Drawing" "homes") rfl), (List.forall_mem_cons.mpr ⟨He.noat_ok (c.fact 88 (f := .noat "Drawing" "nets") rfl), (List.forall_mem_cons.mpr ⟨He.noat_ok (c.fact 89 (f := .noat "Drawing" "parts") rfl), (fun p hp => by cases hp)⟩)⟩)⟩)⟩, (List.forall_mem_cons.mpr ⟨⟨He.cls_ok (c.fact 91 (f := .cls "Rules") rfl), (List.forall_mem_cons.mpr ⟨He.noat_ok (c.fact 92 (f := .noat "Rules" "gap") rfl), (List.forall_mem_cons.mpr ⟨He.noat_ok (c.fact 93 (f := .noat "Rules" "keeps") rfl), (List.forall_mem_cons.mpr ⟨He.noat_ok (c.fact 94 (f := .noat "Rules" "rim") rfl), (List.forall_mem_cons.mpr ⟨He.noat_ok (c.fact 95 (f := .noat "Rules" "width") rfl), (fun p hp => by cases hp)⟩)⟩)⟩)⟩)⟩, (List.forall_mem_cons.mpr ⟨⟨He.cls_ok (c.fact 97 (f := .cls "Shape") rfl), (fun p hp => by cases hp)⟩, (List.forall_mem_cons.mpr ⟨⟨He.cls_ok (c.fact 99 (f := .cls "Block") rfl), (List.forall_mem_cons.mpr ⟨He.noat_ok (c.fact 100 (f := .noat "Block" "high") rfl), (List.forall_mem_cons.mpr ⟨He.noat_ok (c.fact 101 (f := .noat "Block" "wide") rfl), (List.forall_mem_cons.mpr ⟨He.noat_ok (c.fact 102 (f := .noat "Block" "x") rfl), (List.forall_mem_cons.mpr ⟨He.noat_ok (c.fact 103 (f := .noat "Block" "y") rfl), (fun p hp => by cases hp)⟩)⟩)⟩)⟩)⟩, (fun p hp => by cases hp)⟩)⟩)⟩)⟩)⟩)⟩)
  have hrs : ∀ x ∈ tRss, mg x = some (.ref (He.ga K x)) ∧ PySem.W.keepIn K (.ref (He.ga K x)) = true ∧ PySem.W.excIn K (He.ga K x) He.veBase "ValueError.__new__" = true ∧ PySem.W.subIn K (.ref (He.ga K x)) (.type "BaseException") = some true ∧ PySem.W.typeIn K (.ref (He.ga K x)) = some (.type "type") := (List.forall_mem_cons.mpr ⟨(let z := He.exc_ok (c.fact 50 (f := .exc "CopperError") rfl); ⟨He.glo_ok X G (c.fact 49 (f := .glo "CopperError") rfl), z.2.1, z.1, z.2.2.1, z.2.2.2⟩), (List.forall_mem_cons.mpr ⟨(let z := He.exc_ok (c.fact 52 (f := .exc "NoShape") rfl); ⟨He.glo_ok X G (c.fact 51 (f := .glo "NoShape") rfl), z.2.1, z.1, z.2.2.1, z.2.2.2⟩), (List.forall_mem_cons.mpr ⟨(let z := He.exc_ok (c.fact 54 (f := .exc "NoBoard") rfl); ⟨He.glo_ok X G (c.fact 53 (f := .glo "NoBoard") rfl), z.2.1, z.1, z.2.2.1, z.2.2.2⟩), (List.forall_mem_cons.mpr ⟨(let z := He.exc_ok (c.fact 56 (f := .exc "NoPlace") rfl); ⟨He.glo_ok X G (c.fact 55 (f := .glo "NoPlace") rfl), z.2.1, z.1, z.2.2.1, z.2.2.2⟩), (List.forall_mem_cons.mpr ⟨(let z := He.exc_ok (c.fact 58 (f := .exc "NoPicture") rfl); ⟨He.glo_ok X G (c.fact 57 (f := .glo "NoPicture") rfl), z.2.1, z.1, z.2.2.1, z.2.2.2⟩), (List.forall_mem_cons.mpr ⟨(let z := He.exc_ok (c.fact 60 (f := .exc "NoCopper") rfl); ⟨He.glo_ok X G (c.fact 59 (f := .glo "NoCopper") rfl), z.2.1, z.1, z.2.2.1, z.2.2.2⟩), (List.forall_mem_cons.mpr ⟨(let z := He.exc_ok (c.fact 62 (f := .exc "NoRules") rfl); ⟨He.glo_ok X G (c.fact 61 (f := .glo "NoRules") rfl), z.2.1, z.1, z.2.2.1, z.2.2.2⟩), (List.forall_mem_cons.mpr ⟨(let z := He.exc_ok (c.fact 64 (f := .exc "NoDrawing") rfl); ⟨He.glo_ok X G (c.fact 63 (f := .glo "NoDrawing") rfl), z.2.1, z.1, z.2.2.1, z.2.2.2⟩), (List.forall_mem_cons.mpr ⟨(let z := He.exc_ok (c.fact 66 (f := .exc "NoPin") rfl); ⟨He.glo_ok X G (c.fact 65 (f := .glo "NoPin") rfl), z.2.1, z.1, z.2.2.1, z.2.2.2⟩), (List.forall_mem_cons.mpr ⟨(let z := He.exc_ok (c.fact 68 (f := .exc "NoSpan") rfl); ⟨He.glo_ok X G (c.fact 67 (f := .glo "NoSpan") rfl), z.2.1, z.1, z.2.2.1, z.2.2.2⟩), (List.forall_mem_cons.mpr ⟨(let z := He.exc_ok (c.fact 70 (f := .exc "NoLay") rfl); ⟨He.glo_ok X G (c.fact 69 (f := .glo "NoLay") rfl), z.2.1, z.1, z.2.2.1, z.2.2.2⟩), (fun p hp => by cases hp)⟩)⟩)⟩)⟩)⟩)⟩)⟩)⟩)⟩)⟩)⟩)
  have hve : mg "ValueError" = none := He.free_ok X G (c.fact 173 (f := .free "ValueError") rfl)
  refine ⟨fun x d e => hva _ (lookup_mem' e), fun x d e => hfn _ (lookup_mem' e), fun cc d e => hmk _ (lookup_mem' e), fun p d hp => hmt _ hp, fun p hp => hat p hp, fun x hx => ?_, fun x C b e => ?_, fun x hx => hrs x (List.contains_iff_mem.mp hx)⟩
  · have hb : ∀ y ∈ (["len", "sorted", "min", "max", "abs", "divmod", "all", "any", "int", "str", "list", "tuple", "range", "enumerate", "zip", "reversed", "isinstance", "set", "dict", "bool"] : List Str), mg y = none := (List.forall_mem_cons.mpr ⟨He.free_ok X G (c.fact 153 (f := .free "len") rfl), (List.forall_mem_cons.mpr ⟨He.free_ok X G (c.fact 154 (f := .free "sorted") rfl), (List.forall_mem_cons.mpr ⟨He.free_ok X G (c.fact 155 (f := .free "min") rfl), (List.forall_mem_cons.mpr ⟨He.free_ok X G (c.fact 156 (f := .free "max") rfl), (List.forall_mem_cons.mpr ⟨He.free_ok X G (c.fact 157 (f := .free "abs") rfl), (List.forall_mem_cons.mpr ⟨He.free_ok X G (c.fact 158 (f := .free "divmod") rfl), (List.forall_mem_cons.mpr ⟨He.free_ok X G (c.fact 159 (f := .free "all") rfl), (List.forall_mem_cons.mpr ⟨He.free_ok X G (c.fact 160 (f := .free "any") rfl), (List.forall_mem_cons.mpr ⟨He.free_ok X G (c.fact 161 (f := .free "int") rfl), (List.forall_mem_cons.mpr ⟨He.free_ok X G (c.fact 162 (f := .free "str") rfl), (List.forall_mem_cons.mpr ⟨He.free_ok X G (c.fact 163 (f := .free "list") rfl), (List.forall_mem_cons.mpr ⟨He.free_ok X G (c.fact 164 (f := .free "tuple") rfl), (List.forall_mem_cons.mpr ⟨He.free_ok X G (c.fact 165 (f := .free "range") rfl), (List.forall_mem_cons.mpr ⟨He.free_ok X G (c.fact 166 (f := .free "enumerate") rfl), (List.forall_mem_cons.mpr ⟨He.free_ok X G (c.fact 167 (f := .free "zip") rfl), (List.forall_mem_cons.mpr ⟨He.free_ok X G (c.fact 168 (f := .free "reversed") rfl), (List.forall_mem_cons.mpr ⟨He.free_ok X G (c.fact 169 (f := .free "isinstance") rfl), (List.forall_mem_cons.mpr ⟨He.free_ok X G (c.fact 170 (f := .free "set") rfl), (List.forall_mem_cons.mpr ⟨He.free_ok X G (c.fact 171 (f := .free "dict") rfl), (List.forall_mem_cons.mpr ⟨He.free_ok X G (c.fact 172 (f := .free "bool") rfl), (fun p hp => by cases hp)⟩)⟩)⟩)⟩)⟩)⟩)⟩)⟩)⟩)⟩)⟩)⟩)⟩)⟩)⟩)⟩)⟩)⟩)⟩)⟩)
    exact hb x (blt_mem hx)
  · have hm := lookup_mem' e
    refine excB_ok (List.all_eq_true.mp hexc _ hm) ?_
    have hc : ∀ p ∈ tExc, (p.1.2 = "ValueError" ∧ mg p.1.2 = none) ∨ (p.1.2 ≠ "ValueError" ∧ mg p.1.2 = some (.ref (He.ga K p.1.2))) := (List.forall_mem_cons.mpr ⟨.inr ⟨by decide +kernel, He.glo_ok X G (c.fact 49 (f := .glo "CopperError") rfl)⟩, (List.forall_mem_cons.mpr ⟨.inr ⟨by decide +kernel, He.glo_ok X G (c.fact 53 (f := .glo "NoBoard") rfl)⟩, (List.forall_mem_cons.mpr ⟨.inr ⟨by decide +kernel, He.glo_ok X G (c.fact 59 (f := .glo "NoCopper") rfl)⟩, (List.forall_mem_cons.mpr ⟨.inr ⟨by decide +kernel, He.glo_ok X G (c.fact 63 (f := .glo "NoDrawing") rfl)⟩, (List.forall_mem_cons.mpr ⟨.inr ⟨by decide +kernel, He.glo_ok X G (c.fact 69 (f := .glo "NoLay") rfl)⟩, (List.forall_mem_cons.mpr ⟨.inr ⟨by decide +kernel, He.glo_ok X G (c.fact 57 (f := .glo "NoPicture") rfl)⟩, (List.forall_mem_cons.mpr ⟨.inr ⟨by decide +kernel, He.glo_ok X G (c.fact 65 (f := .glo "NoPin") rfl)⟩, (List.forall_mem_cons.mpr ⟨.inr ⟨by decide +kernel, He.glo_ok X G (c.fact 55 (f := .glo "NoPlace") rfl)⟩, (List.forall_mem_cons.mpr ⟨.inr ⟨by decide +kernel, He.glo_ok X G (c.fact 61 (f := .glo "NoRules") rfl)⟩, (List.forall_mem_cons.mpr ⟨.inr ⟨by decide +kernel, He.glo_ok X G (c.fact 51 (f := .glo "NoShape") rfl)⟩, (List.forall_mem_cons.mpr ⟨.inr ⟨by decide +kernel, He.glo_ok X G (c.fact 67 (f := .glo "NoSpan") rfl)⟩, (List.forall_mem_cons.mpr ⟨.inl ⟨rfl, hve⟩, (List.forall_mem_cons.mpr ⟨.inr ⟨by decide +kernel, He.glo_ok X G (c.fact 49 (f := .glo "CopperError") rfl)⟩, (List.forall_mem_cons.mpr ⟨.inr ⟨by decide +kernel, He.glo_ok X G (c.fact 53 (f := .glo "NoBoard") rfl)⟩, (List.forall_mem_cons.mpr ⟨.inr ⟨by decide +kernel, He.glo_ok X G (c.fact 59 (f := .glo "NoCopper") rfl)⟩, (List.forall_mem_cons.mpr ⟨.inr ⟨by decide +kernel, He.glo_ok X G (c.fact 63 (f := .glo "NoDrawing") rfl)⟩, (List.forall_mem_cons.mpr ⟨.inr ⟨by decide +kernel, He.glo_ok X G (c.fact 69 (f := .glo "NoLay") rfl)⟩, (List.forall_mem_cons.mpr ⟨.inr ⟨by decide +kernel, He.glo_ok X G (c.fact 57 (f := .glo "NoPicture") rfl)⟩, (List.forall_mem_cons.mpr ⟨.inr ⟨by decide +kernel, He.glo_ok X G (c.fact 65 (f := .glo "NoPin") rfl)⟩, (List.forall_mem_cons.mpr ⟨.inr ⟨by decide +kernel, He.glo_ok X G (c.fact 55 (f := .glo "NoPlace") rfl)⟩, (List.forall_mem_cons.mpr ⟨.inr ⟨by decide +kernel, He.glo_ok X G (c.fact 61 (f := .glo "NoRules") rfl)⟩, (List.forall_mem_cons.mpr ⟨.inr ⟨by decide +kernel, He.glo_ok X G (c.fact 51 (f := .glo "NoShape") rfl)⟩, (List.forall_mem_cons.mpr ⟨.inr ⟨by decide +kernel, He.glo_ok X G (c.fact 67 (f := .glo "NoSpan") rfl)⟩, (List.forall_mem_cons.mpr ⟨.inl ⟨rfl, hve⟩, (List.forall_mem_cons.mpr ⟨.inr ⟨by decide +kernel, He.glo_ok X G (c.fact 49 (f := .glo "CopperError") rfl)⟩, (List.forall_mem_cons.mpr ⟨.inr ⟨by decide +kernel, He.glo_ok X G (c.fact 53 (f := .glo "NoBoard") rfl)⟩, (List.forall_mem_cons.mpr ⟨.inr ⟨by decide +kernel, He.glo_ok X G (c.fact 59 (f := .glo "NoCopper") rfl)⟩, (List.forall_mem_cons.mpr ⟨.inr ⟨by decide +kernel, He.glo_ok X G (c.fact 63 (f := .glo "NoDrawing") rfl)⟩, (List.forall_mem_cons.mpr ⟨.inr ⟨by decide +kernel, He.glo_ok X G (c.fact 69 (f := .glo "NoLay") rfl)⟩, (List.forall_mem_cons.mpr ⟨.inr ⟨by decide +kernel, He.glo_ok X G (c.fact 57 (f := .glo "NoPicture") rfl)⟩, (List.forall_mem_cons.mpr ⟨.inr ⟨by decide +kernel, He.glo_ok X G (c.fact 65 (f := .glo "NoPin") rfl)⟩, (List.forall_mem_cons.mpr ⟨.inr ⟨by decide +kernel, He.glo_ok X G (c.fact 55 (f := .glo "NoPlace") rfl)⟩, (List.forall_mem_cons.mpr ⟨.inr ⟨by decide +kernel, He.glo_ok X G (c.fact 61 (f := .glo "NoRules") rfl)⟩, (List.forall_mem_cons.mpr ⟨.inr ⟨by decide +kernel, He.glo_ok X G (c.fact 51 (f := .glo "NoShape") rfl)⟩, (List.forall_mem_cons.mpr ⟨.inr ⟨by decide +kernel, He.glo_ok X G (c.fact 67 (f := .glo "NoSpan") rfl)⟩, (List.forall_mem_cons.mpr ⟨.inl ⟨rfl, hve⟩, (List.forall_mem_cons.mpr ⟨.inr ⟨by decide +kernel, He.glo_ok X G (c.fact 49 (f := .glo "CopperError") rfl)⟩, (List.forall_mem_cons.mpr ⟨.inr ⟨by decide +kernel, He.glo_ok X G (c.fact 53 (f := .glo "NoBoard") rfl)⟩, (List.forall_mem_cons.mpr ⟨.inr ⟨by decide +kernel, He.glo_ok X G (c.fact 59 (f := .glo "NoCopper") rfl)⟩, (List.forall_mem_cons.mpr ⟨.inr ⟨by decide +kernel, He.glo_ok X G (c.fact 63 (f := .glo "NoDrawing") rfl)⟩, (List.forall_mem_cons.mpr ⟨.inr ⟨by decide +kernel, He.glo_ok X G (c.fact 69 (f := .glo "NoLay") rfl)⟩, (List.forall_mem_cons.mpr ⟨.inr ⟨by decide +kernel, He.glo_ok X G (c.fact 57 (f := .glo "NoPicture") rfl)⟩, (List.forall_mem_cons.mpr ⟨.inr ⟨by decide +kernel, He.glo_ok X G (c.fact 65 (f := .glo "NoPin") rfl)⟩, (List.forall_mem_cons.mpr ⟨.inr ⟨by decide +kernel, He.glo_ok X G (c.fact 55 (f := .glo "NoPlace") rfl)⟩, (List.forall_mem_cons.mpr ⟨.inr ⟨by decide +kernel, He.glo_ok X G (c.fact 61 (f := .glo "NoRules") rfl)⟩, (List.forall_mem_cons.mpr ⟨.inr ⟨by decide +kernel, He.glo_ok X G (c.fact 51 (f := .glo "NoShape") rfl)⟩, (List.forall_mem_cons.mpr ⟨.inr ⟨by decide +kernel, He.glo_ok X G (c.fact 67 (f := .glo "NoSpan") rfl)⟩, (List.forall_mem_cons.mpr ⟨.inl ⟨rfl, hve⟩, (List.forall_mem_cons.mpr ⟨.inr ⟨by decide +kernel, He.glo_ok X G (c.fact 49 (f := .glo "CopperError") rfl)⟩, (List.forall_mem_cons.mpr ⟨.inr ⟨by decide +kernel, He.glo_ok X G (c.fact 53 (f := .glo "NoBoard") rfl)⟩, (List.forall_mem_cons.mpr ⟨.inr ⟨by decide +kernel, He.glo_ok X G (c.fact 59 (f := .glo "NoCopper") rfl)⟩, (List.forall_mem_cons.mpr ⟨.inr ⟨by decide +kernel, He.glo_ok X G (c.fact 63 (f := .glo "NoDrawing") rfl)⟩, (List.forall_mem_cons.mpr ⟨.inr ⟨by decide +kernel, He.glo_ok X G (c.fact 69 (f := .glo "NoLay") rfl)⟩, (List.forall_mem_cons.mpr ⟨.inr ⟨by decide +kernel, He.glo_ok X G (c.fact 57 (f := .glo "NoPicture") rfl)⟩, (List.forall_mem_cons.mpr ⟨.inr ⟨by decide +kernel, He.glo_ok X G (c.fact 65 (f := .glo "NoPin") rfl)⟩, (List.forall_mem_cons.mpr ⟨.inr ⟨by decide +kernel, He.glo_ok X G (c.fact 55 (f := .glo "NoPlace") rfl)⟩, (List.forall_mem_cons.mpr ⟨.inr ⟨by decide +kernel, He.glo_ok X G (c.fact 61 (f := .glo "NoRules") rfl)⟩, (List.forall_mem_cons.mpr ⟨.inr ⟨by decide +kernel, He.glo_ok X G (c.fact 51 (f := .glo "NoShape") rfl)⟩, (List.forall_mem_cons.mpr ⟨.inr ⟨by decide +kernel, He.glo_ok X G (c.fact 67 (f := .glo "NoSpan") rfl)⟩, (List.forall_mem_cons.mpr ⟨.inl ⟨rfl, hve⟩, (List.forall_mem_cons.mpr ⟨.inr ⟨by decide +kernel, He.glo_ok X G (c.fact 49 (f := .glo "CopperError") rfl)⟩, (List.forall_mem_cons.mpr ⟨.inr ⟨by decide +kernel, He.glo_ok X G (c.fact 53 (f := .glo "NoBoard") rfl)⟩, (List.forall_mem_cons.mpr ⟨.inr ⟨by decide +kernel, He.glo_ok X G (c.fact 59 (f := .glo "NoCopper") rfl)⟩, (List.forall_mem_cons.mpr ⟨.inr ⟨by decide +kernel, He.glo_ok X G (c.fact 63 (f := .glo "NoDrawing") rfl)⟩, (List.forall_mem_cons.mpr ⟨.inr ⟨by decide +kernel, He.glo_ok X G (c.fact 69 (f := .glo "NoLay") rfl)⟩, (List.forall_mem_cons.mpr ⟨.inr ⟨by decide +kernel, He.glo_ok X G (c.fact 57 (f := .glo "NoPicture") rfl)⟩, (List.forall_mem_cons.mpr ⟨.inr ⟨by decide +kernel, He.glo_ok X G (c.fact 65 (f := .glo "NoPin") rfl)⟩, (List.forall_mem_cons.mpr ⟨.inr ⟨by decide +kernel, He.glo_ok X G (c.fact 55 (f := .glo "NoPlace") rfl)⟩, (List.forall_mem_cons.mpr ⟨.inr ⟨by decide +kernel, He.glo_ok X G (c.fact 61 (f := .glo "NoRules") rfl)⟩, (List.forall_mem_cons.mpr ⟨.inr ⟨by decide +kernel, He.glo_ok X G (c.fact 51 (f := .glo "NoShape") rfl)⟩, (List.forall_mem_cons.mpr ⟨.inr ⟨by decide +kernel, He.glo_ok X G (c.fact 67 (f := .glo "NoSpan") rfl)⟩, (List.forall_mem_cons.mpr ⟨.inl ⟨rfl, hve⟩, (List.forall_mem_cons.mpr ⟨.inr ⟨by decide +kernel, He.glo_ok X G (c.fact 49 (f := .glo "CopperError") rfl)⟩, (List.forall_mem_cons.mpr ⟨.inr ⟨by decide +kernel, He.glo_ok X G (c.fact 53 (f := .glo "NoBoard") rfl)⟩, (List.forall_mem_cons.mpr ⟨.inr ⟨by decide +kernel, He.glo_ok X G (c.fact 59 (f := .glo "NoCopper") rfl)⟩, (List.forall_mem_cons.mpr ⟨.inr ⟨by decide +kernel, He.glo_ok X G (c.fact 63 (f := .glo "NoDrawing") rfl)⟩, (List.forall_mem_cons.mpr ⟨.inr ⟨by decide +kernel, He.glo_ok X G (c.fact 69 (f := .glo "NoLay") rfl)⟩, (List.forall_mem_cons.mpr ⟨.inr ⟨by decide +kernel, He.glo_ok X G (c.fact 57 (f := .glo "NoPicture") rfl)⟩, (List.forall_mem_cons.mpr ⟨.inr ⟨by decide +kernel, He.glo_ok X G (c.fact 65 (f := .glo "NoPin") rfl)⟩, (List.forall_mem_cons.mpr ⟨.inr ⟨by decide +kernel, He.glo_ok X G (c.fact 55 (f := .glo "NoPlace") rfl)⟩, (List.forall_mem_cons.mpr ⟨.inr ⟨by decide +kernel, He.glo_ok X G (c.fact 61 (f := .glo "NoRules") rfl)⟩, (List.forall_mem_cons.mpr ⟨.inr ⟨by decide +kernel, He.glo_ok X G (c.fact 51 (f := .glo "NoShape") rfl)⟩, (List.forall_mem_cons.mpr ⟨.inr ⟨by decide +kernel, He.glo_ok X G (c.fact 67 (f := .glo "NoSpan") rfl)⟩, (List.forall_mem_cons.mpr ⟨.inl ⟨rfl, hve⟩, (List.forall_mem_cons.mpr ⟨.inr ⟨by decide +kernel, He.glo_ok X G (c.fact 49 (f := .glo "CopperError") rfl)⟩, (List.forall_mem_cons.mpr ⟨.inr ⟨by decide +kernel, He.glo_ok X G (c.fact 53 (f := .glo "NoBoard") rfl)⟩, (List.forall_mem_cons.mpr ⟨.inr ⟨by decide +kernel, He.glo_ok X G (c.fact 59 (f := .glo "NoCopper") rfl)⟩, (List.forall_mem_cons.mpr ⟨.inr ⟨by decide +kernel, He.glo_ok X G (c.fact 63 (f := .glo "NoDrawing") rfl)⟩, (List.forall_mem_cons.mpr ⟨.inr ⟨by decide +kernel, He.glo_ok X G (c.fact 69 (f := .glo "NoLay") rfl)⟩, (List.forall_mem_cons.mpr ⟨.inr ⟨by decide +kernel, He.glo_ok X G (c.fact 57 (f := .glo "NoPicture") rfl)⟩, (List.forall_mem_cons.mpr ⟨.inr ⟨by decide +kernel, He.glo_ok X G (c.fact 65 (f := .glo "NoPin") rfl)⟩, (List.forall_mem_cons.mpr ⟨.inr ⟨by decide +kernel, He.glo_ok X G (c.fact 55 (f := .glo "NoPlace") rfl)⟩, (List.forall_mem_cons.mpr ⟨.inr ⟨by decide +kernel, He.glo_ok X G (c.fact 61 (f := .glo "NoRules") rfl)⟩, (List.forall_mem_cons.mpr ⟨.inr ⟨by decide +kernel, He.glo_ok X G (c.fact 51 (f := .glo "NoShape") rfl)⟩, (List.forall_mem_cons.mpr ⟨.inr ⟨by decide +kernel, He.glo_ok X G (c.fact 67 (f := .glo "NoSpan") rfl)⟩, (List.forall_mem_cons.mpr ⟨.inl ⟨rfl, hve⟩, (List.forall_mem_cons.mpr ⟨.inr ⟨by decide +kernel, He.glo_ok X G (c.fact 49 (f := .glo "CopperError") rfl)⟩, (List.forall_mem_cons.mpr ⟨.inr ⟨by decide +kernel, He.glo_ok X G (c.fact 53 (f := .glo "NoBoard") rfl)⟩, (List.forall_mem_cons.mpr ⟨.inr ⟨by decide +kernel, He.glo_ok X G (c.fact 59 (f := .glo "NoCopper") rfl)⟩, (List.forall_mem_cons.mpr ⟨.inr ⟨by decide +kernel, He.glo_ok X G (c.fact 63 (f := .glo "NoDrawing") rfl)⟩, (List.forall_mem_cons.mpr ⟨.inr ⟨by decide +kernel, He.glo_ok X G (c.fact 69 (f := .glo "NoLay") rfl)⟩, (List.forall_mem_cons.mpr ⟨.inr ⟨by decide +kernel, He.glo_ok X G (c.fact 57 (f := .glo "NoPicture") rfl)⟩, (List.forall_mem_cons.mpr ⟨.inr ⟨by decide +kernel, He.glo_ok X G (c.fact 65 (f := .glo "NoPin") rfl)⟩, (List.forall_mem_cons.mpr ⟨.inr ⟨by decide +kernel, He.glo_ok X G (c.fact 55 (f := .glo "NoPlace") rfl)⟩, (List.forall_mem_cons.mpr ⟨.inr ⟨by decide +kernel, He.glo_ok X G (c.fact 61 (f := .glo "NoRules") rfl)⟩, (List.forall_mem_cons.mpr ⟨.inr ⟨by decide +kernel, He.glo_ok X G (c.fact 51 (f := .glo "NoShape") rfl)⟩, (List.forall_mem_cons.mpr ⟨.inr ⟨by decide +kernel, He.glo_ok X G (c.fact 67 (f := .glo "NoSpan") rfl)⟩, (List.forall_mem_cons.mpr ⟨.inl ⟨rfl, hve⟩, (List.forall_mem_cons.mpr ⟨.inr ⟨by decide +kernel, He.glo_ok X G (c.fact 49 (f := .glo "CopperError") rfl)⟩, (List.forall_mem_cons.mpr ⟨.inr ⟨by decide +kernel, He.glo_ok X G (c.fact 53 (f := .glo "NoBoard") rfl)⟩, (List.forall_mem_cons.mpr ⟨.inr ⟨by decide +kernel, He.glo_ok X G (c.fact 59 (f := .glo "NoCopper") rfl)⟩, (List.forall_mem_cons.mpr ⟨.inr ⟨by decide +kernel, He.glo_ok X G (c.fact 63 (f := .glo "NoDrawing") rfl)⟩, (List.forall_mem_cons.mpr ⟨.inr ⟨by decide +kernel, He.glo_ok X G (c.fact 69 (f := .glo "NoLay") rfl)⟩, (List.forall_mem_cons.mpr ⟨.inr ⟨by decide +kernel, He.glo_ok X G (c.fact 57 (f := .glo "NoPicture") rfl)⟩, (List.forall_mem_cons.mpr ⟨.inr ⟨by decide +kernel, He.glo_ok X G (c.fact 65 (f := .glo "NoPin") rfl)⟩, (List.forall_mem_cons.mpr ⟨.inr ⟨by decide +kernel, He.glo_ok X G (c.fact 55 (f := .glo "NoPlace") rfl)⟩, (List.forall_mem_cons.mpr ⟨.inr ⟨by decide +kernel, He.glo_ok X G (c.fact 61 (f := .glo "NoRules") rfl)⟩, (List.forall_mem_cons.mpr ⟨.inr ⟨by decide +kernel, He.glo_ok X G (c.fact 51 (f := .glo "NoShape") rfl)⟩, (List.forall_mem_cons.mpr ⟨.inr ⟨by decide +kernel, He.glo_ok X G (c.fact 67 (f := .glo "NoSpan") rfl)⟩, (List.forall_mem_cons.mpr ⟨.inl ⟨rfl, hve⟩, (fun p hp => by cases hp)⟩)⟩)⟩)⟩)⟩)⟩)⟩)⟩)⟩)⟩)⟩)⟩)⟩)⟩)⟩)⟩)⟩)⟩)⟩)⟩)⟩)⟩)⟩)⟩)⟩)⟩)⟩)⟩)⟩)⟩)⟩)⟩)⟩)⟩)⟩)⟩)⟩)⟩)⟩)⟩)⟩)⟩)⟩)⟩)⟩)⟩)⟩)⟩)⟩)⟩)⟩)⟩)⟩)⟩)⟩)⟩)⟩)⟩)⟩)⟩)⟩)⟩)⟩)⟩)⟩)⟩)⟩)⟩)⟩)⟩)⟩)⟩)⟩)⟩)⟩)⟩)⟩)⟩)⟩)⟩)⟩)⟩)⟩)⟩)⟩)⟩)⟩)⟩)⟩)⟩)⟩)⟩)⟩)⟩)⟩)⟩)⟩)⟩)⟩)⟩)⟩)⟩)⟩)⟩)⟩)⟩)⟩)⟩)⟩)⟩)⟩)⟩)⟩)⟩)⟩)⟩)⟩)⟩)⟩)⟩)
    exact hc _ hm
end
end DL.K16
open PySem PySem.W PySem.Calls PyProof.Rows
theorem PySem.Challenge.cw_copperbook_k16_refusals_apart_holds : PySem.Challenge.rw_copperbook_k16_refusals_apart.Holds := by
  w_on; o_law
  refine HandSHeadRun.head_any (r := OpenLaw.row PySem.Challenge.rw_copperbook_k16_refusals_apart) (q := view (OpenLaw.row PySem.Challenge.rw_copperbook_k16_refusals_apart).prog [94]) (H := DL.K16.hk) (ob := DL.K16.ob) (M := 40000) (loose := DL.K16.loose) (d := HandSHeadRun.topDef (OpenLaw.row PySem.Challenge.rw_copperbook_k16_refusals_apart).prog 94) (kwd := []) DL.K16.ob_eq
    (by kernel_rfl) (fun s => by kernel_rfl) DL.K16.run (by kernel_rfl) (by kernel_rfl) (by kernel_rfl) (by rfl) (by first | assumption | decide +kernel) (by decide +kernel) ⟨rfl, rfl, rfl, rfl, rfl, by decide +kernel⟩ ?hw ?hc
  case hw => w_witness2
  case hc =>
    refine LamX.walk_ofTsE (l := PySem.Challenge.rw_copperbook_k16_refusals_apart) (n := 63) (k := 2 * 12 + 1) (x := "script") (CX := fun w => L2.CX (PySem.Challenge.rw_copperbook_k16_refusals_apart).prog w) rfl (by decide) (by kernel_rfl) ⟨rfl, by decide, by decide⟩ ?F (fun w => DL.hCX _ w)
    intro w mg fa h Y G hmg0
    obtain ⟨K, KX, c⟩ := Y
    have hmg : mg ("law" : PySem.Str) = some (.ref fa) := by
      have e : (HandSHeadRun.topDef (OpenLaw.row PySem.Challenge.rw_copperbook_k16_refusals_apart).prog 94).name = ("law" : PySem.Str) := by kernel_rfl
      rw [← e]
      exact hmg0
    have e := hmg.symm.trans (He.glo_ok KX G (c.d.fact 48 (f := .glo "law") rfl))
    cases e
    obtain ⟨fd, F⟩ := c.d.def_ 82 (d := DL.K16.h_law) rfl
    exact ⟨K, KX, DL.law_at (d := DL.K16.d_law) (T := DL.K16.T_law) (lv := 12) (DL.K16.lf KX G c) (DL.an (DL.an (show (DL.K16.xs0 K && _) = true from c.x)).1).1 F ⟨rfl, rfl, rfl, by decide +kernel, rfl, by decide +kernel, by decide +kernel⟩ rfl rfl rfl (fun _ h => h) (by kernel_rfl) (fun kV doc pm an cdv ct us hl => match us, hl with | [_], _ => rfl) (DL.K16.plain K)⟩

