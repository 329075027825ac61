import PyProof.Rows.All
import Wide.All
import OpenK.AllK
import Wide.FinOn
import HandS.ForMost
import HandS.ForExc
import HandS.Deep
import HandS.IsInst
import HandS.Style
import HandS.TupAny
import HandS.TupMul
import HandS.StrMore
import PyProof.Rows.SeqMore
import HandS.TupLen
import HandS.Conv
import HandS.RaiseMore
import HandS.Walk
import KE.SortData
import KE.KDictDisplayH
import PySem.Challenge.RW_roundstreets_k01_whole_towns
set_option Elab.async false
set_option linter.all false
set_option maxRecDepth 100000
/-! Pv: pure values in the place of heaps. PvA: what stands for what, slots, results, steps. -/
namespace Pv
open PySem PySem.Spec L2

abbrev AS := Addr → Prop

/-- a list at a that nobody writes: tracked outside S, frozen, or written by the top -/
def LAt (K : PySem.W.Frag) (S : AS) (H : Hp) (a : Addr) (xs : List V) : Prop :=
  (¬ S a ∧ Rd H a (.lst xs)) ∨
    ∃ (o : Obj) (its : Array Value) (n : Nat), K.lookup a = some o ∧ o.cls = .type "list" ∧ o.dict = none ∧ o.data = .seq its n ∧ its.size ≤ sizeLine ∧ Vals xs its.toList
theorem LAt.seq {K : PySem.W.Frag} {S : AS} {H : Hp} {a : Addr} {xs : List V} (h : LAt K S H a xs) : SqL K H a xs := by
  rcases h with ⟨_, h⟩ | h
  · exact .inl h
  · exact .inr h

def kD : Key → PyData
  | .inl i => .int i
  | .inr s => .str s

/-- what an own thing holds -/
inductive MO where
  | lst (ds : List PyData)
  | dT (es : List (List Key × PyData))
  | dK (es : List (Key × PyData))
/-- a dict's datum: a mark of its kind, then its pairs -/
def dTd (es : List (List Key × PyData)) : List (PyData × PyData) := (.none, .bool true) :: es.map fun p => (.tuple (p.1.map kD), p.2)
def dKd (es : List (Key × PyData)) : List (PyData × PyData) := (.none, .bool false) :: es.map fun p => (kD p.1, p.2)
def MO.data : MO → PyData
  | .lst ds => .list ds
  | .dT es => .dict (dTd es)
  | .dK es => .dict (dKd es)

mutual
/-- v stands for the datum d in H; none of its lists and dicts stands at an address of S -/
inductive Rp (K : PySem.W.Frag) (S : AS) (H : Hp) : V → PyData → Prop
  | non : Rp K S H .non .none
  | bl (b : Bool) : Rp K S H (.bl b) (.bool b)
  | int (i : Int) : Rp K S H (.int i) (.int i)
  | str (x : Str) : Rp K S H (.str x) (.str x)
  | lst {a : Addr} {xs : List V} {ds : List PyData} : LAt K S H a xs → RpA K S H xs ds → Rp K S H (.ref a) (.list ds)
  | tup {a : Addr} {xs : List V} {ds : List PyData} : ¬ S a → H a = some (.tup xs) → RpA K S H xs ds → Rp K S H (.ref a) (.tuple ds)
  | dT {a : Addr} {kvs : List (List Key × V)} {es : List (List Key × PyData)} {ds : List (PyData × PyData)} : ¬ S a → H a = some (.dT kvs) → kvs.map (·.1) = es.map (·.1) → RpA K S H (kvs.map (·.2)) (es.map (·.2)) → ds = dTd es → Rp K S H (.ref a) (.dict ds)
  | dK {a : Addr} {kvs : List (Key × V)} {es : List (Key × PyData)} {ds : List (PyData × PyData)} : ¬ S a → H a = some (.dK kvs) → kvs.map (·.1) = es.map (·.1) → RpA K S H (kvs.map (·.2)) (es.map (·.2)) → ds = dKd es → Rp K S H (.ref a) (.dict ds)
inductive RpA (K : PySem.W.Frag) (S : AS) (H : Hp) : List V → List PyData → Prop
  | nil : RpA K S H [] []
  | cons {v : V} {vs : List V} {d : PyData} {ds : List PyData} : Rp K S H v d → RpA K S H vs ds → RpA K S H (v :: vs) (d :: ds)
end

section
variable {K : PySem.W.Frag} {S S' : AS} {H H' : Hp}
mutual
theorem Rp.mono (off : ∀ b o, H b = some o → ¬ S b → H' b = some o) (new : ∀ a, S' a → S a ∨ H a = none) : ∀ {v : V} {d : PyData}, Rp K S H v d → Rp K S' H' v d
  | _, _, .non => .non
  | _, _, .bl b => .bl b
  | _, _, .int i => .int i
  | _, _, .str x => .str x
  | _, _, .lst h hs => by
    refine .lst ?_ (RpA.mono off new hs)
    rcases h with ⟨n, h⟩ | h
    · refine .inl ⟨fun q => ?_, ?_⟩
      · rcases new _ q with q | q
        · exact n q
        · rcases h with h | ⟨o, h⟩ <;> (rw [q] at h; cases h)
      · rcases h with h | ⟨o, h⟩
        · exact .inl (off _ _ h n)
        · exact .inr ⟨o, off _ _ h n⟩
    · exact .inr h
  | _, _, .tup n h hs => .tup (fun q => by
      rcases new _ q with q | q
      · exact n q
      · rw [q] at h; cases h) (off _ _ h n) (RpA.mono off new hs)
  | _, _, .dT n h hk hs e => .dT (fun q => by
      rcases new _ q with q | q
      · exact n q
      · rw [q] at h; cases h) (off _ _ h n) hk (RpA.mono off new hs) e
  | _, _, .dK n h hk hs e => .dK (fun q => by
      rcases new _ q with q | q
      · exact n q
      · rw [q] at h; cases h) (off _ _ h n) hk (RpA.mono off new hs) e
theorem RpA.mono (off : ∀ b o, H b = some o → ¬ S b → H' b = some o) (new : ∀ a, S' a → S a ∨ H a = none) : ∀ {vs : List V} {ds : List PyData}, RpA K S H vs ds → RpA K S' H' vs ds
  | _, _, .nil => .nil
  | _, _, .cons h hs => .cons (Rp.mono off new h) (RpA.mono off new hs)
end
theorem RpA.length : ∀ {vs : List V} {ds : List PyData}, RpA K S H vs ds → vs.length = ds.length
  | _, _, .nil => rfl
  | _, _, .cons _ hs => by rw [List.length_cons, List.length_cons, hs.length]
theorem RpA.get : ∀ {vs : List V} {ds : List PyData} {i : Nat} {d : PyData}, RpA K S H vs ds → ds[i]? = some d → ∃ v, vs[i]? = some v ∧ Rp K S H v d
  | _, _, _, _, .nil, e => by simp at e
  | _, _, 0, _, .cons h _, e => by simp at e; subst e; exact ⟨_, rfl, h⟩
  | _, _, i + 1, _, .cons _ hs, e => by
    obtain ⟨v, h1, h2⟩ := RpA.get (i := i) hs (by simpa using e)
    exact ⟨v, by simpa using h1, h2⟩
theorem RpA.getV : ∀ {vs : List V} {ds : List PyData} {i : Nat} {v : V}, RpA K S H vs ds → vs[i]? = some v → ∃ d, ds[i]? = some d ∧ Rp K S H v d
  | _, _, _, _, .nil, e => by simp at e
  | _, _, 0, _, .cons h _, e => by simp at e; subst e; exact ⟨_, rfl, h⟩
  | _, _, i + 1, _, .cons _ hs, e => by
    obtain ⟨v, h1, h2⟩ := RpA.getV (i := i) hs (by simpa using e)
    exact ⟨v, by simpa using h1, h2⟩
theorem RpA.append : ∀ {vs ws : List V} {ds es : List PyData}, RpA K S H vs ds → RpA K S H ws es → RpA K S H (vs ++ ws) (ds ++ es)
  | _, _, _, _, .nil, h => h
  | _, _, _, _, .cons h hs, q => .cons h (RpA.append hs q)
theorem RpA.one {v : V} {d : PyData} (h : Rp K S H v d) : RpA K S H [v] [d] := .cons h .nil
theorem RpA.set : ∀ {vs : List V} {ds : List PyData} (i : Nat) {v : V} {d : PyData}, Rp K S H v d → RpA K S H vs ds → RpA K S H (vs.set i v) (ds.set i d)
  | _, _, _, _, _, _, .nil => .nil
  | _, _, 0, _, _, h, .cons _ hs => .cons h hs
  | _, _, i + 1, _, _, h, .cons q hs => .cons q (RpA.set i h hs)
theorem RpA.take : ∀ {vs : List V} {ds : List PyData} (n : Nat), RpA K S H vs ds → RpA K S H (vs.take n) (ds.take n)
  | _, _, 0, _ => by simp; exact .nil
  | _, _, _ + 1, .nil => .nil
  | _, _, n + 1, .cons h hs => .cons h (RpA.take n hs)
theorem RpA.drop : ∀ {vs : List V} {ds : List PyData} (n : Nat), RpA K S H vs ds → RpA K S H (vs.drop n) (ds.drop n)
  | _, _, 0, h => by simpa using h
  | _, _, _ + 1, .nil => .nil
  | _, _, n + 1, .cons _ hs => RpA.drop n hs
theorem RpA.of_get : ∀ {vs : List V} {ds : List PyData}, vs.length = ds.length → (∀ (i : Nat) v d, vs[i]? = some v → ds[i]? = some d → Rp K S H v d) → RpA K S H vs ds
  | [], [], _, _ => .nil
  | [], _ :: _, e, _ => by simp at e
  | _ :: _, [], e, _ => by simp at e
  | v :: vs, d :: ds, e, h => .cons (h 0 v d rfl rfl) (RpA.of_get (by simpa using e) fun i v d h1 h2 => h (i + 1) v d (by simpa using h1) (by simpa using h2))
mutual
theorem Rp.dp : ∀ {v : V} {d : PyData}, Rp K S H v d → d.canLay0 = true → Dp K H v d
  | _, _, .non, _ => .non
  | _, _, .bl b, _ => .bl b
  | _, _, .int i, _ => .int i
  | _, _, .str x, _ => .str x
  | _, _, .lst h hs, e => .lst h.seq (RpA.dp hs e)
  | _, _, .tup n h hs, e => .tup (SqT.of h) (RpA.dp hs e)
  | _, _, .dT .., e => nomatch e
  | _, _, .dK .., e => nomatch e
theorem RpA.dp : ∀ {vs : List V} {ds : List PyData}, RpA K S H vs ds → PyData.canLayAll0 ds = true → DpAll K H vs ds
  | _, _, .nil, _ => .nil
  | _, _, .cons h hs, e => by
    simp only [PyData.canLayAll0, Bool.and_eq_true] at e
    exact .cons (Rp.dp h e.1) (RpA.dp hs e.2)
end
end
end Pv
set_option maxRecDepth 100000
/-! PvB: slots, results, the state relation ER, steps Tr. -/
namespace Pv
open PySem PySem.Spec L2

/-- what a local name holds, at the pure level: nothing known, a datum, a thing of its own, a thing lent by the caller -/
inductive Slot where
  | no
  | val (d : PyData)
  | own (m : MO)
  | lent (m : MO)
abbrev Rho := List Slot
/-- an expression's result -/
inductive R where
  | val (d : PyData)
  | own (m : MO)
  | slot (i : Nat)
structure XV where
  cls : Addr
  fs : Option (List (Str × PyData))
inductive Out (α : Type) where
  | ok (a : α) (ρ : Rho)
  | ex (x : XV) (ρ : Rho)
  | bad
def Out.bind {α β : Type} (o : Out α) (k : α → Rho → Out β) : Out β := match o with
  | .ok a ρ => k a ρ
  | .ex x ρ => .ex x ρ
  | .bad => .bad
abbrev EF := Rho → Out R
abbrev TF := Rho → Out Bool

structure Fx where
  K : PySem.W.Frag
  H0 : Hp
  S0 : AS
  L : Nat → Option Addr
def Fx.lentA (F : Fx) (a : Addr) : Prop := ∃ i, F.L i = some a
structure Fx.Ok (F : Fx) : Prop where
  dom : ∀ a, F.S0 a → F.H0 a ≠ none
  lent : ∀ i a, F.L i = some a → F.S0 a

def MOk (K : PySem.W.Frag) (S : AS) (H : Hp) (a : Addr) : MO → Prop
  | .lst ds => ∃ vs, H a = some (.lst vs) ∧ RpA K S H vs ds
  | .dT es => ∃ kvs, H a = some (.dT kvs) ∧ kvs.map (·.1) = es.map (·.1) ∧ RpA K S H (kvs.map (·.2)) (es.map (·.2))
  | .dK es => ∃ kvs, H a = some (.dK kvs) ∧ kvs.map (·.1) = es.map (·.1) ∧ RpA K S H (kvs.map (·.2)) (es.map (·.2))
def SR (F : Fx) (S : AS) (H : Hp) (i : Nat) (v : Option (Option V)) : Slot → Prop
  | .no => True
  | .val d => ∃ x, v = some (some x) ∧ Rp F.K S H x d
  | .own m => ∃ a, v = some (some (.ref a)) ∧ S a ∧ F.H0 a = none ∧ MOk F.K S H a m
  | .lent m => ∃ a, v = some (some (.ref a)) ∧ F.L i = some a ∧ S a ∧ MOk F.K S H a m
def MutAt (σ : St) (ρ : Rho) (i : Nat) (a : Addr) : Prop := (∃ m, ρ[i]? = some (.own m) ∨ ρ[i]? = some (.lent m)) ∧ σ[i]? = some (some (.ref a))
structure ER (F : Fx) (S : AS) (H : Hp) (σ : St) (ρ : Rho) : Prop where
  len : ρ.length = σ.length
  at_ : ∀ i s, ρ[i]? = some s → SR F S H i σ[i]? s
  dj : ∀ i j a, MutAt σ ρ i a → MutAt σ ρ j a → i = j
  sub : ∀ a, F.S0 a → S a
  dom : ∀ a, S a → H a ≠ none
  fr : ∀ b o, F.H0 b = some o → ¬ F.lentA b → H b = some o
  lt : ∀ i a, F.L i = some a → ∃ m, ρ[i]? = some (.lent m)
structure Tr (S : AS) (H : Hp) (σ : St) (ρ : Rho) (S' : AS) (H' : Hp) (ρ' : Rho) : Prop where
  off : ∀ b o, H b = some o → (∀ i, ¬ MutAt σ ρ i b) → H' b = some o
  new : ∀ a, S' a → S a ∨ H a = none
  old : ∀ a, S a → (∀ i, ¬ MutAt σ ρ i a) → S' a
  mu : ∀ i a, MutAt σ ρ' i a → MutAt σ ρ i a
  stay : ∀ a, H a ≠ none → H' a ≠ none

section
variable {F : Fx} {K : PySem.W.Frag} {S S1 S2 S' : AS} {H H1 H2 H' : Hp} {σ : St} {ρ ρ1 ρ2 ρ' : Rho} {a : Addr} {v : V} {d : PyData} {m : MO}

theorem MOk.mono (off : ∀ b o, H b = some o → ¬ S b → H' b = some o) (new : ∀ a, S' a → S a ∨ H a = none) (ha : ∀ o, H a = some o → H' a = some o) : ∀ {m : MO}, MOk K S H a m → MOk K S' H' a m
  | .lst _, ⟨vs, e, h⟩ => ⟨vs, ha _ e, h.mono off new⟩
  | .dT _, ⟨vs, e, k, h⟩ => ⟨vs, ha _ e, k, h.mono off new⟩
  | .dK _, ⟨vs, e, k, h⟩ => ⟨vs, ha _ e, k, h.mono off new⟩
theorem MOk.some : ∀ {m : MO}, MOk K S H a m → H a ≠ none
  | .lst _, ⟨_, e, _⟩ => by rw [e]; exact fun z => nomatch z
  | .dT _, ⟨_, e, _⟩ => by rw [e]; exact fun z => nomatch z
  | .dK _, ⟨_, e, _⟩ => by rw [e]; exact fun z => nomatch z
theorem MOk.rp : ∀ {m : MO}, MOk K S H a m → ¬ S' a → (∀ a, S' a → S a) → Rp K S' H (.ref a) m.data
  | .lst _, ⟨vs, e, h⟩, n, le => .lst (.inl ⟨n, .inl e⟩) (h.mono (fun _ _ e _ => e) fun a z => .inl (le a z))
  | .dT _, ⟨vs, e, k, h⟩, n, le => .dT n e k (h.mono (fun _ _ e _ => e) fun a z => .inl (le a z)) rfl
  | .dK _, ⟨vs, e, k, h⟩, n, le => .dK n e k (h.mono (fun _ _ e _ => e) fun a z => .inl (le a z)) rfl

theorem ER.mutS (er : ER F S H σ ρ) {i : Nat} (h : MutAt σ ρ i a) : S a := by
  obtain ⟨⟨m, h1 | h1⟩, h2⟩ := h
  · obtain ⟨b, e, s, _⟩ := er.at_ i _ h1
    rw [h2] at e; cases e; exact s
  · obtain ⟨b, e, _, s, _⟩ := er.at_ i _ h1
    rw [h2] at e; cases e; exact s
theorem Tr.refl : Tr S H σ ρ S H ρ := ⟨fun _ _ e _ => e, fun _ h => .inl h, fun _ h _ => h, fun _ _ h => h, fun _ h => h⟩
theorem Tr.trans (er : ER F S H σ ρ) (t : Tr S H σ ρ S1 H1 ρ1) (u : Tr S1 H1 σ ρ1 S2 H2 ρ2) : Tr S H σ ρ S2 H2 ρ2 where
  off := fun b o e n => u.off b o (t.off b o e n) fun i z => n i (t.mu i b z)
  new := fun a h => by
    rcases u.new a h with h | h
    · exact t.new a h
    · cases q : H a with
      | none => exact .inr rfl
      | some o => exact absurd h (t.stay a (by rw [q]; exact fun z => nomatch z))
  old := fun a h n => u.old a (t.old a h n) fun i z => n i (t.mu i a z)
  mu := fun i a h => t.mu i a (u.mu i a h)
  stay := fun a h => u.stay a (t.stay a h)
/-- what nobody owns stays -/
theorem Tr.offS (er : ER F S H σ ρ) (t : Tr S H σ ρ S' H' ρ') : ∀ b o, H b = some o → ¬ S b → H' b = some o := fun b o e n => t.off b o e fun i z => n (er.mutS z)
theorem Rp.tr (h : Rp K S H v d) (er : ER F S H σ ρ) (t : Tr S H σ ρ S' H' ρ') : Rp K S' H' v d := h.mono (t.offS er) t.new
theorem RpA.tr {vs : List V} {ds : List PyData} (h : RpA K S H vs ds) (er : ER F S H σ ρ) (t : Tr S H σ ρ S' H' ρ') : RpA K S' H' vs ds := h.mono (t.offS er) t.new

/-- a new untouched thing -/
theorem Tr.alloc {p : Addr} {o : HO} (hp : H p = none) : Tr S H σ ρ S (upd H p o) ρ where
  off := fun b o e _ => by rw [upd_ne (ne_of_none e hp)]; exact e
  new := fun _ h => .inl h
  old := fun _ h _ => h
  mu := fun _ _ h => h
  stay := fun a h => by
    unfold upd
    split
    · exact fun z => nomatch z
    · exact h
theorem Tr.allocS {p : Addr} {o : HO} (hp : H p = none) : Tr S H σ ρ (fun a => S a ∨ a = p) (upd H p o) ρ where
  off := (Tr.alloc (S := S) (σ := σ) (ρ := ρ) hp).off
  new := fun a h => by
    rcases h with h | h
    · exact .inl h
    · exact .inr (by rw [h]; exact hp)
  old := fun _ h _ => .inl h
  mu := fun _ _ h => h
  stay := (Tr.alloc (S := S) (σ := σ) (ρ := ρ) hp).stay
/-- the relation behind a step that leaves the slots' things as they are -/
theorem ER.grow (er : ER F S H σ ρ) (same : ∀ b o, H b = some o → H' b = some o) (new : ∀ a, S' a → S a ∨ H a = none) (sub : ∀ a, S a → S' a) (dom : ∀ a, S' a → H' a ≠ none) : ER F S' H' σ ρ where
  len := er.len
  at_ := fun i s e => by
    have h := er.at_ i s e
    cases s with
    | no => trivial
    | val d => obtain ⟨x, e, h⟩ := h; exact ⟨x, e, h.mono (fun b o e _ => same b o e) new⟩
    | own m => obtain ⟨a, e, s, f, h⟩ := h; exact ⟨a, e, sub a s, f, h.mono (fun b o e _ => same b o e) new (same a)⟩
    | lent m => obtain ⟨a, e, l, s, h⟩ := h; exact ⟨a, e, l, sub a s, h.mono (fun b o e _ => same b o e) new (same a)⟩
  dj := er.dj
  sub := fun a h => sub a (er.sub a h)
  dom := dom
  fr := fun b o e n => same b o (er.fr b o e n)
  lt := er.lt
theorem ER.alloc (er : ER F S H σ ρ) {p : Addr} {o : HO} (hp : H p = none) : ER F S (upd H p o) σ ρ :=
  er.grow (fun b o e => by rw [upd_ne (ne_of_none e hp)]; exact e) (fun _ h => .inl h) (fun _ h => h) fun a h => by
    unfold upd
    split
    · exact fun z => nomatch z
    · exact er.dom a h
theorem ER.allocS (er : ER F S H σ ρ) {p : Addr} {o : HO} (hp : H p = none) : ER F (fun a => S a ∨ a = p) (upd H p o) σ ρ :=
  er.grow (fun b o e => by rw [upd_ne (ne_of_none e hp)]; exact e) (fun a h => by
    rcases h with h | h
    · exact .inl h
    · exact .inr (by rw [h]; exact hp)) (fun _ h => .inl h) fun a h => by
    unfold upd
    split
    · exact fun z => nomatch z
    · rename_i q
      rcases h with h | h
      · exact er.dom a h
      · exact absurd h q
/-- the own slot's thing is written -/
theorem Tr.write {i : Nat} {o : HO} {s : Slot} (hm : MutAt σ ρ i a) (hs : s ≠ .no) : Tr S H σ ρ S (upd H a o) (ρ.set i s) where
  off := fun b o e n => by
    rw [upd_ne fun z => n i (by rw [z]; exact hm)]
    exact e
  new := fun _ h => .inl h
  old := fun _ h _ => h
  mu := fun j b h => by
    by_cases q : j = i
    · subst q
      have e : b = a := by
        have := h.2
        rw [hm.2] at this
        cases this; rfl
      rw [e]; exact hm
    · obtain ⟨⟨m, h1⟩, h2⟩ := h
      rw [List.getElem?_set_ne (Ne.symm q)] at h1
      exact ⟨⟨m, h1⟩, h2⟩
  stay := fun b h => by
    unfold upd
    split
    · exact fun z => nomatch z
    · exact h
/-- the slot with a new content: of the same standing -/
def Slot.put (s : Slot) (m : MO) : Slot := match s with
  | .own _ => .own m
  | .lent _ => .lent m
  | s => s
def Slot.mo (s : Slot) : Option MO := match s with
  | .own m => some m
  | .lent m => some m
  | _ => none
theorem Slot.mo_cases {s : Slot} {m : MO} (h : s.mo = some m) : s = .own m ∨ s = .lent m := by
  cases s with
  | no => cases h
  | val d => cases h
  | own m' => cases h; exact .inl rfl
  | lent m' => cases h; exact .inr rfl
theorem ER.mo (er : ER F S H σ ρ) {i : Nat} {s : Slot} (e : ρ[i]? = some s) (hm : s.mo = some m) : ∃ a, σ[i]? = some (some (.ref a)) ∧ S a ∧ (F.H0 a = none ∨ F.lentA a) ∧ MOk F.K S H a m ∧ MutAt σ ρ i a := by
  rcases Slot.mo_cases hm with q | q <;> subst q
  · obtain ⟨a, e1, s, f, h⟩ := er.at_ i _ e
    exact ⟨a, e1, s, .inl f, h, ⟨m, .inl e⟩, e1⟩
  · obtain ⟨a, e1, l, s, h⟩ := er.at_ i _ e
    exact ⟨a, e1, s, .inr ⟨i, l⟩, h, ⟨m, .inr e⟩, e1⟩
theorem ER.putLt (er : ER F S H σ ρ) {i : Nat} {s : Slot} {m m' : MO} (e : ρ[i]? = some s) (hm : s.mo = some m) : ∀ j a, F.L j = some a → ∃ m2, (ρ.set i (s.put m'))[j]? = some (.lent m2) := fun j a h => by
  obtain ⟨m2, h2⟩ := er.lt j a h
  have hi : i < ρ.length := (List.getElem?_eq_some_iff.mp e).1
  by_cases q : i = j
  · subst q
    rw [e] at h2
    cases h2
    exact ⟨m', by rw [List.getElem?_set_self hi]; rfl⟩
  · rw [List.getElem?_set_ne q]
    exact ⟨m2, h2⟩
theorem ER.write (er : ER F S H σ ρ) {i : Nat} {s : Slot} {m' : MO} {o : HO} (e : ρ[i]? = some s) (hm : s.mo = some m) (ea : σ[i]? = some (some (.ref a))) (new : MOk F.K S (upd H a o) a m') : ER F S (upd H a o) σ (ρ.set i (s.put m')) := by
  obtain ⟨b, eb, sb, fb, hb, mb⟩ := er.mo e hm
  rw [ea] at eb; cases eb
  have hi : i < ρ.length := (List.getElem?_eq_some_iff.mp e).1
  have off : ∀ b o', H b = some o' → ¬ S b → upd H a o b = some o' := fun b o' e n => by
    rw [upd_ne fun z => n (by rw [z]; exact sb)]
    exact e
  have mu : ∀ j b, MutAt σ (ρ.set i (s.put m')) j b → MutAt σ ρ j b := (Tr.write (S := S) (H := H) (o := o) mb (by rcases Slot.mo_cases hm with q | q <;> (subst q; exact fun z => nomatch z))).mu
  refine ⟨by rw [List.length_set]; exact er.len, fun j t q => ?_, fun j k b h1 h2 => er.dj j k b (mu _ _ h1) (mu _ _ h2), er.sub, fun b h => ?_, fun b o' q n => ?_, er.putLt e hm⟩
  · by_cases hj : j = i
    · subst hj
      rw [List.getElem?_set_self hi] at q
      cases q
      have h0 := er.at_ j _ e
      rcases Slot.mo_cases hm with z | z <;> subst z
      · obtain ⟨c, ec, sc, fc, _⟩ := h0
        rw [ea] at ec; cases ec
        exact ⟨a, ea, sc, fc, new⟩
      · obtain ⟨c, ec, lc, sc, _⟩ := h0
        rw [ea] at ec; cases ec
        exact ⟨a, ea, lc, sc, new⟩
    · rw [List.getElem?_set_ne (Ne.symm hj)] at q
      have h0 := er.at_ j t q
      cases t with
      | no => trivial
      | val d => obtain ⟨x, e, h⟩ := h0; exact ⟨x, e, h.mono off fun _ z => .inl z⟩
      | own m2 =>
        obtain ⟨c, e, sc, f, h⟩ := h0
        have nc : c ≠ a := fun z => hj (er.dj j i a ⟨⟨m2, .inl q⟩, by rw [e, z]⟩ mb)
        exact ⟨c, e, sc, f, h.mono off (fun _ z => .inl z) fun o' eo => by rw [upd_ne nc]; exact eo⟩
      | lent m2 =>
        obtain ⟨c, e, l, sc, h⟩ := h0
        have nc : c ≠ a := fun z => hj (er.dj j i a ⟨⟨m2, .inr q⟩, by rw [e, z]⟩ mb)
        exact ⟨c, e, l, sc, h.mono off (fun _ z => .inl z) fun o' eo => by rw [upd_ne nc]; exact eo⟩
  · unfold upd
    split
    · exact fun z => nomatch z
    · exact er.dom b h
  · have nb : b ≠ a := fun z => by
      rcases fb with f | f
      · rw [z, f] at q; cases q
      · exact n (by rw [z]; exact f)
    rw [upd_ne nb]
    exact er.fr b o' q n
end

/-! ### results -/
def RR (F : Fx) (S : AS) (H : Hp) (σ : St) (ρ : Rho) (v : V) : R → Prop
  | .val d => Rp F.K S H v d
  | .own m => ∃ a, v = .ref a ∧ S a ∧ F.H0 a = none ∧ MOk F.K S H a m ∧ ∀ i, ¬ MutAt σ ρ i a
  | .slot i => σ[i]? = some (some v) ∧ i < ρ.length
def Frsh (H : Hp) (v : V) : R → Prop
  | .own _ => ∀ a, v = .ref a → H a = none
  | _ => True
def XR (F : Fx) (S : AS) (H : Hp) (x : XV) (cls : Value) (dx : Option Addr) : Prop :=
  cls = .ref x.cls ∧ match x.fs with
    | none => dx = none
    | some fs => ∃ d vs, dx = some d ∧ H d = some (.xd vs) ∧ vs.map (·.1) = fs.map (·.1) ∧ RpA F.K S H (vs.map (·.2)) (fs.map (·.2))
/-- read where it stands -/
def RT (K : PySem.W.Frag) (S : AS) (H : Hp) (v : V) (d : PyData) : Prop := Rp K S H v d ∨ ∃ a m, v = .ref a ∧ d = m.data ∧ MOk K S H a m
def deref (ρ : Rho) : R → Option PyData
  | .val d => some d
  | .own m => some m.data
  | .slot i => match ρ[i]? with
    | some (.val d) => some d
    | some (.own m) => some m.data
    | some (.lent m) => some m.data
    | _ => none
def freeze (ρ : Rho) : R → Option (PyData × Rho)
  | .val d => some (d, ρ)
  | .own m => some (m.data, ρ)
  | .slot i => match ρ[i]? with
    | some (.val d) => some (d, ρ)
    | some (.own m) => some (m.data, ρ.set i (.val m.data))
    | _ => none

section
variable {F : Fx} {K : PySem.W.Frag} {S S1 S2 S' : AS} {H H1 H2 H' : Hp} {σ : St} {ρ ρ1 ρ2 ρ' : Rho} {a : Addr} {v : V} {d : PyData} {m : MO} {r : R}
theorem RR.tr (h : RR F S H σ ρ v r) (er : ER F S H σ ρ) (t : Tr S H σ ρ S' H' ρ') (hl : ρ'.length = ρ.length) : RR F S' H' σ ρ' v r := by
  cases r with
  | val d => exact Rp.tr h er t
  | slot i => exact ⟨h.1, by rw [hl]; exact h.2⟩
  | own m =>
    obtain ⟨a, e, s, f, ok, n⟩ := h
    exact ⟨a, e, t.old a s n, f, ok.mono (t.offS er) t.new (fun o q => t.off a o q n), fun i z => n i (t.mu i a z)⟩
theorem RR.rt (h : RR F S H σ ρ v r) (er : ER F S H σ ρ) (e : deref ρ r = some d) : RT F.K S H v d := by
  cases r with
  | val d' => cases e; exact .inl h
  | own m =>
    cases e
    obtain ⟨a, e, s, f, ok, n⟩ := h
    exact .inr ⟨a, m, e, rfl, ok⟩
  | slot i =>
    obtain ⟨h1, h2⟩ := h
    unfold deref at e
    cases q : ρ[i]? with
    | none => simp only [q] at e; cases e
    | some s =>
      have z := er.at_ i s q
      cases s with
      | no => simp only [q] at e; cases e
      | val d' =>
        simp only [q] at e; cases e
        obtain ⟨x, e1, z⟩ := z
        rw [h1] at e1; cases e1
        exact .inl z
      | own m =>
        simp only [q] at e; cases e
        obtain ⟨b, e1, _, _, z⟩ := z
        rw [h1] at e1; cases e1
        exact .inr ⟨b, m, rfl, rfl, z⟩
      | lent m =>
        simp only [q] at e; cases e
        obtain ⟨b, e1, _, _, z⟩ := z
        rw [h1] at e1; cases e1
        exact .inr ⟨b, m, rfl, rfl, z⟩
/-- a result is given away: nobody writes it any more -/
theorem freeze_ok (er0 : ER F S H σ ρ) (t : Tr S H σ ρ S1 H1 ρ1) (er : ER F S1 H1 σ ρ1) (rr : RR F S1 H1 σ ρ1 v r) (fr : Frsh H v r) (e : freeze ρ1 r = some (d, ρ2)) (fok : F.Ok) :
    ∃ S2, Tr S H σ ρ S2 H1 ρ2 ∧ ER F S2 H1 σ ρ2 ∧ Rp F.K S2 H1 v d ∧ (∀ a, S2 a → S1 a) ∧ ρ2.length = ρ1.length := by
  cases r with
  | val d' => cases e; exact ⟨S1, t, er, rr, fun _ z => z, rfl⟩
  | own m =>
    cases e
    obtain ⟨a, e, s, f, ok, n⟩ := rr
    have ha : H a = none := fr a e
    have nS0 : ¬ F.S0 a := fun z => fok.dom a z f
    refine ⟨fun b => S1 b ∧ b ≠ a, ⟨t.off, fun b h => t.new b h.1, fun b h q => ⟨t.old b h q, fun z => er0.dom b h (by rw [z]; exact ha)⟩, t.mu, t.stay⟩, ?_, ?_, fun _ z => z.1, rfl⟩
    · refine ⟨er.len, fun i s q => ?_, er.dj, fun b h => ⟨er.sub b h, fun z => nS0 (by rw [← z]; exact h)⟩, fun b h => er.dom b h.1, er.fr, er.lt⟩
      have z := er.at_ i s q
      have le : ∀ b, (S1 b ∧ b ≠ a) → S1 b ∨ H1 b = none := fun b h => .inl h.1
      cases s with
      | no => trivial
      | val d' => obtain ⟨x, e, h⟩ := z; exact ⟨x, e, h.mono (fun _ _ e _ => e) le⟩
      | own m' => obtain ⟨c, e, sc, f, h⟩ := z; exact ⟨c, e, ⟨sc, fun y => n i ⟨⟨m', .inl q⟩, by rw [e, y]⟩⟩, f, h.mono (fun _ _ e _ => e) le fun _ e => e⟩
      | lent m' => obtain ⟨c, e, l, sc, h⟩ := z; exact ⟨c, e, l, ⟨sc, fun y => n i ⟨⟨m', .inr q⟩, by rw [e, y]⟩⟩, h.mono (fun _ _ e _ => e) le fun _ e => e⟩
    · rw [e]
      exact ok.rp (fun z => z.2 rfl) fun _ z => z.1
  | slot i =>
    obtain ⟨h1, h2⟩ := rr
    unfold freeze at e
    cases q : ρ1[i]? with
    | none => simp only [q] at e; cases e
    | some s =>
      have z := er.at_ i s q
      cases s with
      | no => simp only [q] at e; cases e
      | lent m => simp only [q] at e; cases e
      | val d' =>
        simp only [q] at e; cases e
        obtain ⟨x, e1, z⟩ := z
        rw [h1] at e1; cases e1
        exact ⟨S1, t, er, z, fun _ z => z, rfl⟩
      | own m =>
        simp only [q] at e
        cases e
        obtain ⟨a, e1, sa, f, z⟩ := z
        rw [h1] at e1; cases e1
        have hm : MutAt σ ρ1 i a := ⟨⟨m, .inl q⟩, h1⟩
        have nS0 : ¬ F.S0 a := fun z => fok.dom a z f
        have mu : ∀ j b, MutAt σ (ρ1.set i (.val m.data)) j b → MutAt σ ρ1 j b ∧ j ≠ i := fun j b h => by
          by_cases hj : j = i
          · subst hj
            obtain ⟨⟨m', h'⟩, _⟩ := h
            rw [List.getElem?_set_self h2] at h'
            rcases h' with h' | h' <;> cases h'
          · obtain ⟨⟨m', h'⟩, h''⟩ := h
            rw [List.getElem?_set_ne (Ne.symm hj)] at h'
            exact ⟨⟨⟨m', h'⟩, h''⟩, hj⟩
        have le : ∀ b, (S1 b ∧ b ≠ a) → S1 b ∨ H1 b = none := fun b h => .inl h.1
        refine ⟨fun b => S1 b ∧ b ≠ a, ⟨t.off, fun b h => t.new b h.1, fun b h y => ⟨t.old b h y, fun w => y i (t.mu i b (by rw [w]; exact hm))⟩, fun j b h => t.mu j b (mu j b h).1, t.stay⟩, ?_, z.rp (fun w => w.2 rfl) fun _ w => w.1, fun _ w => w.1, by rw [List.length_set]⟩
        refine ⟨by rw [List.length_set]; exact er.len, fun j s w => ?_, fun j k b y w => er.dj j k b (mu _ _ y).1 (mu _ _ w).1, fun b h => ⟨er.sub b h, fun w => nS0 (by rw [← w]; exact h)⟩, fun b h => er.dom b h.1, er.fr, fun j b w => ?_⟩
        rotate_left
        · obtain ⟨m2, w2⟩ := er.lt j b w
          have hj : i ≠ j := fun y => by
            subst y
            rw [q] at w2; cases w2
          exact ⟨m2, by rw [List.getElem?_set_ne hj]; exact w2⟩
        by_cases hj : j = i
        · subst hj
          rw [List.getElem?_set_self h2] at w
          cases w
          exact ⟨.ref a, h1, z.rp (fun w => w.2 rfl) fun _ w => w.1⟩
        · rw [List.getElem?_set_ne (Ne.symm hj)] at w
          have y := er.at_ j s w
          cases s with
          | no => trivial
          | val d' => obtain ⟨x, e, h⟩ := y; exact ⟨x, e, h.mono (fun _ _ e _ => e) le⟩
          | own m' => obtain ⟨c, e, sc, f, h⟩ := y; exact ⟨c, e, ⟨sc, fun y => hj (er.dj j i a ⟨⟨m', .inl w⟩, by rw [e, y]⟩ hm)⟩, f, h.mono (fun _ _ e _ => e) le fun _ e => e⟩
          | lent m' => obtain ⟨c, e, l, sc, h⟩ := y; exact ⟨c, e, l, ⟨sc, fun y => hj (er.dj j i a ⟨⟨m', .inr w⟩, by rw [e, y]⟩ hm)⟩, h.mono (fun _ _ e _ => e) le fun _ e => e⟩
theorem XR.tr {x : XV} {cls : Value} {dx : Option Addr} (h : XR F S H x cls dx) (same : ∀ b o, H b = some o → H' b = some o) (new : ∀ a, S' a → S a ∨ H a = none) : XR F S' H' x cls dx := by
  obtain ⟨e, h⟩ := h
  refine ⟨e, ?_⟩
  cases q : x.fs with
  | none => simp only [q] at h ⊢; exact h
  | some fs =>
    simp only [q] at h ⊢
    obtain ⟨d, vs, h1, h2, h3, h4⟩ := h
    exact ⟨d, vs, h1, same _ _ h2, h3, h4.mono (fun b o e _ => same b o e) new⟩
end

/-! ### what is wanted behind an expression -/
def PostE (F : Fx) (W : WX) (S : AS) (H : Hp) (σ : St) (ρ : Rho) (o : Out R) (Q : VK) : Prop := match o with
  | .ok r ρ' => ∀ v S' H', Tr S H σ ρ S' H' ρ' → ER F S' H' σ ρ' → RR F S' H' σ ρ' v r → Frsh H v r → Q v H'
  | .ex x ρ' => ∀ cls dx S' H', Tr S H σ ρ S' H' ρ' → ER F S' H' σ ρ' → XR F S' H' x cls dx → W cls dx σ H'
  | .bad => False
structure SE (X : Cx) (W : WX) (e : Expr) (t : TE) (f : EF) : Prop where
  pe : PE X e t
  sn : ∀ (F : Fx) (S : AS) (H : Hp) (σ : St) (ρ : Rho) (Q : VK), F.K = X.K → F.Ok → ER F S H σ ρ → PostE F W S H σ ρ (f ρ) Q → t σ H Q
def PostT (F : Fx) (W : WX) (S : AS) (H : Hp) (σ : St) (ρ : Rho) (o : Out Bool) (Q : Bool → Hp → Prop) : Prop := match o with
  | .ok b ρ' => ∀ S' H', Tr S H σ ρ S' H' ρ' → ER F S' H' σ ρ' → Q b H'
  | .ex x ρ' => ∀ cls dx S' H', Tr S H σ ρ S' H' ρ' → ER F S' H' σ ρ' → XR F S' H' x cls dx → W cls dx σ H'
  | .bad => False
structure ST (X : Cx) (W : WX) (e : Expr) (t : TT) (f : TF) : Prop where
  pt : PT X e t
  sn : ∀ (F : Fx) (S : AS) (H : Hp) (σ : St) (ρ : Rho) (Q : Bool → Hp → Prop), F.K = X.K → F.Ok → ER F S H σ ρ → PostT F W S H σ ρ (f ρ) Q → t σ H Q
structure SW (X : Cx) (W : WX) (e : Expr) (t : TT) (f : TF) : Prop where
  pw : PW X e t
  sn : ∀ (F : Fx) (S : AS) (H : Hp) (σ : St) (ρ : Rho) (Q : Bool → Hp → Prop), F.K = X.K → F.Ok → ER F S H σ ρ → PostT F W S H σ ρ (f ρ) Q → t σ H Q

section
variable {F : Fx} {W : WX} {K : PySem.W.Frag} {S S1 S2 S' : AS} {H H1 H2 H' : Hp} {σ : St} {ρ ρ1 ρ2 ρ' : Rho} {a : Addr} {v : V} {d : PyData} {m : MO} {r : R} {Q : VK}
theorem Frsh.up (t : Tr S H σ ρ S1 H1 ρ1) (h : Frsh H1 v r) : Frsh H v r := by
  cases r with
  | own m =>
    intro a e
    cases q : H a with
    | none => rfl
    | some o => exact absurd (h a e) (t.stay a (by rw [q]; exact fun z => nomatch z))
  | val d => trivial
  | slot i => trivial
/-- from a later state -/
theorem PostE.shift (er : ER F S H σ ρ) (t : Tr S H σ ρ S1 H1 ρ1) {o : Out R} (h : PostE F W S H σ ρ o Q) : PostE F W S1 H1 σ ρ1 o Q := by
  cases o with
  | ok r ρ' => exact fun v S' H' t' er' rr fr => h v S' H' (t.trans er t') er' rr (fr.up t)
  | ex x ρ' => exact fun cls dx S' H' t' er' xr => h cls dx S' H' (t.trans er t') er' xr
  | bad => exact h
theorem PostT.shift (er : ER F S H σ ρ) (t : Tr S H σ ρ S1 H1 ρ1) {o : Out Bool} {Q : Bool → Hp → Prop} (h : PostT F W S H σ ρ o Q) : PostT F W S1 H1 σ ρ1 o Q := by
  cases o with
  | ok r ρ' => exact fun S' H' t' er' => h S' H' (t.trans er t') er'
  | ex x ρ' => exact fun cls dx S' H' t' er' xr => h cls dx S' H' (t.trans er t') er' xr
  | bad => exact h
end

/-- a wish that hangs on what an outcome is, by a family over states: general form -/
structure Wish (F : Fx) (W : WX) (σ : St) (β : Type) where
  P : AS → Hp → Rho → Out β → Prop
  sh : ∀ {S H ρ S1 H1 ρ1 o}, ER F S H σ ρ → Tr S H σ ρ S1 H1 ρ1 → P S H ρ o → P S1 H1 ρ1 o
  ex : ∀ {S H ρ x ρ'}, P S H ρ (.ex x ρ') → ∀ cls dx S' H', Tr S H σ ρ S' H' ρ' → ER F S' H' σ ρ' → XR F S' H' x cls dx → W cls dx σ H'
  bad : ∀ {S H ρ}, ¬ P S H ρ .bad
def wE (F : Fx) (W : WX) (σ : St) (Q : VK) : Wish F W σ R := ⟨fun S H ρ o => PostE F W S H σ ρ o Q, fun er t h => h.shift er t, fun h => h, fun h => h⟩
def wT (F : Fx) (W : WX) (σ : St) (Q : Bool → Hp → Prop) : Wish F W σ Bool := ⟨fun S H ρ o => PostT F W S H σ ρ o Q, fun er t h => h.shift er t, fun h => h, fun h => h⟩

def bindF {β : Type} (o : Out R) (k : PyData → Rho → Out β) : Out β := match o with
  | .ok r ρ => match freeze ρ r with
    | some (d, ρ') => k d ρ'
    | none => .bad
  | .ex x ρ => .ex x ρ
  | .bad => .bad

section
variable {X : Cx} {e : Expr} {t : TE} {tt : TT} {f : EF} {g : TF} {F : Fx} {W : WX} {S : AS} {H : Hp} {σ : St} {ρ : Rho} {Q : VK} {β : Type}
/-- evaluate e, keep its result where it stands -/
theorem SE.go (h : SE X W e t f) (hK : F.K = X.K) (fok : F.Ok) (er : ER F S H σ ρ) (w : Wish F W σ β) {k : R → Rho → Out β} (hp : w.P S H ρ ((f ρ).bind k))
    (hk : ∀ r ρ1 v S1 H1, Tr S H σ ρ S1 H1 ρ1 → ER F S1 H1 σ ρ1 → RR F S1 H1 σ ρ1 v r → Frsh H v r → w.P S1 H1 ρ1 (k r ρ1) → Q v H1) : t σ H Q := by
  refine h.sn F S H σ ρ Q hK fok er ?_
  cases q : f ρ with
  | ok r ρ1 =>
    rw [q] at hp
    exact fun v S1 H1 t1 er1 rr fr => hk r ρ1 v S1 H1 t1 er1 rr fr (w.sh er t1 hp)
  | ex x ρ1 =>
    rw [q] at hp
    exact w.ex hp
  | bad =>
    rw [q] at hp
    exact w.bad hp
/-- evaluate e, give its result away -/
theorem SE.goF (h : SE X W e t f) (hK : F.K = X.K) (fok : F.Ok) (er : ER F S H σ ρ) (w : Wish F W σ β) {k : PyData → Rho → Out β} (hp : w.P S H ρ (bindF (f ρ) k))
    (hk : ∀ d ρ2 v S2 H1, Tr S H σ ρ S2 H1 ρ2 → ER F S2 H1 σ ρ2 → Rp F.K S2 H1 v d → w.P S2 H1 ρ2 (k d ρ2) → Q v H1) : t σ H Q := by
  refine h.sn F S H σ ρ Q hK fok er ?_
  cases q : f ρ with
  | ok r ρ1 =>
    rw [q] at hp
    intro v S1 H1 t1 er1 rr fr
    unfold bindF at hp
    cases z : freeze ρ1 r with
    | none =>
      simp only [z] at hp
      exact (w.bad hp).elim
    | some p =>
      obtain ⟨d, ρ2⟩ := p
      simp only [z] at hp
      obtain ⟨S2, t2, er2, rp, _, _⟩ := freeze_ok er t1 er1 rr fr z fok
      exact hk d ρ2 v S2 H1 t2 er2 rp (w.sh er t2 hp)
  | ex x ρ1 =>
    rw [q] at hp
    exact w.ex hp
  | bad =>
    rw [q] at hp
    exact w.bad hp
theorem ST.go (h : ST X W e tt g) (hK : F.K = X.K) (fok : F.Ok) (er : ER F S H σ ρ) (w : Wish F W σ β) {k : Bool → Rho → Out β} (hp : w.P S H ρ ((g ρ).bind k)) {Q : Bool → Hp → Prop}
    (hk : ∀ b ρ1 S1 H1, Tr S H σ ρ S1 H1 ρ1 → ER F S1 H1 σ ρ1 → w.P S1 H1 ρ1 (k b ρ1) → Q b H1) : tt σ H Q := by
  refine h.sn F S H σ ρ Q hK fok er ?_
  cases q : g ρ with
  | ok b ρ1 =>
    rw [q] at hp
    exact fun S1 H1 t1 er1 => hk b ρ1 S1 H1 t1 er1 (w.sh er t1 hp)
  | ex x ρ1 =>
    rw [q] at hp
    exact w.ex hp
  | bad =>
    rw [q] at hp
    exact w.bad hp
theorem SW.go (h : SW X W e tt g) (hK : F.K = X.K) (fok : F.Ok) (er : ER F S H σ ρ) (w : Wish F W σ β) {k : Bool → Rho → Out β} (hp : w.P S H ρ ((g ρ).bind k)) {Q : Bool → Hp → Prop}
    (hk : ∀ b ρ1 S1 H1, Tr S H σ ρ S1 H1 ρ1 → ER F S1 H1 σ ρ1 → w.P S1 H1 ρ1 (k b ρ1) → Q b H1) : tt σ H Q := ST.go (X := X) (e := e) ⟨h.pw.pt, h.sn⟩ hK fok er w hp hk
end
end Pv
set_option maxRecDepth 100000
/-! PvC: operators by data. -/
namespace Pv
open PySem PySem.Spec L2

/-- a step that leaves all as it was but for new things; the result -/
def Grow (K : PySem.W.Frag) (S : AS) (H : Hp) (S' : AS) (H' : Hp) (v : V) (r : R) : Prop :=
  (∀ b o, H b = some o → H' b = some o) ∧ match r with
    | .val d => S' = S ∧ Rp K S H' v d
    | .own m => ∃ p, v = .ref p ∧ H p = none ∧ S' = (fun a => S a ∨ a = p) ∧ MOk K S' H' p m
    | .slot _ => False
theorem Grow.val {K : PySem.W.Frag} {S : AS} {H : Hp} {v : V} {d : PyData} (h : Rp K S H v d) : Grow K S H S H v (.val d) := ⟨fun _ _ e => e, rfl, h⟩
theorem Grow.tup {K : PySem.W.Frag} {S : AS} {H : Hp} {p : Addr} {xs : List V} {ds : List PyData} (dom : ∀ a, S a → H a ≠ none) (hp : H p = none) (h : RpA K S H xs ds) : Grow K S H S (upd H p (.tup xs)) (.ref p) (.val (.tuple ds)) := by
  have same : ∀ b o, H b = some o → upd H p (.tup xs) b = some o := fun b o e => by rw [upd_ne (ne_of_none e hp)]; exact e
  exact ⟨same, rfl, .tup (fun z => dom _ z hp) upd_same (h.mono (fun b o e _ => same b o e) fun _ z => .inl z)⟩
theorem Grow.lst {K : PySem.W.Frag} {S : AS} {H : Hp} {p : Addr} {xs : List V} {ds : List PyData} (hp : H p = none) (h : RpA K S H xs ds) : Grow K S H (fun a => S a ∨ a = p) (upd H p (.lst xs)) (.ref p) (.own (.lst ds)) := by
  have same : ∀ b o, H b = some o → upd H p (.lst xs) b = some o := fun b o e => by rw [upd_ne (ne_of_none e hp)]; exact e
  refine ⟨same, p, rfl, hp, rfl, xs, upd_same, h.mono (fun b o e _ => same b o e) fun a z => ?_⟩
  rcases z with z | z
  · exact .inl z
  · exact .inr (by rw [z]; exact hp)
section
variable {F : Fx} {S S' : AS} {H H' : Hp} {σ : St} {ρ : Rho} {v : V} {r : R}
theorem Grow.step (g : Grow F.K S H S' H' v r) (er : ER F S H σ ρ) (fok : F.Ok) : Tr S H σ ρ S' H' ρ ∧ ER F S' H' σ ρ ∧ RR F S' H' σ ρ v r ∧ Frsh H v r := by
  obtain ⟨same, g⟩ := g
  have stay : ∀ a, H a ≠ none → H' a ≠ none := fun a h => by
    cases q : H a with
    | none => exact absurd q h
    | some o => rw [same a o q]; exact fun z => nomatch z
  cases r with
  | slot i => exact g.elim
  | val d =>
    obtain ⟨e, h⟩ := g
    subst e
    exact ⟨⟨fun b o e _ => same b o e, fun _ h => .inl h, fun _ h _ => h, fun _ _ h => h, stay⟩, er.grow same (fun _ h => .inl h) (fun _ h => h) fun a h => stay a (er.dom a h), h, trivial⟩
  | own m =>
    obtain ⟨p, e, hp, e2, hm⟩ := g
    subst e e2
    have new : ∀ a, (S a ∨ a = p) → S a ∨ H a = none := fun a h => by
      rcases h with h | h
      · exact .inl h
      · exact .inr (by rw [h]; exact hp)
    have nS : ¬ S p := fun z => er.dom p z hp
    refine ⟨⟨fun b o e _ => same b o e, new, fun _ h _ => .inl h, fun _ _ h => h, stay⟩, er.grow same new (fun _ h => .inl h) fun a h => ?_, ⟨p, rfl, .inr rfl, ?_, hm, fun i z => nS (er.mutS z)⟩, fun a e => by cases e; exact hp⟩
    · rcases h with q | q
      · exact stay a (er.dom a q)
      · rw [q]; exact MOk.some hm
    · cases q : F.H0 p with
      | none => rfl
      | some o =>
        exfalso
        by_cases l : F.lentA p
        · obtain ⟨i, l⟩ := l
          exact nS (er.sub p (fok.lent i p l))
        · have := er.fr p o q l
          rw [hp] at this; cases this
end

/-- an operator's reading r, by data: g -/
def OpG (K : PySem.W.Frag) (r : R2) (g : PyData → PyData → Option R) : Prop := ∀ (S : AS) (H : Hp) (x y : V) (dx dy : PyData) (res : R) (Q : VK), (∀ a, S a → H a ≠ none) → RT K S H x dx → RT K S H y dy → g dx dy = some res →
  (∀ v S' H', Grow K S H S' H' v res → Q v H') → r x y H Q
def res2 (g : PyData → PyData → Option R) (ra rb : R) (ρ : Rho) : Out R := match deref ρ ra, deref ρ rb with
  | some da, some db => (match g da db with
    | some r => .ok r ρ
    | none => .bad)
  | _, _ => .bad
def fOp (g : PyData → PyData → Option R) (fa fb : EF) : EF := fun ρ => (fa ρ).bind fun ra ρ1 => (fb ρ1).bind fun rb ρ2 => res2 g ra rb ρ2
theorem sn_op {X : Cx} {W : WX} {a b : Expr} {ta tb : TE} {fa fb : EF} {r : R2} {g : PyData → PyData → Option R} (hs : OpG X.K r g) (ha : SE X W a ta fa) (hb : SE X W b tb fb) :
    ∀ (F : Fx) (S : AS) (H : Hp) (σ : St) (ρ : Rho) (Q : VK), F.K = X.K → F.Ok → ER F S H σ ρ → PostE F W S H σ ρ (fOp g fa fb ρ) Q → tOp r ta tb σ H Q := by
  intro F S H σ ρ Q hK fok er hp
  refine ha.go hK fok er (wE F W σ Q) hp fun ra ρ1 v1 S1 H1 t1 er1 rr1 _ hp1 => ?_
  refine hb.go hK fok er1 (wE F W σ Q) hp1 fun rb ρ2 v2 S2 H2 t2 er2 rr2 _ hp2 => ?_
  have rr1' := rr1.tr er1 t2 (er2.len.trans er1.len.symm)
  have hp2 : PostE F W S2 H2 σ ρ2 (res2 g ra rb ρ2) Q := hp2
  unfold res2 at hp2
  cases qa : deref ρ2 ra with
  | none => simp only [qa] at hp2; exact hp2.elim
  | some da =>
    cases qb : deref ρ2 rb with
    | none => simp only [qa, qb] at hp2; exact hp2.elim
    | some db =>
      simp only [qa, qb] at hp2
      cases qg : g da db with
      | none => simp only [qg] at hp2; exact hp2.elim
      | some res =>
        simp only [qg] at hp2
        refine hs S2 H2 v1 v2 da db res Q er2.dom (by rw [← hK]; exact rr1'.rt er2 qa) (by rw [← hK]; exact rr2.rt er2 qb) qg fun v S' H' gr => ?_
        obtain ⟨t, er', rr', fr'⟩ := (show Grow F.K S2 H2 S' H' v res by rw [hK]; exact gr).step er2 fok
        exact hp2 v S' H' t er' rr' fr'
theorem se_op {X : Cx} {W : WX} {a b : Expr} {ta tb : TE} {fa fb : EF} {op : Operator} {r : R2} {g : PyData → PyData → Option R} {pos : Pos} (ho : OpR X (binaryOp op) r) (hs : OpG X.K r g) (ha : SE X W a ta fa) (hb : SE X W b tb fb) :
    SE X W (.BinOp a op b pos) (tOp r ta tb) (fOp g fa fb) := ⟨pe_op ho ha.pe hb.pe, sn_op hs ha hb⟩
theorem se_cmp {X : Cx} {W : WX} {a b : Expr} {ta tb : TE} {fa fb : EF} {op : CmpOp} {r : R2} {g : PyData → PyData → Option R} {pos : Pos} (ho : OpR X (compareOp op) r) (hs : OpG X.K r g) (ha : SE X W a ta fa) (hb : SE X W b tb fb) (hm : behindInMarks op b = false) :
    SE X W (.Compare a [op] [b] pos) (tOp r ta tb) (fOp g fa fb) := ⟨pe_cmpR ho ha.pe hb.pe hm, sn_op hs ha hb⟩

/-! ### tests from values -/
def truth : PyData → Option Bool
  | .none => some false
  | .bool b => some b
  | .int i => some (i != 0)
  | .str x => if x.length ≤ sizeLine then some ((x.length : Int) != 0) else none
  | .list ds => some (!ds.isEmpty)
  | .tuple ds => some (!ds.isEmpty)
  | .dict _ => none
def outT (r : R) (ρ : Rho) : Out Bool := match deref ρ r with
  | some d => (match truth d with
    | some b => .ok b ρ
    | none => .bad)
  | none => .bad
def fT (f : EF) : TF := fun ρ => (f ρ).bind outT
/-- a comparison, or anything that yields a bool, as a test -/
def outB (r : R) (ρ : Rho) : Out Bool := match r with
  | .val (.bool b) => .ok b ρ
  | _ => .bad
def fB (f : EF) : TF := fun ρ => (f ρ).bind outB
theorem sn_tB {X : Cx} {W : WX} {e : Expr} {t : TE} {f : EF} (h : SE X W e t f) :
    ∀ (F : Fx) (S : AS) (H : Hp) (σ : St) (ρ : Rho) (Q : Bool → Hp → Prop), F.K = X.K → F.Ok → ER F S H σ ρ → PostT F W S H σ ρ (fB f ρ) Q → t σ H (fun x H1 => ∃ c, x = .bl c ∧ Q c H1) := by
  intro F S H σ ρ Q hK fok er hp
  refine h.go hK fok er (wT F W σ Q) hp fun r ρ1 v1 S1 H1 t1 er1 rr1 _ hp1 => ?_
  have hp1 : PostT F W S1 H1 σ ρ1 (outB r ρ1) Q := hp1
  match r, rr1, hp1 with
  | .val (.bool b), rr1, hp1 =>
    cases (show Rp F.K S1 H1 v1 (.bool b) from rr1)
    exact ⟨b, rfl, hp1 S1 H1 .refl er1⟩
  | .val .none, _, hp1 => exact hp1.elim
  | .val (.int _), _, hp1 => exact hp1.elim
  | .val (.str _), _, hp1 => exact hp1.elim
  | .val (.list _), _, hp1 => exact hp1.elim
  | .val (.tuple _), _, hp1 => exact hp1.elim
  | .val (.dict _), _, hp1 => exact hp1.elim
  | .own _, _, hp1 => exact hp1.elim
  | .slot _, _, hp1 => exact hp1.elim
theorem st_cmp {X : Cx} {W : WX} {a b : Expr} {ta tb : TE} {fa fb : EF} {op : CmpOp} {r : R2} {g : PyData → PyData → Option R} {pos : Pos} (ho : OpR X (compareOp op) r) (hs : OpG X.K r g) (ha : SE X W a ta fa) (hb : SE X W b tb fb) (hm : behindInMarks op b = false) :
    ST X W (.Compare a [op] [b] pos) (tTest (tOp r ta tb)) (fB (fOp g fa fb)) := ⟨pt_cmpR ho ha.pe hb.pe hm, sn_tB (se_cmp (pos := pos) ho hs ha hb hm)⟩
end Pv
set_option maxRecDepth 100000
/-! PvD: the operators. -/
namespace Pv
open PySem PySem.Spec L2

section
variable {K : PySem.W.Frag} {S : AS} {H : Hp} {v : V}
theorem RT.none (h : RT K S H v .none) : v = .non := by
  rcases h with h | ⟨a, m, _, e, _⟩
  · cases h; rfl
  · cases m <;> cases e
theorem RT.bool {b : Bool} (h : RT K S H v (.bool b)) : v = .bl b := by
  rcases h with h | ⟨a, m, _, e, _⟩
  · cases h; rfl
  · cases m <;> cases e
theorem RT.int {i : Int} (h : RT K S H v (.int i)) : v = .int i := by
  rcases h with h | ⟨a, m, _, e, _⟩
  · cases h; rfl
  · cases m <;> cases e
theorem RT.str {x : Str} (h : RT K S H v (.str x)) : v = .str x := by
  rcases h with h | ⟨a, m, _, e, _⟩
  · cases h; rfl
  · cases m <;> cases e
theorem RT.tuple {ds : List PyData} (h : RT K S H v (.tuple ds)) : ∃ a xs, v = .ref a ∧ ¬ S a ∧ H a = some (.tup xs) ∧ RpA K S H xs ds := by
  rcases h with h | ⟨a, m, _, e, _⟩
  · cases h with
    | tup n e hs => exact ⟨_, _, rfl, n, e, hs⟩
  · cases m <;> cases e
theorem RT.list {ds : List PyData} (h : RT K S H v (.list ds)) : ∃ a xs, v = .ref a ∧ SqL K H a xs ∧ RpA K S H xs ds := by
  rcases h with h | ⟨a, m, e1, e, h⟩
  · cases h with
    | lst e hs => exact ⟨_, _, rfl, e.seq, hs⟩
  · cases m with
    | lst ds' =>
      cases e
      obtain ⟨vs, e, h⟩ := h
      exact ⟨a, vs, e1, SqL.of e, h⟩
    | dT _ => cases e
    | dK _ => cases e
theorem RT.dict {ds : List (PyData × PyData)} (h : RT K S H v (.dict ds)) : ∃ a, v = .ref a ∧
    ((∃ kvs es, H a = some (.dT kvs) ∧ kvs.map (·.1) = es.map (·.1) ∧ RpA K S H (kvs.map (·.2)) (es.map (·.2)) ∧ ds = dTd es) ∨
     (∃ kvs es, H a = some (.dK kvs) ∧ kvs.map (·.1) = es.map (·.1) ∧ RpA K S H (kvs.map (·.2)) (es.map (·.2)) ∧ ds = dKd es)) := by
  rcases h with h | ⟨a, m, e1, e, h⟩
  · cases h with
    | dT n e k hs e2 => exact ⟨_, rfl, .inl ⟨_, _, e, k, hs, e2⟩⟩
    | dK n e k hs e2 => exact ⟨_, rfl, .inr ⟨_, _, e, k, hs, e2⟩⟩
  · cases m with
    | lst ds' => cases e
    | dT es =>
      cases e
      obtain ⟨kvs, e, k, h⟩ := h
      exact ⟨a, e1, .inl ⟨kvs, es, e, k, h, rfl⟩⟩
    | dK es =>
      cases e
      obtain ⟨kvs, e, k, h⟩ := h
      exact ⟨a, e1, .inr ⟨kvs, es, e, k, h, rfl⟩⟩
theorem RT.dp {d : PyData} (h : RT K S H v d) (hl : d.canLay0 = true) : Dp K H v d := by
  rcases h with h | ⟨a, m, e1, e, h⟩
  · exact h.dp hl
  · cases m with
    | lst ds =>
      subst e e1
      obtain ⟨vs, e, h⟩ := h
      exact .lst (SqL.of e) (h.dp hl)
    | dT _ => subst e; cases hl
    | dK _ => subst e; cases hl
end

/-! ### arithmetic -/
def gSub : PyData → PyData → Option R
  | .int i, .int j => some (.val (.int (i - j)))
  | _, _ => none
def small64 : Int → Bool
  | .ofNat n => decide (n < 18446744073709551616)
  | .negSucc n => decide (n < 18446744073709551615)
theorem small64_ok {i : Int} (h : small64 i = true) : -(2 ^ 64) < i ∧ i < 2 ^ 64 := by
  cases i with
  | ofNat n =>
    have h := of_decide_eq_true (show decide (n < 18446744073709551616) = true from h)
    constructor <;> simp <;> omega
  | negSucc n =>
    have h := of_decide_eq_true (show decide (n < 18446744073709551615) = true from h)
    constructor <;> omega
def gMul : PyData → PyData → Option R
  | .int i, .int j => if small64 i || small64 j then some (.val (.int (i * j))) else none
  | .tuple ds, .int k => if !ds.isEmpty && decide (2 ≤ k) && decide (k ≤ 1000) && decide (ds.length ≤ 1000) then some (.val (.tuple (List.replicate k.toNat ds).flatten)) else none
  | _, _ => none
def gFdiv : PyData → PyData → Option R
  | .int i, .int j => if j ≠ 0 ∧ j.natAbs < 1073741824 then some (.val (.int (i.fdiv j))) else none
  | _, _ => none
def gMod : PyData → PyData → Option R
  | .int i, .int j => if j ≠ 0 then some (.val (.int (i.fmod j))) else none
  | _, _ => none
def gPow : PyData → PyData → Option R
  | .int i, .int j => if 0 ≤ j ∧ j ≤ 1000000 ∧ i.natAbs < 2 ^ 64 then some (.val (.int (i ^ j.toNat))) else none
  | _, _ => none
def gShl : PyData → PyData → Option R
  | .int i, .int j => if 0 ≤ j ∧ j ≤ 1000000 ∧ i.natAbs < 2 ^ 64 then some (.val (.int (i * 2 ^ j.toNat))) else none
  | _, _ => none
def gAdd : PyData → PyData → Option R
  | .int i, .int j => some (.val (.int (i + j)))
  | .str x, .str y => if x.length + y.length ≤ 16777216 then some (.val (.str (x ++ y))) else none
  | .list xs, .list ys => if xs.length + ys.length ≤ 16777216 then some (.own (.lst (xs ++ ys))) else none
  | .tuple xs, .tuple ys => if xs.length + ys.length ≤ 16777216 then some (.val (.tuple (xs ++ ys))) else none
  | _, _ => none

section
variable {X : Cx} {K : PySem.W.Frag}
theorem og_int (r : R2) (g : PyData → PyData → Option R) (f : Int → Int → Option Int) (hg : ∀ dx dy res, g dx dy = some res → ∃ i j k, dx = .int i ∧ dy = .int j ∧ f i j = some k ∧ res = .val (.int k))
    (hr : ∀ (i j k : Int) (H : Hp) (Q : VK), f i j = some k → Q (.int k) H → r (.int i) (.int j) H Q) : OpG K r g := by
  intro S H x y dx dy res Q dom hx hy e q
  obtain ⟨i, j, k, rfl, rfl, e1, rfl⟩ := hg dx dy res e
  cases hx.int
  cases hy.int
  exact hr i j k H Q e1 (q _ S H (.val (.int k)))
theorem og_sub : OpG K (rI0 fun i j => .int (i - j)) gSub := og_int _ _ (fun i j => some (i - j)) (fun dx dy res e => by
  unfold gSub at e
  split at e
  · cases e; exact ⟨_, _, _, rfl, rfl, rfl, rfl⟩
  · cases e) fun i j k H Q e q => by cases e; exact ⟨i, j, rfl, rfl, q⟩
theorem og_fdiv : OpG K (rI CDivN fun i j => .int (i.fdiv j)) gFdiv := og_int _ _ (fun i j => if j ≠ 0 ∧ j.natAbs < 1073741824 then some (i.fdiv j) else none) (fun dx dy res e => by
  unfold gFdiv at e
  split at e
  · split at e
    · rename_i h; cases e; exact ⟨_, _, _, rfl, rfl, by rw [if_pos h], rfl⟩
    · cases e
  · cases e) fun i j k H Q e q => by
    split at e
    · rename_i h; cases e; exact ⟨i, j, rfl, rfl, h, q⟩
    · cases e
theorem og_mod : OpG K (rI (fun _ j => j ≠ 0) fun i j => .int (i.fmod j)) gMod := og_int _ _ (fun i j => if j ≠ 0 then some (i.fmod j) else none) (fun dx dy res e => by
  unfold gMod at e
  split at e
  · split at e
    · rename_i h; cases e; exact ⟨_, _, _, rfl, rfl, by rw [if_pos h], rfl⟩
    · cases e
  · cases e) fun i j k H Q e q => by
    split at e
    · rename_i h; cases e; exact ⟨i, j, rfl, rfl, h, q⟩
    · cases e
theorem og_pow : OpG K (rI CPow fun i j => .int (i ^ j.toNat)) gPow := og_int _ _ (fun i j => if 0 ≤ j ∧ j ≤ 1000000 ∧ i.natAbs < 2 ^ 64 then some (i ^ j.toNat) else none) (fun dx dy res e => by
  unfold gPow at e
  split at e
  · split at e
    · rename_i h; cases e; exact ⟨_, _, _, rfl, rfl, by rw [if_pos h], rfl⟩
    · cases e
  · cases e) fun i j k H Q e q => by
    split at e
    · rename_i h; cases e; exact ⟨i, j, rfl, rfl, h, q⟩
    · cases e
theorem og_shl : OpG K (rI CPow fun i j => .int (i * 2 ^ j.toNat)) gShl := og_int _ _ (fun i j => if 0 ≤ j ∧ j ≤ 1000000 ∧ i.natAbs < 2 ^ 64 then some (i * 2 ^ j.toNat) else none) (fun dx dy res e => by
  unfold gShl at e
  split at e
  · split at e
    · rename_i h; cases e; exact ⟨_, _, _, rfl, rfl, by rw [if_pos h], rfl⟩
    · cases e
  · cases e) fun i j k H Q e q => by
    split at e
    · rename_i h; cases e; exact ⟨i, j, rfl, rfl, h, q⟩
    · cases e
theorem rp_rep {S : AS} {H : Hp} {xs : List V} {ds : List PyData} (h : RpA K S H xs ds) : ∀ n : Nat, RpA K S H (List.replicate n xs).flatten (List.replicate n ds).flatten
  | 0 => .nil
  | n + 1 => by
    rw [List.replicate_succ, List.replicate_succ, List.flatten_cons, List.flatten_cons]
    exact h.append (rp_rep h n)
def rMulA (K : PySem.W.Frag) : R2 := fun x y H Q => rI CMul (fun i j => .int (i * j)) x y H Q ∨ rRepT K x y H Q
theorem op_mulA : OpR X (binaryOp .Mult) (rMulA X.K) := by
  intro pins s σ H x y v u Q I rx ry h
  rcases h with h | h
  · exact op_mul pins s σ H x y v u Q I rx ry h
  · exact op_repT pins s σ H x y v u Q I rx ry h
theorem og_mul : OpG K (rMulA K) gMul := by
  intro S H x y dx dy res Q dom hx hy e q
  unfold gMul at e
  split at e
  · rename_i i j
    split at e
    · rename_i h
      cases e
      cases hx.int
      cases hy.int
      refine .inl ⟨i, j, rfl, rfl, ?_, q _ S H (.val (.int _))⟩
      rw [Bool.or_eq_true] at h
      rcases h with h | h
      · exact .inl (small64_ok h)
      · exact .inr (small64_ok h)
    · cases e
  · rename_i ds k
    split at e
    · rename_i h
      cases e
      cases hy.int
      obtain ⟨a, xs, rfl, n, ha, hs⟩ := hx.tuple
      simp only [Bool.and_eq_true, decide_eq_true_eq] at h
      obtain ⟨⟨⟨h1, h2⟩, h3⟩, h4⟩ := h
      have hl := hs.length
      refine .inr ⟨a, k, xs, rfl, rfl, SqT.of ha, fun z => ?_, h2, h3, by rw [hl]; exact h4, fun p hp => q _ S _ (.tup dom hp (rp_rep hs _))⟩
      subst z
      cases hs
      cases h1
    · cases e
  · cases e
def rCatS (K : PySem.W.Frag) : R2 := fun x y H Q => ∃ l b xs zs, x = .ref l ∧ y = .ref b ∧ SqL K H l xs ∧ SqL K H b zs ∧ xs.length + zs.length ≤ sizeLine ∧ ∀ p, H p = none → Q (.ref p) (upd H p (.lst (xs ++ zs)))
theorem op_catS : OpR X (binaryOp .Add) (rCatS X.K) := by
  intro pins s σ H x y v u Q I rx ry h
  obtain ⟨l, b, xs, zs, rfl, rfl, hH, hB, hz, q⟩ := h
  cases rx
  cases ry
  obtain ⟨its, r, pl, z⟩ := I.list hH
  obtain ⟨its2, r2, pl2, z2⟩ := I.list hB
  obtain ⟨⟨cls, dd, data, sl⟩, n, ho, hc, hdn, hd⟩ := pl
  obtain ⟨⟨cls2, dd2, data2, sl2⟩, n2, ho2, hc2, hdn2, hd2⟩ := pl2
  simp only at hc hd hc2 hd2
  subst hc hd hc2 hd2
  have l1 := r.length
  have l2 := r2.length
  have e : its.toArray ++ its2.toArray = (its ++ its2).toArray := by simp
  refine concat_meets ⟨_, ho, rfl⟩ ⟨_, ho2, rfl⟩ PySem.noFill_list_add PySem.seq_list_add PySem.F.slot_list_add PySem.F.entry_list_add (PySem.F.args_list_add_2 _ _) (PyProof.Rows.list_addW l b its.toArray its2.toArray n n2 dd dd2 sl sl2 (by simp only [List.size_toArray]; omega)) ⟨ho, ho2, ?_⟩
  rw [e]
  exact ⟨.ref _, _, I.lnew (t' := s.toks) (r.append r2) (by rw [List.length_append]; omega), rfl, q _ I.fresh⟩
def rAddA (K : PySem.W.Frag) : R2 := fun x y H Q => rI0 (fun i j => .int (i + j)) x y H Q ∨ (∃ i j, x = .str i ∧ y = .str j ∧ i.length + j.length ≤ sizeLine ∧ Q (.str (i ++ j)) H) ∨ rCatS K x y H Q ∨ rCatA K x y H Q
theorem op_addA : OpR X (binaryOp .Add) (rAddA X.K) := by
  intro pins s σ H x y v u Q I rx ry h
  rcases h with h | h | h | h
  · exact op_add pins s σ H x y v u Q I rx ry h
  · exact op_add_str pins s σ H x y v u Q I rx ry h
  · exact op_catS pins s σ H x y v u Q I rx ry h
  · exact op_catA pins s σ H x y v u Q I rx ry h
theorem og_add : OpG K (rAddA K) gAdd := by
  intro S H x y dx dy res Q dom hx hy e q
  unfold gAdd at e
  split at e
  · rename_i i j
    cases e
    cases hx.int
    cases hy.int
    exact .inl ⟨i, j, rfl, rfl, q _ S H (.val (.int _))⟩
  · rename_i i j
    split at e
    · rename_i h
      cases e
      cases hx.str
      cases hy.str
      exact .inr (.inl ⟨i, j, rfl, rfl, by rw [sizeLine_eq]; exact h, q _ S H (.val (.str _))⟩)
    · cases e
  · rename_i xs ys
    split at e
    · rename_i h
      cases e
      obtain ⟨a, vs, rfl, ha, hs⟩ := hx.list
      obtain ⟨b, ws, rfl, hb, ht⟩ := hy.list
      have l1 := hs.length
      have l2 := ht.length
      exact .inr (.inr (.inl ⟨a, b, vs, ws, rfl, rfl, ha, hb, by rw [sizeLine_eq]; omega, fun p hp => q _ _ _ (.lst hp (hs.append ht))⟩))
    · cases e
  · rename_i xs ys
    split at e
    · rename_i h
      cases e
      obtain ⟨a, vs, rfl, na, ha, hs⟩ := hx.tuple
      obtain ⟨b, ws, rfl, nb, hb, ht⟩ := hy.tuple
      have l1 := hs.length
      have l2 := ht.length
      refine .inr (.inr (.inr ⟨a, b, vs, ws, rfl, rfl, SqT.of ha, SqT.of hb, by rw [sizeLine_eq]; omega, fun z => ?_, fun _ z => ?_, fun _ _ p hp => q _ S _ (.tup dom hp (hs.append ht))⟩))
      · subst z
        cases hs
        exact q _ S H (.val (.tup nb hb ht))
      · subst z
        cases ht
        rw [List.append_nil] at q
        exact q _ S H (.val (.tup na ha hs))
    · cases e
  · cases e

/-! ### comparisons -/
def eqD? (dx dy : PyData) : Option Bool := if SeqAt.shaped dx && SeqAt.shaped dy then some (PyData.eqv dx dy) else none
def gEq (dx dy : PyData) : Option R := (eqD? dx dy).map fun b => .val (.bool b)
def gNe (dx dy : PyData) : Option R := (eqD? dx dy).map fun b => .val (.bool (!b))
theorem canLay_shaped {d : PyData} (h : SeqAt.shaped d = true) : d.canLay0 = true := SeqAt.canLay_of_shaped h
theorem og_eq : OpG K (rEqD K) gEq := by
  intro S H x y dx dy res Q dom hx hy e q
  unfold gEq eqD? at e
  split at e
  · rename_i h
    cases e
    rw [Bool.and_eq_true] at h
    exact ⟨dx, dy, hx.dp (canLay_shaped h.1), hy.dp (canLay_shaped h.2), h.1, h.2, q _ S H (.val (.bl _))⟩
  · cases e
theorem og_ne : OpG K (rNeD K) gNe := by
  intro S H x y dx dy res Q dom hx hy e q
  unfold gNe eqD? at e
  split at e
  · rename_i h
    cases e
    rw [Bool.and_eq_true] at h
    exact ⟨dx, dy, hx.dp (canLay_shaped h.1), hy.dp (canLay_shaped h.2), h.1, h.2, q _ S H (.val (.bl _))⟩
  · cases e
def gCmp (p : Int → Int → Bool) : PyData → PyData → Option R
  | .int i, .int j => some (.val (.bool (p i j)))
  | _, _ => none
abbrev gLt := gCmp fun i j => decide (i < j)
abbrev gLe := gCmp fun i j => decide (i ≤ j)
abbrev gGt := gCmp fun i j => decide (j < i)
abbrev gGe := gCmp fun i j => decide (j ≤ i)
theorem og_cmp (p : Int → Int → Bool) : OpG K (rI0 fun i j => .bl (p i j)) (gCmp p) := by
  intro S H x y dx dy res Q dom hx hy e q
  unfold gCmp at e
  split at e
  · rename_i i j
    cases e
    cases hx.int
    cases hy.int
    exact ⟨i, j, rfl, rfl, q _ S H (.val (.bl _))⟩
  · cases e
def isNoneD : PyData → Bool
  | .none => true
  | _ => false
def gIs : PyData → PyData → Option R
  | d, .none => some (.val (.bool (isNoneD d)))
  | .bool a, .bool b => some (.val (.bool (decide (a = b))))
  | _, _ => none
def gIsNot (dx dy : PyData) : Option R := match gIs dx dy with
  | some (.val (.bool b)) => some (.val (.bool (!b)))
  | _ => none
theorem RT.isNone {S : AS} {H : Hp} {v : V} {d : PyData} (h : RT K S H v d) : decide (v = .non) = isNoneD d := by
  cases d with
  | none => cases h.none; rfl
  | bool b => cases h.bool; rfl
  | int b => cases h.int; rfl
  | str b => cases h.str; rfl
  | list ds => obtain ⟨a, xs, rfl, _⟩ := h.list; rfl
  | tuple ds => obtain ⟨a, xs, rfl, _⟩ := h.tuple; rfl
  | dict ds => obtain ⟨a, rfl, _⟩ := h.dict; rfl
def rIsA : R2 := fun x y H Q => (y = .non ∧ Q (.bl (decide (x = .non))) H) ∨ rIsB x y H Q
def rIsNotA : R2 := fun x y H Q => (y = .non ∧ Q (.bl (!decide (x = .non))) H) ∨ rNotB x y H Q
theorem op_isA : OpR X (compareOp .Is) rIsA := by
  intro pins s σ H x y v u Q I rx ry h
  rcases h with h | h
  · exact op_isN pins s σ H x y v u Q I rx ry h
  · exact op_isBl pins s σ H x y v u Q I rx ry h
theorem op_isNotA : OpR X (compareOp .IsNot) rIsNotA := by
  intro pins s σ H x y v u Q I rx ry h
  rcases h with h | h
  · exact op_notN pins s σ H x y v u Q I rx ry h
  · exact op_notBl pins s σ H x y v u Q I rx ry h
theorem og_is : OpG K rIsA gIs := by
  intro S H x y dx dy res Q dom hx hy e q
  unfold gIs at e
  split at e
  · cases e
    cases hy.none
    refine .inl ⟨rfl, ?_⟩
    rw [hx.isNone]
    exact q _ S H (.val (.bl _))
  · rename_i a b
    cases e
    cases hx.bool
    cases hy.bool
    exact .inr ⟨a, b, rfl, rfl, q _ S H (.val (.bl _))⟩
  · cases e
theorem og_isNot : OpG K rIsNotA gIsNot := by
  intro S H x y dx dy res Q dom hx hy e q
  unfold gIsNot at e
  split at e
  · rename_i b h
    cases e
    unfold gIs at h
    split at h
    · cases h
      cases hy.none
      refine .inl ⟨rfl, ?_⟩
      rw [hx.isNone]
      exact q _ S H (.val (.bl _))
    · rename_i a b
      cases h
      cases hx.bool
      cases hy.bool
      exact .inr ⟨a, b, rfl, rfl, q _ S H (.val (.bl _))⟩
    · cases h
  · cases e

/-! ### in -/
def keyOf : PyData → Option Key
  | .int i => some (.inl i)
  | .str x => some (.inr x)
  | _ => none
def keysOf : List PyData → Option (List Key)
  | [] => some []
  | d :: ds => match keyOf d, keysOf ds with
    | some k, some ks => some (k :: ks)
    | _, _ => none
def dlook (ds : List (PyData × PyData)) (k : PyData) : Option PyData := (ds.find? fun p => PyData.eqv p.1 k).map (·.2)
theorem keyOf_kD {d : PyData} {k : Key} (h : keyOf d = some k) : d = kD k := by
  cases d <;> cases h <;> rfl
theorem keysOf_kD : ∀ {ds : List PyData} {ks : List Key}, keysOf ds = some ks → ds = ks.map kD
  | [], _, h => by cases h; rfl
  | d :: ds, ks, h => by
    unfold keysOf at h
    cases q : keyOf d with
    | none => simp [q] at h
    | some k =>
      cases q2 : keysOf ds with
      | none => simp [q, q2] at h
      | some ks' =>
        simp only [q, q2, Option.some.injEq] at h
        subst h
        rw [keyOf_kD q, keysOf_kD q2] <;> rfl
theorem eqv_kD (a b : Key) : PyData.eqv (kD a) (kD b) = decide (a = b) := by
  cases a with
  | inl i =>
    cases b with
    | inl j =>
      simp only [kD, PyData.eqv, Sum.inl.injEq]
      by_cases h : i = j <;> simp [h]
    | inr y => simp [kD, PyData.eqv]
  | inr x =>
    cases b with
    | inl j => simp [kD, PyData.eqv]
    | inr y =>
      simp only [kD, PyData.eqv, Sum.inr.injEq]
      by_cases h : x = y <;> simp [h]
theorem eqv_kDs : ∀ (a b : List Key), PyData.eqvAll (a.map kD) (b.map kD) = decide (a = b)
  | [], [] => by simp [PyData.eqvAll]
  | [], _ :: _ => by simp [PyData.eqvAll]
  | _ :: _, [] => by simp [PyData.eqvAll]
  | x :: a, y :: b => by
    simp only [List.map_cons, PyData.eqvAll, eqv_kD, eqv_kDs a b, List.cons.injEq]
    by_cases h1 : x = y <;> by_cases h2 : a = b <;> simp [h1, h2]
theorem eqv_kT (a b : List Key) : PyData.eqv (.tuple (a.map kD)) (.tuple (b.map kD)) = decide (a = b) := by
  rw [PyData.eqv]
  exact eqv_kDs a b
def RO (K : PySem.W.Frag) (S : AS) (H : Hp) : Option V → Option PyData → Prop
  | some v, some d => Rp K S H v d
  | none, none => True
  | _, _ => False
theorem kv_look {κ : Type} [DecidableEq κ] (c : κ → PyData) (hc : ∀ a b, PyData.eqv (c a) (c b) = decide (a = b)) {K : PySem.W.Frag} {S : AS} {H : Hp} (k : κ) :
    ∀ {kvs : List (κ × V)} {es : List (κ × PyData)}, kvs.map (·.1) = es.map (·.1) → RpA K S H (kvs.map (·.2)) (es.map (·.2)) →
      RO K S H (valV kvs k) (dlook (es.map fun p => (c p.1, p.2)) (c k))
  | [], [], _, _ => trivial
  | [], _ :: _, e, _ => by simp at e
  | _ :: _, [], e, _ => by simp at e
  | (a, v) :: kvs, (b, d) :: es, e, h => by
    simp only [List.map_cons, List.cons.injEq] at e
    obtain ⟨e1, e2⟩ := e
    subst e1
    cases h with
    | cons h1 h2 =>
      by_cases q : a = k
      · rw [valV_pos q]
        subst q
        simp [dlook, hc]
        exact h1
      · rw [valV_neg (by exact q)]
        have := kv_look c hc k e2 h2
        simpa [dlook, hc, q] using this
theorem rp_kD {K : PySem.W.Frag} {S : AS} {H : Hp} {v : V} {k : Key} (h : Rp K S H v (kD k)) : v = kV k := by
  cases k with
  | inl i => cases h; rfl
  | inr s => cases h; rfl
theorem rp_kDs {K : PySem.W.Frag} {S : AS} {H : Hp} : ∀ {ks : List Key} {vs : List V}, RpA K S H vs (ks.map kD) → vs = ks.map kV
  | [], _, h => by cases h; rfl
  | k :: ks, _, h => by
    cases h with
    | cons h1 h2 => rw [rp_kD h1, rp_kDs h2] <;> rfl
theorem RT.key {K : PySem.W.Frag} {S : AS} {H : Hp} {y : V} {dk : PyData} {k : Key} (hy : RT K S H y dk) (e : keyOf dk = some k) : dk = kD k ∧ y = kV k := by
  have e' := keyOf_kD e
  subst e'
  refine ⟨rfl, ?_⟩
  cases k with
  | inl i => exact hy.int
  | inr s => exact hy.str
theorem RT.keyT {K : PySem.W.Frag} {S : AS} {H : Hp} {y : V} {xs : List PyData} {ks : List Key} (hy : RT K S H y (.tuple xs)) (e : keysOf xs = some ks) : xs = ks.map kD ∧ ∃ b, y = .ref b ∧ H b = some (.tup (ks.map kV)) := by
  have e' := keysOf_kD e
  subst e'
  obtain ⟨b, vs, rfl, nb, hb, hs⟩ := hy.tuple
  rw [rp_kDs hs] at hb
  exact ⟨rfl, b, rfl, hb⟩
/-- what a dict holds at a key; nothing where the key is of another kind -/
def dget? (ds : List (PyData × PyData)) (k : PyData) : Option (Option PyData) := match ds, k with
  | (.none, .bool true) :: es, .tuple xs => if (keysOf xs).isSome then some (dlook es (.tuple xs)) else none
  | (.none, .bool false) :: es, .int i => some (dlook es (.int i))
  | (.none, .bool false) :: es, .str x => some (dlook es (.str x))
  | _, _ => none
theorem RT.look {K : PySem.W.Frag} {S : AS} {H : Hp} {x y : V} {ds : List (PyData × PyData)} {dk : PyData} {o : Option PyData} (hx : RT K S H x (.dict ds)) (hy : RT K S H y dk) (e : dget? ds dk = some o) : ∃ a ov, x = .ref a ∧ DGet H a y ov ∧ RO K S H ov o := by
  obtain ⟨a, rfl, h⟩ := hx.dict
  rcases h with ⟨kvs, es, eh, ek, hs, rfl⟩ | ⟨kvs, es, eh, ek, hs, rfl⟩
  · cases dk with
    | tuple xs =>
      simp only [dTd, dget?] at e
      split at e
      · rename_i q
        cases e
        obtain ⟨ks, q⟩ := Option.isSome_iff_exists.mp q
        obtain ⟨rfl, b, rfl, hb⟩ := hy.keyT q
        exact ⟨a, _, rfl, .t eh hb, kv_look (fun ks : List Key => PyData.tuple (ks.map kD)) eqv_kT ks ek hs⟩
      · cases e
    | _ => simp [dTd, dget?] at e
  · cases dk with
    | int i =>
      simp only [dKd, dget?, Option.some.injEq] at e
      subst e
      cases hy.int
      exact ⟨a, _, rfl, .k (k := Sum.inl i) eh, kv_look kD eqv_kD (Sum.inl i) ek hs⟩
    | str i =>
      simp only [dKd, dget?, Option.some.injEq] at e
      subst e
      cases hy.str
      exact ⟨a, _, rfl, .k (k := Sum.inr i) eh, kv_look kD eqv_kD (Sum.inr i) ek hs⟩
    | _ => simp [dKd, dget?] at e
theorem RO.isSome {K : PySem.W.Frag} {S : AS} {H : Hp} : ∀ {ov : Option V} {o : Option PyData}, RO K S H ov o → ov.isSome = o.isSome
  | some _, some _, _ => rfl
  | none, none, _ => rfl
  | some _, none, h => h.elim
  | none, some _, h => h.elim

/-- one sign (or a text) in a text -/
def inStr (x y : Str) : Bool := !(Builtin.Str.occurrences y x 0 y.length 1).isEmpty
def in? (dx dy : PyData) : Option Bool := match dy with
  | .list ds => if SeqAt.shaped dx && SeqAt.shaped (.list ds) then some (ds.any fun z => PyData.eqv z dx) else none
  | .tuple ds => if SeqAt.shaped dx && SeqAt.shaped (.tuple ds) then some (ds.any fun z => PyData.eqv z dx) else none
  | .dict ds => (dget? ds dx).map (·.isSome)
  | .str y => (match dx with
    | .str x => some (inStr x y)
    | _ => none)
  | _ => none
def gIn (dx dy : PyData) : Option R := (in? dx dy).map fun b => .val (.bool b)
def gNotIn (dx dy : PyData) : Option R := (in? dx dy).map fun b => .val (.bool (!b))
/-- n: whether it is «not in» -/
def rInA (K : PySem.W.Frag) (n : Bool) : R2 := fun x y H Q =>
  (∃ d ds, Dp K H x d ∧ Dp K H y (.list ds) ∧ SeqAt.shaped d = true ∧ SeqAt.shaped (.list ds) = true ∧ Q (.bl (n != ds.any fun z => PyData.eqv z d)) H) ∨
  (∃ d ds, Dp K H x d ∧ Dp K H y (.tuple ds) ∧ SeqAt.shaped d = true ∧ SeqAt.shaped (.tuple ds) = true ∧ Q (.bl (n != ds.any fun z => PyData.eqv z d)) H) ∨
  (∃ a o, y = .ref a ∧ DGet H a x o ∧ Q (.bl (n != o.isSome)) H) ∨
  (∃ i j, x = .str i ∧ y = .str j ∧ Q (.bl (n != inStr i j)) H)
theorem op_inA (hu : X.A.units + 65 < cLine) : OpR X (compareOp .In) (rInA X.K false) := by
  intro pins s σ H x y v u Q I rx ry h
  rcases h with h | ⟨d, ds, hd, he, sd, se, q⟩ | ⟨a, o, rfl, hg, q⟩ | ⟨i, j, rfl, rfl, q⟩
  · obtain ⟨d, ds, hd, he, sd, se, q⟩ := h
    exact op_inD hu pins s σ H x y v u Q I rx ry ⟨d, ds, hd, he, sd, se, by simpa using q⟩
  · obtain ⟨as, r1⟩ := Dp.reads I d x v hd rx
    obtain ⟨bs, r2⟩ := Dp.reads I (.tuple ds) y u he ry
    exact SeqAt.in_tuple_reads r2 r1 (SeqAt.canLay_of_shaped se) (SeqAt.canLay_of_shaped sd) (PyProof.Rows.room_in_shaped sd hu) ⟨.bl _, H, I, rfl, by simpa using q⟩
  · cases (show u = Value.ref a from ry)
    exact d_in (by omega) I hg rx fun s' I' => ⟨.bl _, H, I', rfl, by simpa using q⟩
  · exact op_in_str pins s σ H _ _ v u Q I rx ry ⟨i, j, rfl, rfl, by simpa [inStr] using q⟩
theorem op_notInA (hu : X.A.units + 65 < cLine) : OpR X (compareOp .NotIn) (rInA X.K true) := by
  intro pins s σ H x y v u Q I rx ry h
  rcases h with h | ⟨d, ds, hd, he, sd, se, q⟩ | ⟨a, o, rfl, hg, q⟩ | ⟨i, j, rfl, rfl, q⟩
  · obtain ⟨d, ds, hd, he, sd, se, q⟩ := h
    exact op_notInD hu pins s σ H x y v u Q I rx ry ⟨d, ds, hd, he, sd, se, by simpa using q⟩
  · obtain ⟨as, r1⟩ := Dp.reads I d x v hd rx
    obtain ⟨bs, r2⟩ := Dp.reads I (.tuple ds) y u he ry
    exact SeqAt.notIn_tuple_reads r2 r1 (SeqAt.canLay_of_shaped se) (SeqAt.canLay_of_shaped sd) (PyProof.Rows.room_in_shaped sd hu) ⟨.bl _, H, I, rfl, by simpa using q⟩
  · cases (show u = Value.ref a from ry)
    exact d_notIn (by omega) I hg rx fun s' I' => ⟨.bl _, H, I', rfl, by simpa using q⟩
  · exact op_notIn_str pins s σ H _ _ v u Q I rx ry ⟨i, j, rfl, rfl, by simpa [inStr] using q⟩
theorem og_inA (n : Bool) : OpG K (rInA K n) (fun dx dy => (in? dx dy).map fun b => .val (.bool (n != b))) := by
  intro S H x y dx dy res Q dom hx hy e q
  cases ei : in? dx dy with
  | none => simp [ei] at e
  | some b =>
    simp only [ei, Option.map_some, Option.some.injEq] at e
    subst e
    have q' : Q (.bl (n != b)) H := q _ S H (.val (.bl _))
    cases dy with
    | list ds =>
      simp only [in?] at ei
      split at ei
      · rename_i h
        cases ei
        rw [Bool.and_eq_true] at h
        exact .inl ⟨dx, ds, hx.dp (canLay_shaped h.1), hy.dp (canLay_shaped h.2), h.1, h.2, q'⟩
      · cases ei
    | tuple ds =>
      simp only [in?] at ei
      split at ei
      · rename_i h
        cases ei
        rw [Bool.and_eq_true] at h
        exact .inr (.inl ⟨dx, ds, hx.dp (canLay_shaped h.1), hy.dp (canLay_shaped h.2), h.1, h.2, q'⟩)
      · cases ei
    | dict ds =>
      simp only [in?] at ei
      cases eo : dget? ds dx with
      | none => simp [eo] at ei
      | some o =>
        simp only [eo, Option.map_some, Option.some.injEq] at ei
        subst ei
        obtain ⟨a, ov, rfl, hg, ro⟩ := hy.look hx eo
        exact .inr (.inr (.inl ⟨a, ov, rfl, hg, by rw [ro.isSome]; exact q'⟩))
    | str j =>
      simp only [in?] at ei
      split at ei
      · rename_i i
        cases ei
        cases hx.str
        cases hy.str
        exact .inr (.inr (.inr ⟨i, j, rfl, rfl, q'⟩))
      · cases ei
    | _ => simp [in?] at ei
theorem og_in : OpG K (rInA K false) gIn := by
  have h := og_inA (K := K) false
  have e : (fun dx dy => (in? dx dy).map fun b => R.val (.bool (false != b))) = gIn := by
    funext dx dy
    unfold gIn
    congr 1
    funext b
    cases b <;> rfl
  rw [e] at h
  exact h
theorem og_notIn : OpG K (rInA K true) gNotIn := by
  have h := og_inA (K := K) true
  have e : (fun dx dy => (in? dx dy).map fun b => R.val (.bool (true != b))) = gNotIn := by
    funext dx dy
    unfold gNotIn
    congr 1
    funext b
    cases b <;> rfl
  rw [e] at h
  exact h
end
end Pv
set_option maxRecDepth 100000
/-! PvE: expressions. -/
namespace Pv
open PySem PySem.Spec L2

section
variable {X : Cx} {W : WX} {e a b c : Expr} {ta tb tc te : TE} {fa fb fc f : EF} {tA tB' : TT} {gA gB : TF} {pos : Pos} {rest : List Expr}

/-! ### names, constants -/
def fVar (i : Nat) : EF := fun ρ => match ρ[i]? with
  | some (.val d) => .ok (.val d) ρ
  | some (.own _) => .ok (.slot i) ρ
  | some (.lent _) => .ok (.slot i) ρ
  | _ => .bad
theorem se_var (i : Nat) {x : Str} {pos : Pos} (hN : X.N[i]? = some x := by rfl) (hv : Vis X.env.scope x := by first | exact Or.inl rfl | exact Or.inr (Or.inl rfl) | exact Or.inr (Or.inr rfl)) (hd : (x == ("__debug__" : Str)) = false := by decide)
    (hcd : (x == ("__classdict__" : Str)) = false := by decide) : SE X W (.Name x pos) (tVar i) (fVar i) := by
  refine ⟨pe_var hN hv hd hcd, fun F S H σ ρ Q hK fok er hp => ?_⟩
  unfold fVar at hp
  cases q : ρ[i]? with
  | none => simp only [q] at hp; exact hp.elim
  | some s =>
    have z := er.at_ i s q
    have hi : i < ρ.length := (List.getElem?_eq_some_iff.mp q).1
    cases s with
    | no => simp only [q] at hp; exact hp.elim
    | val d =>
      simp only [q] at hp
      obtain ⟨x, e, h⟩ := z
      exact ⟨x, e, hp x S H .refl er h trivial⟩
    | own m =>
      simp only [q] at hp
      obtain ⟨a, e, _⟩ := z
      exact ⟨_, e, hp _ S H .refl er ⟨e, hi⟩ trivial⟩
    | lent m =>
      simp only [q] at hp
      obtain ⟨a, e, _⟩ := z
      exact ⟨_, e, hp _ S H .refl er ⟨e, hi⟩ trivial⟩
def fC (d : PyData) : EF := fun ρ => .ok (.val d) ρ
theorem sn_C {v : V} {d : PyData} (h : ∀ K S H, Rp K S H v d) : ∀ (F : Fx) (S : AS) (H : Hp) (σ : St) (ρ : Rho) (Q : VK), F.K = X.K → F.Ok → ER F S H σ ρ → PostE F W S H σ ρ (fC d ρ) Q → tC v σ H Q :=
  fun F S H σ ρ Q _ _ er hp => hp v S H .refl er (h _ _ _) trivial
theorem se_int {i : Int} {j : Nat} : SE X W (.Constant (.int i) j pos) (tC (.int i)) (fC (.int i)) := ⟨pe_int, sn_C fun _ _ _ => .int i⟩
theorem se_bl {b : Bool} {j : Nat} : SE X W (.Constant (.bool b) j pos) (tC (.bl b)) (fC (.bool b)) := ⟨pe_bl, sn_C fun _ _ _ => .bl b⟩
theorem se_non {j : Nat} : SE X W (.Constant .none j pos) (tC .non) (fC .none) := ⟨pe_non, sn_C fun _ _ _ => .non⟩
theorem se_str {x : Str} {j : Nat} : SE X W (.Constant (.str x) j pos) (tC (.str x)) (fC (.str x)) := ⟨pe_str, sn_C fun _ _ _ => .str x⟩
/-- a module's constant -/
theorem se_globI {x : Str} {i : Int} {t : Tok} (hg : Gl X x) (hm : X.mg x = some (.int i t)) (hd : (x == ("__debug__" : Str)) = false := by decide) : SE X W (.Name x pos) (tC (.int i)) (fC (.int i)) := ⟨pe_glob hg hm ⟨t, rfl⟩ hd, sn_C fun _ _ _ => .int i⟩
theorem se_globS {x y : Str} {t : Tok} (hg : Gl X x) (hm : X.mg x = some (.str y t)) (hd : (x == ("__debug__" : Str)) = false := by decide) : SE X W (.Name x pos) (tC (.str y)) (fC (.str y)) := ⟨pe_glob hg hm ⟨t, rfl⟩ hd, sn_C fun _ _ _ => .str y⟩

/-! ### tests -/
theorem st_truth (ha : SE X W a ta fa) (he : ∀ whole, isTrue a X.env whole = (do let v ← whole; standAt a.pos; holding [v] (truthy v)) := by intro _; rfl) :
    ST X W a (fun σ H Q => ta σ H fun x H1 => ∃ k, TruV X.K x H1 k ∧ Q k H1) (fT fa) := by
  refine ⟨pt_truth ha.pe he, fun F S H σ ρ Q hK fok er hp => ?_⟩
  refine ha.go hK fok er (wT F W σ Q) hp fun r ρ1 v1 S1 H1 t1 er1 rr1 _ hp1 => ?_
  have hp1 : PostT F W S1 H1 σ ρ1 (outT r ρ1) Q := hp1
  unfold outT at hp1
  cases qa : deref ρ1 r with
  | none => simp only [qa] at hp1; exact hp1.elim
  | some d =>
    simp only [qa] at hp1
    have rt := rr1.rt er1 qa
    cases qb : truth d with
    | none => simp only [qb] at hp1; exact hp1.elim
    | some k =>
      simp only [qb] at hp1
      refine ⟨k, ?_, hp1 S1 H1 .refl er1⟩
      rw [hK] at rt
      cases d with
      | none => cases rt.none; cases qb; rfl
      | bool b => cases rt.bool; cases qb; rfl
      | int i => cases rt.int; cases qb; rfl
      | str x =>
        cases rt.str
        simp only [truth] at qb
        by_cases h : x.length ≤ sizeLine
        · rw [if_pos h] at qb
          cases qb
          exact ⟨h, rfl⟩
        · rw [if_neg h] at qb
          cases qb
      | list ds =>
        obtain ⟨a, xs, rfl, hs, hr⟩ := rt.list
        cases qb
        refine .inl ⟨xs, hs, ?_⟩
        cases hr <;> rfl
      | tuple ds =>
        obtain ⟨a, xs, rfl, _, hs, hr⟩ := rt.tuple
        cases qb
        refine .inr (.inl ⟨xs, SqT.of hs, ?_⟩)
        cases hr <;> rfl
      | dict ds => cases qb
def fNot (g : TF) : TF := fun ρ => (g ρ).bind fun b ρ1 => .ok (!b) ρ1
theorem st_not (ha : ST X W a tA gA) : ST X W (.UnaryOp .Not a pos) (tNot tA) (fNot gA) := by
  refine ⟨pt_not ha.pt, fun F S H σ ρ Q hK fok er hp => ?_⟩
  exact ha.go hK fok er (wT F W σ Q) hp fun b ρ1 S1 H1 t1 er1 hp1 => hp1 S1 H1 .refl er1
def fAnd (ga gb : TF) : TF := fun ρ => (ga ρ).bind fun b ρ1 => if b = true then gb ρ1 else .ok false ρ1
def fOr (ga gb : TF) : TF := fun ρ => (ga ρ).bind fun b ρ1 => if b = true then .ok true ρ1 else gb ρ1
theorem sw_and1 (ha : ST X W a tA gA) : SW X W (.BoolOp .And [a] pos) tA gA := ⟨pw_and1 ha.pt, ha.sn⟩
theorem sw_or1 (ha : ST X W a tA gA) : SW X W (.BoolOp .Or [a] pos) tA gA := ⟨pw_or1 ha.pt, ha.sn⟩
theorem sw_and (ha : ST X W a tA gA) (hb : SW X W (.BoolOp .And (b :: rest) pos) tB' gB) : SW X W (.BoolOp .And (a :: b :: rest) pos) (tAnd tA tB') (fAnd gA gB) := by
  refine ⟨pw_and ha.pt hb.pw, fun F S H σ ρ Q hK fok er hp => ?_⟩
  refine ha.go hK fok er (wT F W σ Q) hp fun b ρ1 S1 H1 t1 er1 hp1 => ?_
  cases b with
  | true => exact iteT (hb.sn F S1 H1 σ ρ1 Q hK fok er1 hp1)
  | false => exact iteF (hp1 S1 H1 .refl er1)
theorem sw_or (ha : ST X W a tA gA) (hb : SW X W (.BoolOp .Or (b :: rest) pos) tB' gB) : SW X W (.BoolOp .Or (a :: b :: rest) pos) (tOr tA tB') (fOr gA gB) := by
  refine ⟨pw_or ha.pt hb.pw, fun F S H σ ρ Q hK fok er hp => ?_⟩
  refine ha.go hK fok er (wT F W σ Q) hp fun b ρ1 S1 H1 t1 er1 hp1 => ?_
  cases b with
  | true => exact iteT (hp1 S1 H1 .refl er1)
  | false => exact iteF (hb.sn F S1 H1 σ ρ1 Q hK fok er1 hp1)
theorem SW.st {e : Expr} (h : SW X W e tA gA) : ST X W e tA gA := ⟨h.pw.pt, h.sn⟩
/-- .. as values -/
def fAndV (fa fb : EF) : EF := fun ρ => (fa ρ).bind fun r ρ1 => match r with
  | .val (.bool true) => fb ρ1
  | .val (.bool false) => .ok (.val (.bool false)) ρ1
  | _ => .bad
def fOrV (fa fb : EF) : EF := fun ρ => (fa ρ).bind fun r ρ1 => match r with
  | .val (.bool true) => .ok (.val (.bool true)) ρ1
  | .val (.bool false) => fb ρ1
  | _ => .bad
def fNotV (fa : EF) : EF := fun ρ => (fa ρ).bind fun r ρ1 => match r with
  | .val (.bool b) => .ok (.val (.bool (!b))) ρ1
  | _ => .bad
theorem se_one {op} (h : SE X W a ta fa) : SE X W (.BoolOp op [a] pos) ta fa := ⟨pe_one h.pe, h.sn⟩
theorem se_and (ha : SE X W a ta fa) (hb : SE X W (.BoolOp .And (b :: rest) pos) tb fb) : SE X W (.BoolOp .And (a :: b :: rest) pos) (tAndV ta tb) (fAndV fa fb) := by
  refine ⟨pe_and ha.pe hb.pe, fun F S H σ ρ Q hK fok er hp => ?_⟩
  refine ha.go hK fok er (wE F W σ Q) hp fun r ρ1 v S1 H1 t1 er1 rr _ hp1 => ?_
  match r, rr, hp1 with
  | .val (.bool true), rr, hp1 =>
    cases (show Rp F.K S1 H1 v (.bool true) from rr)
    exact ⟨true, rfl, iteT (hb.sn F S1 H1 σ ρ1 Q hK fok er1 hp1)⟩
  | .val (.bool false), rr, hp1 =>
    cases (show Rp F.K S1 H1 v (.bool false) from rr)
    exact ⟨false, rfl, iteF (hp1 _ S1 H1 .refl er1 (.bl false) trivial)⟩
  | .val .none, _, hp1 => exact hp1.elim
  | .val (.int _), _, hp1 => exact hp1.elim
  | .val (.str _), _, hp1 => exact hp1.elim
  | .val (.list _), _, hp1 => exact hp1.elim
  | .val (.tuple _), _, hp1 => exact hp1.elim
  | .val (.dict _), _, hp1 => exact hp1.elim
  | .own _, _, hp1 => exact hp1.elim
  | .slot _, _, hp1 => exact hp1.elim
theorem se_or (ha : SE X W a ta fa) (hb : SE X W (.BoolOp .Or (b :: rest) pos) tb fb) : SE X W (.BoolOp .Or (a :: b :: rest) pos) (tOrV ta tb) (fOrV fa fb) := by
  refine ⟨pe_or ha.pe hb.pe, fun F S H σ ρ Q hK fok er hp => ?_⟩
  refine ha.go hK fok er (wE F W σ Q) hp fun r ρ1 v S1 H1 t1 er1 rr _ hp1 => ?_
  match r, rr, hp1 with
  | .val (.bool true), rr, hp1 =>
    cases (show Rp F.K S1 H1 v (.bool true) from rr)
    exact ⟨true, rfl, iteT (hp1 _ S1 H1 .refl er1 (.bl true) trivial)⟩
  | .val (.bool false), rr, hp1 =>
    cases (show Rp F.K S1 H1 v (.bool false) from rr)
    exact ⟨false, rfl, iteF (hb.sn F S1 H1 σ ρ1 Q hK fok er1 hp1)⟩
  | .val .none, _, hp1 => exact hp1.elim
  | .val (.int _), _, hp1 => exact hp1.elim
  | .val (.str _), _, hp1 => exact hp1.elim
  | .val (.list _), _, hp1 => exact hp1.elim
  | .val (.tuple _), _, hp1 => exact hp1.elim
  | .val (.dict _), _, hp1 => exact hp1.elim
  | .own _, _, hp1 => exact hp1.elim
  | .slot _, _, hp1 => exact hp1.elim
theorem se_notV (ha : SE X W a ta fa) : SE X W (.UnaryOp .Not a pos) (tNotV ta) (fNotV fa) := by
  refine ⟨pe_not ha.pe, fun F S H σ ρ Q hK fok er hp => ?_⟩
  refine ha.go hK fok er (wE F W σ Q) hp fun r ρ1 v S1 H1 t1 er1 rr _ hp1 => ?_
  match r, rr, hp1 with
  | .val (.bool b), rr, hp1 =>
    cases (show Rp F.K S1 H1 v (.bool b) from rr)
    exact ⟨b, rfl, hp1 _ S1 H1 .refl er1 (.bl (!b)) trivial⟩
  | .val .none, _, hp1 => exact hp1.elim
  | .val (.int _), _, hp1 => exact hp1.elim
  | .val (.str _), _, hp1 => exact hp1.elim
  | .val (.list _), _, hp1 => exact hp1.elim
  | .val (.tuple _), _, hp1 => exact hp1.elim
  | .val (.dict _), _, hp1 => exact hp1.elim
  | .own _, _, hp1 => exact hp1.elim
  | .slot _, _, hp1 => exact hp1.elim
/-- not t, as a value of a test -/
def fIf (g : TF) (fa fb : EF) : EF := fun ρ => (g ρ).bind fun k ρ1 => if k = true then fa ρ1 else fb ρ1
theorem se_if (hc : ST X W c tA gA) (ha : SE X W a ta fa) (hb : SE X W b tb fb) : SE X W (.IfExp c a b pos) (tIf tA ta tb) (fIf gA fa fb) := by
  refine ⟨pe_ifExp hc.pt ha.pe hb.pe, fun F S H σ ρ Q hK fok er hp => ?_⟩
  refine hc.go hK fok er (wE F W σ Q) hp fun k ρ1 S1 H1 t1 er1 hp1 => ?_
  cases k with
  | true => exact iteT (ha.sn F S1 H1 σ ρ1 Q hK fok er1 hp1)
  | false => exact iteF (hb.sn F S1 H1 σ ρ1 Q hK fok er1 hp1)

/-! ### a < b < c -/
def fChain (g g' : PyData → PyData → Option R) (fa fb fc : EF) : EF := fun ρ => (fa ρ).bind fun ra ρ1 => (fb ρ1).bind fun rb ρ2 => (res2 g ra rb ρ2).bind fun r ρ3 => match r with
  | .val (.bool true) => (fc ρ3).bind fun rc ρ4 => res2 g' rb rc ρ4
  | .val (.bool false) => .ok (.val (.bool false)) ρ3
  | _ => .bad
end

/-- what two results give by an operator, at a state -/
theorem res2_go {F : Fx} {W : WX} {S : AS} {H : Hp} {σ : St} {ρ : Rho} {r : R2} {g : PyData → PyData → Option R} {ra rb : R} {x y : V} {β : Type} (w : Wish F W σ β) {k : R → Rho → Out β} {Q : VK} (hs : OpG F.K r g) (fok : F.Ok) (er : ER F S H σ ρ)
    (rx : RR F S H σ ρ x ra) (ry : RR F S H σ ρ y rb) (hp : w.P S H ρ ((res2 g ra rb ρ).bind k))
    (hk : ∀ res v S1 H1, Tr S H σ ρ S1 H1 ρ → ER F S1 H1 σ ρ → RR F S1 H1 σ ρ v res → Frsh H v res → w.P S1 H1 ρ (k res ρ) → Q v H1) : r x y H Q := by
  unfold res2 at hp
  cases qa : deref ρ ra with
  | none => simp only [qa] at hp; exact (w.bad hp).elim
  | some da =>
    cases qb : deref ρ rb with
    | none => simp only [qa, qb] at hp; exact (w.bad hp).elim
    | some db =>
      simp only [qa, qb] at hp
      cases qg : g da db with
      | none => simp only [qg] at hp; exact (w.bad hp).elim
      | some res =>
        simp only [qg] at hp
        refine hs S H x y da db res Q er.dom (rx.rt er qa) (ry.rt er qb) qg fun v S' H' gr => ?_
        obtain ⟨t, er', rr', fr'⟩ := gr.step er fok
        exact hk res v S' H' t er' rr' fr' (w.sh er t hp)
theorem res2_end {F : Fx} {W : WX} {S : AS} {H : Hp} {σ : St} {ρ : Rho} {r : R2} {g : PyData → PyData → Option R} {ra rb : R} {x y : V} {Q : VK} (hs : OpG F.K r g) (fok : F.Ok) (er : ER F S H σ ρ)
    (rx : RR F S H σ ρ x ra) (ry : RR F S H σ ρ y rb) (hp : PostE F W S H σ ρ (res2 g ra rb ρ) Q) : r x y H Q := by
  unfold res2 at hp
  cases qa : deref ρ ra with
  | none => simp only [qa] at hp; exact hp.elim
  | some da =>
    cases qb : deref ρ rb with
    | none => simp only [qa, qb] at hp; exact hp.elim
    | some db =>
      simp only [qa, qb] at hp
      cases qg : g da db with
      | none => simp only [qg] at hp; exact hp.elim
      | some res =>
        simp only [qg] at hp
        refine hs S H x y da db res Q er.dom (rx.rt er qa) (ry.rt er qb) qg fun v S' H' gr => ?_
        obtain ⟨t, er', rr', fr'⟩ := gr.step er fok
        exact hp v S' H' t er' rr' fr'
section
variable {X : Cx} {W : WX} {a b c : Expr} {ta tb tc : TE} {fa fb fc : EF} {pos : Pos} {op op' : CmpOp} {r r' : R2} {g g' : PyData → PyData → Option R}
theorem sn_chain (hs : OpG X.K r g) (hs' : OpG X.K r' g') (ha : SE X W a ta fa) (hb : SE X W b tb fb) (hc : SE X W c tc fc) :
    ∀ (F : Fx) (S : AS) (H : Hp) (σ : St) (ρ : Rho) (Q : VK), F.K = X.K → F.Ok → ER F S H σ ρ → PostE F W S H σ ρ (fChain g g' fa fb fc ρ) Q → tChain r r' ta tb tc σ H Q := by
  intro F S H σ ρ Q hK fok er hp
  refine ha.go hK fok er (wE F W σ Q) hp fun ra ρ1 v1 S1 H1 t1 er1 rr1 _ hp1 => ?_
  refine hb.go hK fok er1 (wE F W σ Q) hp1 fun rb ρ2 v2 S2 H2 t2 er2 rr2 _ hp2 => ?_
  have rr1' := rr1.tr er1 t2 (er2.len.trans er1.len.symm)
  refine res2_go (wE F W σ Q) (by rw [hK]; exact hs) fok er2 rr1' rr2 hp2 fun res v S3 H3 t3 er3 rr3 _ hp3 => ?_
  have rr2' := rr2.tr er2 t3 rfl
  match res, rr3, hp3 with
  | .val (.bool true), rr3, hp3 =>
    cases (show Rp F.K S3 H3 v (.bool true) from rr3)
    refine ⟨true, rfl, iteT ?_⟩
    have hp3 : PostE F W S3 H3 σ ρ2 ((fc ρ2).bind fun rc ρ4 => (res2 g' rb rc ρ4)) Q := hp3
    refine hc.go hK fok er3 (wE F W σ Q) hp3 fun rc ρ4 v4 S4 H4 t4 er4 rr4 _ hp4 => ?_
    have rr2'' := rr2'.tr er3 t4 (er4.len.trans er3.len.symm)
    exact res2_end (by rw [hK]; exact hs') fok er4 rr2'' rr4 hp4
  | .val (.bool false), rr3, hp3 =>
    cases (show Rp F.K S3 H3 v (.bool false) from rr3)
    exact ⟨false, rfl, iteF (hp3 _ S3 H3 .refl er3 (.bl false) trivial)⟩
  | .val .none, _, hp1 => exact hp1.elim
  | .val (.int _), _, hp1 => exact hp1.elim
  | .val (.str _), _, hp1 => exact hp1.elim
  | .val (.list _), _, hp1 => exact hp1.elim
  | .val (.tuple _), _, hp1 => exact hp1.elim
  | .val (.dict _), _, hp1 => exact hp1.elim
  | .own _, _, hp1 => exact hp1.elim
  | .slot _, _, hp1 => exact hp1.elim
theorem se_chain (ho : OpR X (compareOp op) r) (ho' : OpR X (compareOp op') r') (hs : OpG X.K r g) (hs' : OpG X.K r' g') (ha : SE X W a ta fa) (hb : SE X W b tb fb) (hc : SE X W c tc fc)
    (hm : lastMarks [op, op'] [b, c] = false := by with_unfolding_all rfl) : SE X W (.Compare a [op, op'] [b, c] pos) (tChain r r' ta tb tc) (fChain g g' fa fb fc) := ⟨pe_chain ho ho' ha.pe hb.pe hc.pe hm, sn_chain hs hs' ha hb hc⟩
theorem st_chain (ho : OpR X (compareOp op) r) (ho' : OpR X (compareOp op') r') (hs : OpG X.K r g) (hs' : OpG X.K r' g') (ha : SE X W a ta fa) (hb : SE X W b tb fb) (hc : SE X W c tc fc)
    (hm : lastMarks [op, op'] [b, c] = false := by with_unfolding_all rfl) : ST X W (.Compare a [op, op'] [b, c] pos) (tTest (tChain r r' ta tb tc)) (fB (fChain g g' fa fb fc)) :=
  ⟨pt_chain ho ho' ha.pe hb.pe hc.pe hm, sn_tB (se_chain (pos := pos) ho ho' hs hs' ha hb hc hm)⟩
/-- int comparisons -/
theorem se_lt {p : Pos} (ha : SE X W a ta fa) (hb : SE X W b tb fb) : SE X W (.Compare a [.Lt] [b] p) (tOp (rI0 fun i j => .bl (decide (i < j))) ta tb) (fOp gLt fa fb) := se_cmp op_lt (og_cmp _) ha hb (nomark _)
end

/-! ### written items, given away -/
def PostL (F : Fx) (W : WX) (S : AS) (H : Hp) (σ : St) (ρ : Rho) (o : Out (List PyData)) (Q : List V → Hp → Prop) : Prop := match o with
  | .ok ds ρ' => ∀ vs S' H', Tr S H σ ρ S' H' ρ' → ER F S' H' σ ρ' → RpA F.K S' H' vs ds → Q vs H'
  | .ex x ρ' => ∀ cls dx S' H', Tr S H σ ρ S' H' ρ' → ER F S' H' σ ρ' → XR F S' H' x cls dx → W cls dx σ H'
  | .bad => False
theorem PostL.shift {F : Fx} {W : WX} {S S1 : AS} {H H1 : Hp} {σ : St} {ρ ρ1 : Rho} {Q : List V → Hp → Prop} (er : ER F S H σ ρ) (t : Tr S H σ ρ S1 H1 ρ1) {o : Out (List PyData)} (h : PostL F W S H σ ρ o Q) : PostL F W S1 H1 σ ρ1 o Q := by
  cases o with
  | ok r ρ' => exact fun v S' H' t' er' rr => h v S' H' (t.trans er t') er' rr
  | ex x ρ' => exact fun cls dx S' H' t' er' xr => h cls dx S' H' (t.trans er t') er' xr
  | bad => exact h
def wL (F : Fx) (W : WX) (σ : St) (Q : List V → Hp → Prop) : Wish F W σ (List PyData) := ⟨fun S H ρ o => PostL F W S H σ ρ o Q, fun er t h => h.shift er t, fun h => h, fun h => h⟩
abbrev AF := Rho → Out (List PyData)
structure SA (X : Cx) (W : WX) (es : List Expr) (t : TA) (f : AF) : Prop where
  pa : PA X es t
  sn : ∀ (F : Fx) (S : AS) (H : Hp) (σ : St) (ρ : Rho) (Q : List V → Hp → Prop), F.K = X.K → F.Ok → ER F S H σ ρ → PostL F W S H σ ρ (f ρ) Q → t σ H Q
def fNil : AF := fun ρ => .ok [] ρ
def fCons (fa : EF) (fr : AF) : AF := fun ρ => bindF (fa ρ) fun d ρ1 => (fr ρ1).bind fun ds ρ2 => .ok (d :: ds) ρ2
section
variable {X : Cx} {W : WX} {e : Expr} {es : List Expr} {te : TE} {t : TA} {f : EF} {fr : AF} {pos : Pos}
theorem sa_nil : SA X W [] tNil fNil := ⟨pa_nil, fun F S H σ ρ Q _ _ er hp => hp [] S H .refl er .nil⟩
theorem sa_cons (ha : SE X W e te f) (hr : SA X W es t fr) (hs : starEach (e :: es) X.env = (false, eval e X.env) :: starEach es X.env := by rfl) : SA X W (e :: es) (tCons te t) (fCons f fr) := by
  refine ⟨pa_cons ha.pe hr.pa hs, fun F S H σ ρ Q hK fok er hp => ?_⟩
  refine ha.goF hK fok er (wL F W σ Q) hp fun d ρ1 v S1 H1 t1 er1 rp1 hp1 => ?_
  refine hr.sn F S1 H1 σ ρ1 _ hK fok er1 ?_
  have hp1 : PostL F W S1 H1 σ ρ1 ((fr ρ1).bind fun ds ρ2 => .ok (d :: ds) ρ2) Q := hp1
  cases q : fr ρ1 with
  | ok ds ρ2 =>
    rw [q] at hp1
    exact fun vs S2 H2 t2 er2 rp2 => hp1 (v :: vs) S2 H2 t2 er2 (.cons (rp1.tr er1 t2) rp2)
  | ex x ρ2 => rw [q] at hp1; exact hp1
  | bad => rw [q] at hp1; exact hp1
/-- from the items to what is made of them -/
theorem SA.go (h : SA X W es t fr) {F : Fx} {S : AS} {H : Hp} {σ : St} {ρ : Rho} {β : Type} (hK : F.K = X.K) (fok : F.Ok) (er : ER F S H σ ρ) (w : Wish F W σ β) {k : List PyData → Rho → Out β} (hp : w.P S H ρ ((fr ρ).bind k)) {Q : List V → Hp → Prop}
    (hk : ∀ ds ρ1 vs S1 H1, Tr S H σ ρ S1 H1 ρ1 → ER F S1 H1 σ ρ1 → RpA F.K S1 H1 vs ds → w.P S1 H1 ρ1 (k ds ρ1) → Q vs H1) : t σ H Q := by
  refine h.sn F S H σ ρ Q hK fok er ?_
  cases q : fr ρ with
  | ok b ρ1 =>
    rw [q] at hp
    exact fun vs S1 H1 t1 er1 rp => hk b ρ1 vs S1 H1 t1 er1 rp (w.sh er t1 hp)
  | ex x ρ1 =>
    rw [q] at hp
    exact w.ex hp
  | bad =>
    rw [q] at hp
    exact w.bad hp
def fTup (fr : AF) : EF := fun ρ => (fr ρ).bind fun ds ρ1 => if ds.length ≤ 16777216 then .ok (.val (.tuple ds)) ρ1 else .bad
def fLst (fr : AF) : EF := fun ρ => (fr ρ).bind fun ds ρ1 => if ds.length ≤ 16777216 then .ok (.own (.lst ds)) ρ1 else .bad
theorem se_tup {k : Nat} (h : SA X W es t fr) : SE X W (.Tuple es k pos) (tTup t) (fTup fr) := by
  refine ⟨pe_tup h.pa, fun F S H σ ρ Q hK fok er hp => ?_⟩
  refine h.go hK fok er (wE F W σ Q) hp fun ds ρ1 vs S1 H1 t1 er1 rp hp1 => ?_
  by_cases z : ds.length ≤ 16777216
  · rw [if_pos z] at hp1
    refine ⟨by rw [rp.length, sizeLine_eq]; exact z, fun p hp => ?_⟩
    obtain ⟨t, er', rr', fr'⟩ := (Grow.tup (K := F.K) (S := S1) er1.dom hp rp).step er1 fok
    exact hp1 _ _ _ t er' rr' fr'
  · rw [if_neg z] at hp1
    exact hp1.elim
theorem se_lst (h : SA X W es t fr) : SE X W (.List es pos) (tLst t) (fLst fr) := by
  refine ⟨pe_lst h.pa, fun F S H σ ρ Q hK fok er hp => ?_⟩
  refine h.go hK fok er (wE F W σ Q) hp fun ds ρ1 vs S1 H1 t1 er1 rp hp1 => ?_
  by_cases z : ds.length ≤ 16777216
  · rw [if_pos z] at hp1
    refine ⟨by rw [rp.length, sizeLine_eq]; exact z, fun p hp => ?_⟩
    obtain ⟨t, er', rr', fr'⟩ := (Grow.lst (K := F.K) (S := S1) hp rp).step er1 fok
    exact hp1 _ _ _ t er' rr' fr'
  · rw [if_neg z] at hp1
    exact hp1.elim
/-- an empty dict: of tuple keys, of others -/
def fDT : EF := fun ρ => .ok (.own (.dT [])) ρ
def fDK : EF := fun ρ => .ok (.own (.dK [])) ρ
theorem Grow.dT0 {K : PySem.W.Frag} {S : AS} {H : Hp} {p : Addr} (hp : H p = none) : Grow K S H (fun a => S a ∨ a = p) (upd H p (.dT [])) (.ref p) (.own (.dT [])) :=
  ⟨fun b o e => by rw [upd_ne (ne_of_none e hp)]; exact e, p, rfl, hp, rfl, [], upd_same, rfl, .nil⟩
theorem Grow.dK0 {K : PySem.W.Frag} {S : AS} {H : Hp} {p : Addr} (hp : H p = none) : Grow K S H (fun a => S a ∨ a = p) (upd H p (.dK [])) (.ref p) (.own (.dK [])) :=
  ⟨fun b o e => by rw [upd_ne (ne_of_none e hp)]; exact e, p, rfl, hp, rfl, [], upd_same, rfl, .nil⟩
theorem se_dT : SE X W (.Dict [] [] pos) tDNewT fDT := by
  refine ⟨pe_dnewT, fun F S H σ ρ Q hK fok er hp => ?_⟩
  intro d hd
  obtain ⟨t, er', rr', fr'⟩ := (Grow.dT0 (K := F.K) (S := S) hd).step er fok
  exact hp _ _ _ t er' rr' fr'
theorem se_dK : SE X W (.Dict [] [] pos) tDNewK fDK := by
  refine ⟨pe_dnewK, fun F S H σ ρ Q hK fok er hp => ?_⟩
  intro d hd
  obtain ⟨t, er', rr', fr'⟩ := (Grow.dK0 (K := F.K) (S := S) hd).step er fok
  exact hp _ _ _ t er' rr' fr'
end
end Pv
set_option maxRecDepth 100000
/-! PvF: subscripts, slices, built-in calls, isinstance. -/
namespace Pv
open PySem PySem.Spec L2

/-! ### xs[i] -/
def gIx : PyData → PyData → Option R
  | .list ds, .int i => (atI ds i).map .val
  | .tuple ds, .int i => (atI ds i).map .val
  | .str x, .int i => if x.length ≤ 16777216 then (atI x.cps.toList i).map fun c => .val (.str ⟨#[c]⟩) else none
  | _, _ => none
theorem RpA.atI {K : PySem.W.Frag} {S : AS} {H : Hp} {vs : List V} {ds : List PyData} {i : Int} {d : PyData} (h : RpA K S H vs ds) (e : L2.atI ds i = some d) : ∃ v, L2.atI vs i = some v ∧ Rp K S H v d := by
  unfold L2.atI at e ⊢
  rw [h.length]
  cases q : ixN ds.length i with
  | none => rw [q] at e; cases e
  | some j =>
    rw [q] at e
    exact h.get (i := j) e
theorem og_ix {K : PySem.W.Frag} : OpG K (rIx K) gIx := by
  intro S H x y dx dy res Q dom hx hy e q
  unfold gIx at e
  split at e
  · rename_i ds i
    cases hy.int
    obtain ⟨a, vs, rfl, ha, hs⟩ := hx.list
    obtain ⟨d, e1, rfl⟩ := Option.map_eq_some_iff.mp e
    obtain ⟨v, e2, rp⟩ := hs.atI e1
    exact .inl ⟨a, vs, i, v, rfl, rfl, ha, e2, q _ S H (.val rp)⟩
  · rename_i ds i
    cases hy.int
    obtain ⟨a, vs, rfl, na, ha, hs⟩ := hx.tuple
    obtain ⟨d, e1, rfl⟩ := Option.map_eq_some_iff.mp e
    obtain ⟨v, e2, rp⟩ := hs.atI e1
    exact .inr (.inl ⟨a, vs, i, v, rfl, rfl, SqT.of ha, e2, q _ S H (.val rp)⟩)
  · rename_i z i
    cases hy.int
    cases hx.str
    split at e
    · rename_i hz
      obtain ⟨c, e1, rfl⟩ := Option.map_eq_some_iff.mp e
      exact .inr (.inr ⟨z, i, c, rfl, rfl, by rw [sizeLine_eq]; exact hz, e1, q _ S H (.val (.str _))⟩)
    · cases e
  · cases e
def gDix : PyData → PyData → Option R
  | .dict ds, k => match dget? ds k with
    | some (some d) => some (.val d)
    | _ => none
  | _, _ => none
def rDix : R2 := fun x y H Q => ∃ a v, x = .ref a ∧ DGet H a y (some v) ∧ Q v H
theorem og_dix {K : PySem.W.Frag} : OpG K rDix gDix := by
  intro S H x y dx dy res Q dom hx hy e q
  cases dx with
  | dict ds =>
    simp only [gDix] at e
    cases h : dget? ds dy with
    | none => simp [h] at e
    | some o =>
      cases o with
      | none => simp [h] at e
      | some d =>
        simp only [h, Option.some.injEq] at e
        subst e
        obtain ⟨a, ov, rfl, hg, ro⟩ := hx.look hy h
        cases ov with
        | none => exact ro.elim
        | some v => exact ⟨a, v, rfl, hg, q _ S H (.val ro)⟩
  | _ => simp [gDix] at e
section
variable {X : Cx} {W : WX} {a b c e : Expr} {ta tb tc te : TE} {fa fb fc f : EF} {pos : Pos}
theorem se_ix (ha : SE X W a ta fa) (hb : SE X W b tb fb) (hs : PlainIx b := by exact fun _ _ => rfl) : SE X W (.Subscript a b pos) (tOp (rIx X.K) ta tb) (fOp gIx fa fb) := ⟨pe_ix ix_seq ha.pe hb.pe hs, sn_op og_ix ha hb⟩
theorem se_dix (hu : X.A.units + 1 < cLine) (ha : SE X W a ta fa) (hb : SE X W b tb fb) (hs : NoSl b := by exact fun _ _ => rfl) : SE X W (.Subscript a b pos) (tDGet ta tb) (fOp gDix fa fb) := ⟨pe_dget hu ha.pe hb.pe hs, sn_op og_dix ha hb⟩

/-! ### xs[lo:hi] -/
def cutD (ds : List PyData) (lo hi : Option Int) : List PyData := (ds.drop (HT.sIx ds.length 0 lo)).take (HT.sIx ds.length ds.length hi - HT.sIx ds.length 0 lo)
def outP (r : R) (ρ : Rho) : Out (Option Int) := match r with
  | .val (.int i) => .ok (some i) ρ
  | _ => .bad
abbrev PF := Rho → Out (Option Int)
def PostP (F : Fx) (W : WX) (S : AS) (H : Hp) (σ : St) (ρ : Rho) (o : Out (Option Int)) (Q : Option Int → Hp → Prop) : Prop := match o with
  | .ok b ρ' => ∀ S' H', Tr S H σ ρ S' H' ρ' → ER F S' H' σ ρ' → Q b H'
  | .ex x ρ' => ∀ cls dx S' H', Tr S H σ ρ S' H' ρ' → ER F S' H' σ ρ' → XR F S' H' x cls dx → W cls dx σ H'
  | .bad => False
theorem PostP.shift {F : Fx} {W : WX} {S S1 : AS} {H H1 : Hp} {σ : St} {ρ ρ1 : Rho} {Q : Option Int → Hp → Prop} (er : ER F S H σ ρ) (t : Tr S H σ ρ S1 H1 ρ1) {o : Out (Option Int)} (h : PostP F W S H σ ρ o Q) : PostP F W S1 H1 σ ρ1 o Q := by
  cases o with
  | ok r ρ' => exact fun S' H' t' er' => h S' H' (t.trans er t') er'
  | ex x ρ' => exact fun cls dx S' H' t' er' xr => h cls dx S' H' (t.trans er t') er' xr
  | bad => exact h
def wP (F : Fx) (W : WX) (σ : St) (Q : Option Int → Hp → Prop) : Wish F W σ (Option Int) := ⟨fun S H ρ o => PostP F W S H σ ρ o Q, fun er t h => h.shift er t, fun h => h, fun h => h⟩
structure SPo (X : Cx) (W : WX) (e : Option Expr) (t : TO) (f : PF) : Prop where
  po : PO X e t
  sn : ∀ (F : Fx) (S : AS) (H : Hp) (σ : St) (ρ : Rho) (Q : Option Int → Hp → Prop), F.K = X.K → F.Ok → ER F S H σ ρ → PostP F W S H σ ρ (f ρ) Q → t σ H Q
def fNoPart : PF := fun ρ => .ok none ρ
def fPart (f : EF) : PF := fun ρ => (f ρ).bind outP
theorem spo_none : SPo X W none tNoPart fNoPart := ⟨po_none, fun F S H σ ρ Q _ _ er hp => hp S H .refl er⟩
theorem spo_some (h : SE X W e te f) : SPo X W (some e) (tPart te) (fPart f) := by
  refine ⟨po_some h.pe, fun F S H σ ρ Q hK fok er hp => ?_⟩
  refine h.go hK fok er (wP F W σ Q) hp fun r ρ1 v S1 H1 t1 er1 rr _ hp1 => ?_
  have hp1 : PostP F W S1 H1 σ ρ1 (outP r ρ1) Q := hp1
  match r, rr, hp1 with
  | .val (.int i), rr, hp1 =>
    cases (show Rp F.K S1 H1 v (.int i) from rr)
    exact ⟨i, rfl, hp1 S1 H1 .refl er1⟩
  | .val .none, _, hp1 => exact hp1.elim
  | .val (.bool _), _, hp1 => exact hp1.elim
  | .val (.str _), _, hp1 => exact hp1.elim
  | .val (.list _), _, hp1 => exact hp1.elim
  | .val (.tuple _), _, hp1 => exact hp1.elim
  | .val (.dict _), _, hp1 => exact hp1.elim
  | .own _, _, hp1 => exact hp1.elim
  | .slot _, _, hp1 => exact hp1.elim
theorem SPo.go {e : Option Expr} {t : TO} {fp : PF} (h : SPo X W e t fp) {F : Fx} {S : AS} {H : Hp} {σ : St} {ρ : Rho} {β : Type} (hK : F.K = X.K) (fok : F.Ok) (er : ER F S H σ ρ) (w : Wish F W σ β) {k : Option Int → Rho → Out β} (hp : w.P S H ρ ((fp ρ).bind k)) {Q : Option Int → Hp → Prop}
    (hk : ∀ b ρ1 S1 H1, Tr S H σ ρ S1 H1 ρ1 → ER F S1 H1 σ ρ1 → w.P S1 H1 ρ1 (k b ρ1) → Q b H1) : t σ H Q := by
  refine h.sn F S H σ ρ Q hK fok er ?_
  cases q : fp ρ with
  | ok b ρ1 =>
    rw [q] at hp
    exact fun S1 H1 t1 er1 => hk b ρ1 S1 H1 t1 er1 (w.sh er t1 hp)
  | ex x ρ1 =>
    rw [q] at hp
    exact w.ex hp
  | bad =>
    rw [q] at hp
    exact w.bad hp
def gSl (d : PyData) (lo hi : Option Int) : Option R := match d with
  | .list ds => some (.own (.lst (cutD ds lo hi)))
  | .tuple ds => some (.val (.tuple (cutD ds lo hi)))
  | _ => none
def outSl (r : R) (lo hi : Option Int) (ρ : Rho) : Out R := match deref ρ r with
  | some d => (match gSl d lo hi with
    | some r => .ok r ρ
    | none => .bad)
  | none => .bad
def fSl (f : EF) (fl fh : PF) : EF := fun ρ => (f ρ).bind fun r ρ1 => (fl ρ1).bind fun lo ρ2 => (fh ρ2).bind fun hi ρ3 => outSl r lo hi ρ3
def rSlX (K : PySem.W.Frag) : V → Option Int → Option Int → Hp → VK → Prop := fun x lo hi H Q => rSlL K x lo hi H Q ∨ rSlA K x lo hi H Q
theorem cut_rp {K : PySem.W.Frag} {S : AS} {H : Hp} {vs : List V} {ds : List PyData} (h : RpA K S H vs ds) (lo hi : Option Int) : RpA K S H (cutV vs lo hi) (cutD ds lo hi) := by
  unfold cutV cutD
  rw [h.length]
  exact (h.drop _).take _
theorem se_sl {lo hi : Option Expr} {tl th : TO} {fl fh : PF} {p2 : Pos} (he : SE X W e te f) (hl : SPo X W lo tl fl) (hu : SPo X W hi th fh) : SE X W (.Subscript e (.Slice lo hi none p2) pos) (tSl (rSlX X.K) te tl th) (fSl f fl fh) := by
  refine ⟨pe_slice (sl_list.or sl_tupA) he.pe hl.po hu.po, fun F S H σ ρ Q hK fok er hp => ?_⟩
  refine he.go hK fok er (wE F W σ Q) hp fun r ρ1 v S1 H1 t1 er1 rr1 _ hp1 => ?_
  refine hl.go hK fok er1 (wE F W σ Q) hp1 fun lo ρ2 S2 H2 t2 er2 hp2 => ?_
  refine hu.go hK fok er2 (wE F W σ Q) hp2 fun hi ρ3 S3 H3 t3 er3 hp3 => ?_
  have rr3 := (rr1.tr er1 t2 (er2.len.trans er1.len.symm)).tr er2 t3 (er3.len.trans er2.len.symm)
  have hp3 : PostE F W S3 H3 σ ρ3 (outSl r lo hi ρ3) Q := hp3
  unfold outSl at hp3
  cases qa : deref ρ3 r with
  | none => simp only [qa] at hp3; exact hp3.elim
  | some d =>
    simp only [qa] at hp3
    have rt := rr3.rt er3 qa
    rw [← hK]
    cases d with
    | list ds =>
      obtain ⟨a, vs, rfl, ha, hs⟩ := rt.list
      refine .inl ⟨a, vs, rfl, ha, fun p hp => ?_⟩
      obtain ⟨t, er', rr', fr'⟩ := (Grow.lst (K := F.K) (S := S3) hp (cut_rp hs lo hi)).step er3 fok
      exact hp3 _ _ _ t er' rr' fr'
    | tuple ds =>
      obtain ⟨a, vs, rfl, na, ha, hs⟩ := rt.tuple
      have hp3 : PostE F W S3 H3 σ ρ3 (.ok (.val (.tuple (cutD ds lo hi))) ρ3) Q := hp3
      refine .inr ⟨a, vs, rfl, SqT.of ha, fun w => ?_, fun _ p hp => ?_⟩
      · have ec : cutD ds lo hi = ds := by
          unfold cutD
          rw [← hs.length, w.1, w.2]
          simp [hs.length]
        refine hp3 _ S3 H3 .refl er3 ?_ trivial
        rw [ec]
        exact .tup na ha hs
      · obtain ⟨t, er', rr', fr'⟩ := (Grow.tup (K := F.K) (S := S3) er3.dom hp (cut_rp hs lo hi)).step er3 fok
        exact hp3 _ _ _ t er' rr' fr'
    | none => exact hp3.elim
    | bool _ => exact hp3.elim
    | int _ => exact hp3.elim
    | str _ => exact hp3.elim
    | dict _ => exact hp3.elim
end

/-! ### calls of built-ins, by data -/
/-- read in a row -/
inductive RTs (K : PySem.W.Frag) (S : AS) (H : Hp) : List V → List PyData → Prop
  | nil : RTs K S H [] []
  | cons {v : V} {vs : List V} {d : PyData} {ds : List PyData} : RT K S H v d → RTs K S H vs ds → RTs K S H (v :: vs) (d :: ds)
inductive RRs (F : Fx) (S : AS) (H : Hp) (σ : St) (ρ : Rho) : List V → List R → Prop
  | nil : RRs F S H σ ρ [] []
  | cons {v : V} {vs : List V} {r : R} {rs : List R} : RR F S H σ ρ v r → RRs F S H σ ρ vs rs → RRs F S H σ ρ (v :: vs) (r :: rs)
def derefs (ρ : Rho) : List R → Option (List PyData)
  | [] => some []
  | r :: rs => match deref ρ r, derefs ρ rs with
    | some d, some ds => some (d :: ds)
    | _, _ => none
section
variable {F : Fx} {S S' : AS} {H H' : Hp} {σ : St} {ρ ρ' : Rho}
theorem RRs.tr (er : ER F S H σ ρ) (t : Tr S H σ ρ S' H' ρ') (hl : ρ'.length = ρ.length) : ∀ {vs : List V} {rs : List R}, RRs F S H σ ρ vs rs → RRs F S' H' σ ρ' vs rs
  | _, _, .nil => .nil
  | _, _, .cons h hs => .cons (h.tr er t hl) (RRs.tr er t hl hs)
theorem RRs.rt (er : ER F S H σ ρ) : ∀ {vs : List V} {rs : List R} {ds : List PyData}, RRs F S H σ ρ vs rs → derefs ρ rs = some ds → RTs F.K S H vs ds
  | _, _, _, .nil, e => by cases e; exact .nil
  | _, _, _, .cons (r := r) (rs := rs) h hs, e => by
    unfold derefs at e
    cases q1 : deref ρ r with
    | none => simp only [q1] at e; cases e
    | some d =>
      cases q2 : derefs ρ rs with
      | none => simp only [q1, q2] at e; cases e
      | some ds =>
        simp only [q1, q2] at e
        cases e
        exact .cons (h.rt er q1) (RRs.rt er hs q2)
end
def PostR (F : Fx) (W : WX) (S : AS) (H : Hp) (σ : St) (ρ : Rho) (o : Out (List R)) (Q : List V → Hp → Prop) : Prop := match o with
  | .ok rs ρ' => ∀ vs S' H', Tr S H σ ρ S' H' ρ' → ER F S' H' σ ρ' → RRs F S' H' σ ρ' vs rs → Q vs H'
  | .ex x ρ' => ∀ cls dx S' H', Tr S H σ ρ S' H' ρ' → ER F S' H' σ ρ' → XR F S' H' x cls dx → W cls dx σ H'
  | .bad => False
theorem PostR.shift {F : Fx} {W : WX} {S S1 : AS} {H H1 : Hp} {σ : St} {ρ ρ1 : Rho} {Q : List V → Hp → Prop} (er : ER F S H σ ρ) (t : Tr S H σ ρ S1 H1 ρ1) {o : Out (List R)} (h : PostR F W S H σ ρ o Q) : PostR F W S1 H1 σ ρ1 o Q := by
  cases o with
  | ok r ρ' => exact fun v S' H' t' er' rr => h v S' H' (t.trans er t') er' rr
  | ex x ρ' => exact fun cls dx S' H' t' er' xr => h cls dx S' H' (t.trans er t') er' xr
  | bad => exact h
def wR (F : Fx) (W : WX) (σ : St) (Q : List V → Hp → Prop) : Wish F W σ (List R) := ⟨fun S H ρ o => PostR F W S H σ ρ o Q, fun er t h => h.shift er t, fun h => h, fun h => h⟩
abbrev RF := Rho → Out (List R)
/-- items as they stand -/
structure SAr (X : Cx) (W : WX) (es : List Expr) (t : TA) (f : RF) : Prop where
  pa : PA X es t
  sn : ∀ (F : Fx) (S : AS) (H : Hp) (σ : St) (ρ : Rho) (Q : List V → Hp → Prop), F.K = X.K → F.Ok → ER F S H σ ρ → PostR F W S H σ ρ (f ρ) Q → t σ H Q
def rNil : RF := fun ρ => .ok [] ρ
def rCons (fa : EF) (fr : RF) : RF := fun ρ => (fa ρ).bind fun r ρ1 => (fr ρ1).bind fun rs ρ2 => .ok (r :: rs) ρ2
def CallG (K : PySem.W.Frag) (r : List V → Hp → VK → Prop) (g : List PyData → Option R) : Prop := ∀ (S : AS) (H : Hp) (vs : List V) (ds : List PyData) (res : R) (Q : VK), (∀ a, S a → H a ≠ none) → RTs K S H vs ds → g ds = some res →
  (∀ v S' H', Grow K S H S' H' v res → Q v H') → r vs H Q
def outC (g : List PyData → Option R) (rs : List R) (ρ : Rho) : Out R := match derefs ρ rs with
  | some ds => (match g ds with
    | some r => .ok r ρ
    | none => .bad)
  | none => .bad
def fCB (g : List PyData → Option R) (fr : RF) : EF := fun ρ => (fr ρ).bind (outC g)
section
variable {X : Cx} {W : WX} {e : Expr} {es : List Expr} {te : TE} {t : TA} {f : EF} {fr : RF} {pos p : Pos} {x : Str} {id T : String} {r : List V → Hp → VK → Prop} {g : List PyData → Option R}
theorem sr_nil : SAr X W [] tNil rNil := ⟨pa_nil, fun F S H σ ρ Q _ _ er hp => hp [] S H .refl er .nil⟩
theorem sr_cons (ha : SE X W e te f) (hr : SAr X W es t fr) (hs : starEach (e :: es) X.env = (false, eval e X.env) :: starEach es X.env := by rfl) : SAr X W (e :: es) (tCons te t) (rCons f fr) := by
  refine ⟨pa_cons ha.pe hr.pa hs, fun F S H σ ρ Q hK fok er hp => ?_⟩
  refine ha.go hK fok er (wR F W σ Q) hp fun r ρ1 v S1 H1 t1 er1 rr1 _ hp1 => ?_
  refine hr.sn F S1 H1 σ ρ1 _ hK fok er1 ?_
  have hp1 : PostR F W S1 H1 σ ρ1 ((fr ρ1).bind fun rs ρ2 => .ok (r :: rs) ρ2) Q := hp1
  cases q : fr ρ1 with
  | ok rs ρ2 =>
    rw [q] at hp1
    exact fun vs S2 H2 t2 er2 rr2 => hp1 (v :: vs) S2 H2 t2 er2 (.cons (rr1.tr er1 t2 (er2.len.trans er1.len.symm)) rr2)
  | ex x ρ2 => rw [q] at hp1; exact hp1
  | bad => rw [q] at hp1; exact hp1
theorem SAr.go (h : SAr X W es t fr) {F : Fx} {S : AS} {H : Hp} {σ : St} {ρ : Rho} {β : Type} (hK : F.K = X.K) (fok : F.Ok) (er : ER F S H σ ρ) (w : Wish F W σ β) {k : List R → Rho → Out β} (hp : w.P S H ρ ((fr ρ).bind k)) {Q : List V → Hp → Prop}
    (hk : ∀ rs ρ1 vs S1 H1, Tr S H σ ρ S1 H1 ρ1 → ER F S1 H1 σ ρ1 → RRs F S1 H1 σ ρ1 vs rs → w.P S1 H1 ρ1 (k rs ρ1) → Q vs H1) : t σ H Q := by
  refine h.sn F S H σ ρ Q hK fok er ?_
  cases q : fr ρ with
  | ok b ρ1 =>
    rw [q] at hp
    exact fun vs S1 H1 t1 er1 rp => hk b ρ1 vs S1 H1 t1 er1 rp (w.sh er t1 hp)
  | ex x ρ1 =>
    rw [q] at hp
    exact w.ex hp
  | bad =>
    rw [q] at hp
    exact w.bad hp
theorem sn_cb (hs : CallG X.K r g) (ha : SAr X W es t fr) : ∀ (F : Fx) (S : AS) (H : Hp) (σ : St) (ρ : Rho) (Q : VK), F.K = X.K → F.Ok → ER F S H σ ρ → PostE F W S H σ ρ (fCB g fr ρ) Q → tCB r t σ H Q := by
  intro F S H σ ρ Q hK fok er hp
  refine ha.go hK fok er (wE F W σ Q) hp fun rs ρ1 vs S1 H1 t1 er1 rr1 hp1 => ?_
  have hp1 : PostE F W S1 H1 σ ρ1 (outC g rs ρ1) Q := hp1
  unfold outC at hp1
  cases qa : derefs ρ1 rs with
  | none => simp only [qa] at hp1; exact hp1.elim
  | some ds =>
    simp only [qa] at hp1
    cases qg : g ds with
    | none => simp only [qg] at hp1; exact hp1.elim
    | some res =>
      simp only [qg] at hp1
      refine hs S1 H1 vs ds res Q er1.dom (by rw [← hK]; exact rr1.rt er1 qa) qg fun v S' H' gr => ?_
      obtain ⟨t, er', rr', fr'⟩ := (show Grow F.K S1 H1 S' H' v res by rw [hK]; exact gr).step er1 fok
      exact hp1 v S' H' t er' rr' fr'
theorem se_cb (hc : CallR X (.builtin id) r) (hs : CallG X.K r g) (hg : Gl X x) (hm : X.mg x = none) (hv : bootBuiltins x = some (.builtin id)) (ha : SAr X W (e :: es) t fr) (hn : x ≠ "__name__" := by decide) (hdb : (x == ("__debug__" : Str)) = false := by decide)
    (he : starEach (e :: es) X.env = (false, eval e X.env) :: starEach es X.env := by rfl) (hpl : (backTo pos (starEach es X.env)).any (·.1) = false := by rfl) : SE X W (.Call (.Name x p) (e :: es) [] pos) (tCB r t) (fCB g fr) :=
  ⟨pe_callB hc hg hm hv ha.pa hn hdb he hpl, sn_cb hs ha⟩
theorem se_ct (hc : CallR X (.type T) r) (hs : CallG X.K r g) (hg : Gl X x) (hm : X.mg x = none) (hv : bootBuiltins x = some (.type T)) (ha : SAr X W (e :: es) t fr) (hn : x ≠ "__name__" := by decide) (hdb : (x == ("__debug__" : Str)) = false := by decide)
    (he : starEach (e :: es) X.env = (false, eval e X.env) :: starEach es X.env := by rfl) (hpl : (backTo pos (starEach es X.env)).any (·.1) = false := by rfl) : SE X W (.Call (.Name x p) (e :: es) [] pos) (tCB r t) (fCB g fr) :=
  ⟨pe_callTy hc hg hm hv ha.pa hn hdb he hpl, sn_cb hs ha⟩
end

/-! ### the built-ins -/
section
variable {X : Cx} {K : PySem.W.Frag}
theorem RTs.one {S : AS} {H : Hp} {vs : List V} {d : PyData} (h : RTs K S H vs [d]) : ∃ v, vs = [v] ∧ RT K S H v d := by
  cases h with
  | cons h1 h2 => cases h2; exact ⟨_, rfl, h1⟩
theorem RTs.two {S : AS} {H : Hp} {vs : List V} {d e : PyData} (h : RTs K S H vs [d, e]) : ∃ v w, vs = [v, w] ∧ RT K S H v d ∧ RT K S H w e := by
  cases h with
  | cons h1 h2 =>
    obtain ⟨w, rfl, h3⟩ := h2.one
    exact ⟨_, w, rfl, h1, h3⟩
def dlen (ds : List (PyData × PyData)) : Nat := ds.length - 1
def gLen : List PyData → Option R
  | [.list ds] => some (.val (.int ds.length))
  | [.tuple ds] => some (.val (.int ds.length))
  | [.dict ds] => some (.val (.int (dlen ds)))
  | [.str x] => if x.length ≤ 16777216 then some (.val (.int x.length)) else none
  | _ => none
def rLenA (K : PySem.W.Frag) : List V → Hp → VK → Prop := fun xs H Q => (∃ p ys, xs = [.ref p] ∧ (SqL K H p ys ∨ SqT K H p ys) ∧ Q (.int ys.length) H) ∨ (∃ z : Str, xs = [.str z] ∧ z.length ≤ sizeLine ∧ Q (.int z.length) H) ∨
  (∃ a kvs, xs = [V.ref a] ∧ H a = some (.dK kvs) ∧ Q (.int kvs.length) H) ∨ rLenT xs H Q
theorem call_lenA : CallR X (.builtin "len") (rLenA X.K) := by
  intro pins s σ H xs us Q I r h
  rcases h with h | h | h | h
  · exact call_len_seq pins s σ H xs us Q I r h
  · exact call_len_str pins s σ H xs us Q I r h
  · exact call_lenD pins s σ H xs us Q I r h
  · exact call_len_dT pins s σ H xs us Q I r h
theorem cg_len : CallG K (rLenA K) gLen := by
  intro S H vs ds res Q dom hs e q
  unfold gLen at e
  split at e
  · rename_i ds
    obtain ⟨v, rfl, rt⟩ := hs.one
    obtain ⟨a, xs, rfl, ha, h⟩ := rt.list
    cases e
    refine .inl ⟨a, xs, rfl, .inl ha, ?_⟩
    rw [h.length]
    exact q _ S H (.val (.int _))
  · rename_i ds
    obtain ⟨v, rfl, rt⟩ := hs.one
    obtain ⟨a, xs, rfl, _, ha, h⟩ := rt.tuple
    cases e
    refine .inl ⟨a, xs, rfl, .inr (SqT.of ha), ?_⟩
    rw [h.length]
    exact q _ S H (.val (.int _))
  · rename_i ds
    obtain ⟨v, rfl, rt⟩ := hs.one
    obtain ⟨a, rfl, h⟩ := rt.dict
    cases e
    rcases h with ⟨kvs, es, eh, ek, hr, rfl⟩ | ⟨kvs, es, eh, ek, hr, rfl⟩
    · have e2 := congrArg List.length ek
      simp only [List.length_map] at e2
      refine .inr (.inr (.inr ⟨a, kvs, rfl, eh, ?_⟩))
      have e3 : ((kvs.length : Nat) : Int) = (dlen (dTd es) : Nat) := by simp [dlen, dTd, e2]
      rw [e3]
      exact q _ S H (.val (.int _))
    · have e2 := congrArg List.length ek
      simp only [List.length_map] at e2
      refine .inr (.inr (.inl ⟨a, kvs, rfl, eh, ?_⟩))
      have e3 : ((kvs.length : Nat) : Int) = (dlen (dKd es) : Nat) := by simp [dlen, dKd, e2]
      rw [e3]
      exact q _ S H (.val (.int _))
  · rename_i x
    split at e
    · rename_i hx
      obtain ⟨v, rfl, rt⟩ := hs.one
      cases rt.str
      cases e
      exact .inr (.inl ⟨x, rfl, by rw [sizeLine_eq]; exact hx, q _ S H (.val (.int _))⟩)
    · cases e
  · cases e
def gMin2 : List PyData → Option R
  | [.int i, .int j] => some (.val (.int (if j < i then j else i)))
  | _ => none
def gMax2 : List PyData → Option R
  | [.int i, .int j] => some (.val (.int (if j > i then j else i)))
  | _ => none
theorem cg_min2 : CallG K (fun xs H Q => ∃ i j, xs = [.int i, .int j] ∧ Q (.int (if j < i then j else i)) H) gMin2 := by
  intro S H vs ds res Q dom hs e q
  unfold gMin2 at e
  split at e
  · rename_i i j
    obtain ⟨v, w, rfl, r1, r2⟩ := hs.two
    cases r1.int
    cases r2.int
    cases e
    exact ⟨i, j, rfl, q _ S H (.val (.int _))⟩
  · cases e
theorem cg_max2 : CallG K (fun xs H Q => ∃ i j, xs = [.int i, .int j] ∧ Q (.int (if j > i then j else i)) H) gMax2 := by
  intro S H vs ds res Q dom hs e q
  unfold gMax2 at e
  split at e
  · rename_i i j
    obtain ⟨v, w, rfl, r1, r2⟩ := hs.two
    cases r1.int
    cases r2.int
    cases e
    exact ⟨i, j, rfl, q _ S H (.val (.int _))⟩
  · cases e
def gInt1 : List PyData → Option R
  | [.int i] => some (.val (.int i))
  | [.str x] => (match PySem.intText? x with
    | some n => if x.length ≤ 640 then some (.val (.int n)) else none
    | none => none)
  | _ => none
def rInt1 : List V → Hp → VK → Prop := fun xs H Q => (∃ i, xs = [.int i] ∧ Q (.int i) H) ∨ ∃ a n, xs = [.str a] ∧ PySem.intText? a = some n ∧ a.length ≤ 640 ∧ Q (.int n) H
theorem call_intA (hc : X.calm = true) : CallR X (.type "int") rInt1 := by
  intro pins s σ H xs us Q I r h
  rcases h with ⟨i, rfl, q⟩ | h
  · exact call_int1 pins s σ H _ us Q I r (.inl ⟨i, rfl, q⟩)
  · exact call_int_str pins s σ H xs us Q I r h
theorem cg_int1 : CallG K rInt1 gInt1 := by
  intro S H vs ds res Q dom hs e q
  unfold gInt1 at e
  split at e
  · rename_i i
    obtain ⟨v, rfl, rt⟩ := hs.one
    cases rt.int
    cases e
    exact .inl ⟨i, rfl, q _ S H (.val (.int _))⟩
  · rename_i x
    split at e
    · rename_i n hn
      split at e
      · rename_i hx
        obtain ⟨v, rfl, rt⟩ := hs.one
        cases rt.str
        cases e
        exact .inr ⟨x, n, rfl, hn, hx, q _ S H (.val (.int _))⟩
      · cases e
    · cases e
  · cases e
def gTuple : List PyData → Option R
  | [.list ds] => some (.val (.tuple ds))
  | [.tuple ds] => some (.val (.tuple ds))
  | _ => none
theorem cg_tuple : CallG K (fun xs H Q => ∃ p ys, xs = [.ref p] ∧ ((SqL K H p ys ∧ ∀ l, H l = none → Q (.ref l) (upd H l (.tup ys))) ∨ (SqT K H p ys ∧ Q (.ref p) H))) gTuple := by
  intro S H vs ds res Q dom hs e q
  unfold gTuple at e
  split at e
  · rename_i ds
    obtain ⟨v, rfl, rt⟩ := hs.one
    obtain ⟨a, xs, rfl, ha, h⟩ := rt.list
    cases e
    exact ⟨a, xs, rfl, .inl ⟨ha, fun l hl => q _ S _ (.tup dom hl h)⟩⟩
  · rename_i ds
    obtain ⟨v, rfl, rt⟩ := hs.one
    obtain ⟨a, xs, rfl, na, ha, h⟩ := rt.tuple
    cases e
    exact ⟨a, xs, rfl, .inr ⟨SqT.of ha, q _ S H (.val (.tup na ha h))⟩⟩
  · cases e
def gList : List PyData → Option R
  | [.list ds] => some (.own (.lst ds))
  | [.tuple ds] => some (.own (.lst ds))
  | _ => none
theorem cg_list : CallG K (fun xs H Q => ∃ p ys, xs = [.ref p] ∧ (SqL K H p ys ∨ SqT K H p ys) ∧ ∀ l, H l = none → Q (.ref l) (upd H l (.lst ys))) gList := by
  intro S H vs ds res Q dom hs e q
  unfold gList at e
  split at e
  · rename_i ds
    obtain ⟨v, rfl, rt⟩ := hs.one
    obtain ⟨a, xs, rfl, ha, h⟩ := rt.list
    cases e
    exact ⟨a, xs, rfl, .inl ha, fun l hl => q _ _ _ (.lst hl h)⟩
  · rename_i ds
    obtain ⟨v, rfl, rt⟩ := hs.one
    obtain ⟨a, xs, rfl, na, ha, h⟩ := rt.tuple
    cases e
    exact ⟨a, xs, rfl, .inr (SqT.of ha), fun l hl => q _ _ _ (.lst hl h)⟩
  · cases e
def intsD : List PyData → Option (List Int)
  | [] => some []
  | .int i :: ds => (intsD ds).map (i :: ·)
  | _ => none
theorem intsD_rp {S : AS} {H : Hp} : ∀ {ds : List PyData} {vs : List V} {ns : List Int}, RpA K S H vs ds → intsD ds = some ns → vs = ns.map V.int
  | [], _, _, h, e => by cases h; cases e; rfl
  | .int i :: ds, _, ns, h, e => by
    obtain ⟨ms, e1, e2⟩ := Option.map_eq_some_iff.mp (show (intsD ds).map (i :: ·) = some ns from e)
    subst e2
    cases h with
    | cons h1 h2 =>
      cases h1
      rw [intsD_rp h2 e1] <;> rfl
  | .none :: _, _, _, _, e => by cases e
  | .bool _ :: _, _, _, _, e => by cases e
  | .str _ :: _, _, _, _, e => by cases e
  | .list _ :: _, _, _, _, e => by cases e
  | .tuple _ :: _, _, _, _, e => by cases e
  | .dict _ :: _, _, _, _, e => by cases e
def gSum : List PyData → Option R
  | [.list ds] => (intsD ds).map fun ns => .val (.int ns.sum)
  | _ => none
theorem cg_sum : CallG K (rSum K) gSum := by
  intro S H vs ds res Q dom hs e q
  unfold gSum at e
  split at e
  · rename_i ds
    obtain ⟨v, rfl, rt⟩ := hs.one
    obtain ⟨a, xs, rfl, ha, h⟩ := rt.list
    obtain ⟨ns, e1, rfl⟩ := Option.map_eq_some_iff.mp e
    have ex := intsD_rp h e1
    subst ex
    exact ⟨a, ns, rfl, ha, q _ S H (.val (.int _))⟩
  · cases e
end
end Pv
set_option maxRecDepth 100000
/-! PvG: isinstance; calls of the text's own defs. -/
namespace Pv
open PySem PySem.Spec L2

def tyD : PyData → String
  | .none => "NoneType"
  | .bool _ => "bool"
  | .int _ => "int"
  | .str _ => "str"
  | .list _ => "list"
  | .tuple _ => "tuple"
  | .dict _ => "dict"
theorem RT.ty {K : PySem.W.Frag} {S : AS} {H : Hp} {v : V} {d : PyData} (h : RT K S H v d) : TyX K H v (.type (tyD d)) := by
  cases d with
  | none => cases h.none; exact .base .non
  | bool b => cases h.bool; exact .base (.bl b)
  | int i => cases h.int; exact .base (.int i)
  | str x => cases h.str; exact .base (.str x)
  | list ds =>
    obtain ⟨a, xs, rfl, hs, _⟩ := h.list
    rcases hs with (hs | ⟨o, hs⟩) | ⟨o, its, n, e, c, _⟩
    · exact .base (.lst hs)
    · exact .base (.frz hs)
    · exact .kList e c
  | tuple ds => obtain ⟨a, xs, rfl, _, hs, _⟩ := h.tuple; exact .base (.tup hs)
  | dict ds =>
    obtain ⟨a, rfl, hs⟩ := h.dict
    rcases hs with ⟨kvs, es, e, _⟩ | ⟨kvs, es, e, _⟩
    · exact .base (.dT e)
    · exact .base (.dK e)
/-- isinstance, by the types' names -/
def isiD (d : PyData) (T : String) : Bool := tyD d == T || (T == "int" && tyD d == "bool")
def okT (T : String) : Bool := ["int", "bool", "str", "list", "tuple", "dict"].contains T
theorem isiD_ok : ∀ (d : PyData) (T : String), okT T = true → kitB (tyD d) T = some (isiD d T) := by
  have key : ∀ a ∈ ["NoneType", "bool", "int", "str", "list", "tuple", "dict"], ∀ T ∈ ["int", "bool", "str", "list", "tuple", "dict"], kitB a T = some (a == T || (T == "int" && a == "bool")) := by decide +kernel
  intro d T h
  have hT : T ∈ ["int", "bool", "str", "list", "tuple", "dict"] := by
    unfold okT at h
    rw [List.contains_iff_mem] at h
    exact h
  exact key (tyD d) (by cases d <;> simp [tyD]) T hT
def outI (T : String) (r : R) (ρ : Rho) : Out R := match deref ρ r with
  | some d => .ok (.val (.bool (isiD d T))) ρ
  | none => .bad
def fIsi (f : EF) (T : String) : EF := fun ρ => (f ρ).bind (outI T)
section
variable {X : Cx} {W : WX} {e : Expr} {te : TE} {f : EF} {pos p p2 p3 : Pos} {x y : Str} {T : String}
theorem se_isi (he : SE X W e te f) (hT : okT T = true) (hg : Gl X "isinstance") (hm : X.mg "isinstance" = none) (hgT : Gl X y) (hmT : X.mg y = none) (hvT : bootBuiltins y = some (.type T)) (hn : y ≠ "__name__" := by decide) (hd : (y == ("__debug__" : Str)) = false := by decide)
    (hs1 : starEach [e, .Name y p2] X.env = (false, eval e X.env) :: starEach [.Name y p2] X.env := by rfl) (hs2 : starEach [.Name y p2] X.env = (false, eval (.Name y p2) X.env) :: starEach [] X.env := by rfl)
    (hpl : (backTo pos (starEach [.Name y p2] X.env)).any (·.1) = false := by rfl) :
    SE X W (.Call (.Name "isinstance" p) [e, .Name y p2] [] pos) (tCB (rIsi X.K) (tCons te (tCons (tC (.ty T)) tNil))) (fIsi f T) := by
  refine ⟨pe_callB call_isi hg hm PyProof.Rows.boot_isinstance (pa_cons he.pe (pa_cons (pe_bltn hgT hmT hvT rfl hn hd) pa_nil hs2) hs1) (by decide) (by decide) hs1 hpl, fun F S H σ ρ Q hK fok er hp => ?_⟩
  refine he.go hK fok er (wE F W σ Q) hp fun r ρ1 v S1 H1 t1 er1 rr1 _ hp1 => ?_
  have hp1 : PostE F W S1 H1 σ ρ1 (outI T r ρ1) Q := hp1
  unfold outI at hp1
  cases qa : deref ρ1 r with
  | none => simp only [qa] at hp1; exact hp1.elim
  | some d =>
    simp only [qa] at hp1
    have rt := rr1.rt er1 qa
    rw [hK] at rt
    exact ⟨v, .ty T, _, _, _, rfl, .ty T, rt.ty, kit_ty (isiD_ok d T hT), hp1 _ S1 H1 .refl er1 (.bl _) trivial⟩
/-- isinstance(e, (T1, T2)) -/
def outI2 (T U : String) (r : R) (ρ : Rho) : Out R := match deref ρ r with
  | some d => .ok (.val (.bool (isiD d T || isiD d U))) ρ
  | none => .bad
def fIsi2 (f : EF) (T U : String) : EF := fun ρ => (f ρ).bind (outI2 T U)
theorem se_isi2 {U : String} {z : Str} {kk : Nat} {p4 p5 : Pos} (he : SE X W e te f) (hT : okT T = true) (hU : okT U = true) (hg : Gl X "isinstance") (hm : X.mg "isinstance" = none) (hgT : Gl X y) (hmT : X.mg y = none) (hvT : bootBuiltins y = some (.type T))
    (hgU : Gl X z) (hmU : X.mg z = none) (hvU : bootBuiltins z = some (.type U)) (hn : y ≠ "__name__" := by decide) (hd : (y == ("__debug__" : Str)) = false := by decide) (hn2 : z ≠ "__name__" := by decide) (hd2 : (z == ("__debug__" : Str)) = false := by decide)
    (hs1 : starEach [e, .Tuple [.Name y p2, .Name z p4] kk p5] X.env = (false, eval e X.env) :: starEach [.Tuple [.Name y p2, .Name z p4] kk p5] X.env := by rfl)
    (hs2 : starEach [.Tuple [.Name y p2, .Name z p4] kk p5] X.env = (false, eval (.Tuple [.Name y p2, .Name z p4] kk p5) X.env) :: starEach [] X.env := by rfl)
    (hs3 : starEach [.Name y p2, .Name z p4] X.env = (false, eval (.Name y p2) X.env) :: starEach [.Name z p4] X.env := by rfl) (hs4 : starEach [.Name z p4] X.env = (false, eval (.Name z p4) X.env) :: starEach [] X.env := by rfl)
    (hpl : (backTo pos (starEach [.Tuple [.Name y p2, .Name z p4] kk p5] X.env)).any (·.1) = false := by rfl) :
    SE X W (.Call (.Name "isinstance" p) [e, .Tuple [.Name y p2, .Name z p4] kk p5] [] pos) (tCB (rIsiT X.K) (tCons te (tCons (tTup (tCons (tC (.ty T)) (tCons (tC (.ty U)) tNil))) tNil))) (fIsi2 f T U) := by
  refine ⟨pe_callB call_isiT hg hm PyProof.Rows.boot_isinstance (pa_cons he.pe (pa_cons (pe_tup (pa_cons (pe_bltn hgT hmT hvT rfl hn hd) (pa_cons (pe_bltn hgU hmU hvU rfl hn2 hd2) pa_nil hs4) hs3)) pa_nil hs2) hs1) (by decide) (by decide) hs1 hpl, fun F S H σ ρ Q hK fok er hp => ?_⟩
  refine he.go hK fok er (wE F W σ Q) hp fun r ρ1 v S1 H1 t1 er1 rr1 _ hp1 => ?_
  have hp1 : PostE F W S1 H1 σ ρ1 (outI2 T U r ρ1) Q := hp1
  unfold outI2 at hp1
  cases qa : deref ρ1 r with
  | none => simp only [qa] at hp1; exact hp1.elim
  | some d =>
    simp only [qa] at hp1
    refine ⟨by show 2 ≤ sizeLine; decide, fun tp htp => ?_⟩
    have ta := Tr.alloc (S := S1) (σ := σ) (ρ := ρ1) (o := .tup [.ty T, .ty U]) htp
    have era := er1.alloc (o := .tup [.ty T, .ty U]) htp
    have rt := (rr1.tr er1 ta rfl).rt era qa
    rw [hK] at rt
    refine ⟨v, tp, [.ty T, .ty U], _, [.type T, .type U], isiD d T || isiD d U, rfl, upd_same, .cons (.ty T) (.cons (.ty U) .nil), rt.ty, ?_, hp1 _ S1 _ ta era (.bl _) trivial⟩
    refine kitAny_cons (kit_ty (isiD_ok d T hT)) (fun e1 => ?_) fun e1 => by rw [e1]; rfl
    rw [e1, Bool.false_or]
    refine kitAny_cons (kit_ty (isiD_ok d U hU)) (fun e2 => by rw [e2]; exact kitAny_nil) fun e2 => e2
end

/-! ### a def's contract at the pure level -/
inductive FOut where
  | ok (r : R) (m : Option MO)
  | ex (x : XV) (m : Option MO)
  | bad
abbrev FN := List Slot → FOut
def SlR (K : PySem.W.Frag) (S : AS) (H : Hp) (v : V) : Slot → Prop
  | .val d => Rp K S H v d
  | .lent m => ∃ a, v = .ref a ∧ S a ∧ MOk K S H a m
  | _ => False
inductive ArgsR (K : PySem.W.Frag) (S : AS) (H : Hp) : List V → List Slot → Prop
  | nil : ArgsR K S H [] []
  | cons {v : V} {vs : List V} {s : Slot} {ss : List Slot} : SlR K S H v s → ArgsR K S H vs ss → ArgsR K S H (v :: vs) (s :: ss)
/-- the place of the one lent argument -/
def LentA (vs : List V) (ss : List Slot) (a : Addr) : Prop := ∃ (i : Nat) (m : MO), ss[i]? = some (Slot.lent m) ∧ vs[i]? = some (V.ref a)
def oneLent : List Slot → Bool
  | [] => true
  | .lent _ :: ss => ss.all fun s => match s with | .lent _ => false | _ => true
  | _ :: ss => oneLent ss
structure CTr (vs : List V) (ss : List Slot) (S : AS) (H : Hp) (S' : AS) (H' : Hp) : Prop where
  off : ∀ b o, H b = some o → ¬ LentA vs ss b → H' b = some o
  new : ∀ a, S' a → S a ∨ H a = none
  old : ∀ a, S a → S' a
  dom : ∀ a, S' a → H' a ≠ none
  stay : ∀ a, H a ≠ none → H' a ≠ none
def LentR (K : PySem.W.Frag) (S : AS) (H : Hp) (vs : List V) (ss : List Slot) (m : Option MO) : Prop := ∀ a, LentA vs ss a → ∃ m', m = some m' ∧ MOk K S H a m'
def RRc (K : PySem.W.Frag) (H : Hp) (S' : AS) (H' : Hp) (v : V) : R → Prop
  | .val d => Rp K S' H' v d
  | .own m => ∃ a, v = .ref a ∧ S' a ∧ H a = none ∧ MOk K S' H' a m
  | .slot _ => False
def XRc (K : PySem.W.Frag) (S : AS) (H : Hp) (x : XV) (cls : Value) (dx : Option Addr) : Prop := XR ⟨K, fun _ => none, fun _ => False, fun _ => none⟩ S H x cls dx
def spF (K : PySem.W.Frag) (n : Nat) (Fn : FN) : Sp := fun vs H Q E => ∃ (S : AS) (ss : List Slot), ss.length = n ∧ ArgsR K S H vs ss ∧ oneLent ss = true ∧ (∀ a, S a → H a ≠ none) ∧ match Fn ss with
  | .ok r m => ∀ v S' H', CTr vs ss S H S' H' → LentR K S' H' vs ss m → RRc K H S' H' v r → Q v H'
  | .ex x m => ∀ cls dx S' H', CTr vs ss S H S' H' → LentR K S' H' vs ss m → XRc K S' H' x cls dx → E cls dx H'
  | .bad => False
theorem ArgsR.length {K : PySem.W.Frag} {S : AS} {H : Hp} : ∀ {vs : List V} {ss : List Slot}, ArgsR K S H vs ss → vs.length = ss.length
  | _, _, .nil => rfl
  | _, _, .cons _ h => by rw [List.length_cons, List.length_cons, h.length]
theorem spF_len {K : PySem.W.Frag} {n : Nat} {Fn : FN} : ∀ vs H Q E, spF K n Fn vs H Q E → vs.length = n := fun vs H Q E h => by
  obtain ⟨S, ss, e, h, _⟩ := h
  rw [h.length, e]
theorem ArgsR.get {K : PySem.W.Frag} {S : AS} {H : Hp} : ∀ {vs : List V} {ss : List Slot} {i : Nat} {s : Slot}, ArgsR K S H vs ss → ss[i]? = some s → ∃ v, vs[i]? = some v ∧ SlR K S H v s
  | _, _, _, _, .nil, e => by simp at e
  | _, _, 0, _, .cons h _, e => by simp at e; subst e; exact ⟨_, rfl, h⟩
  | _, _, i + 1, _, .cons _ hs, e => by
    obtain ⟨v, h1, h2⟩ := ArgsR.get (i := i) hs (by simpa using e)
    exact ⟨v, by simpa using h1, h2⟩
theorem oneLent_none : ∀ {ss : List Slot}, (ss.all fun s => match s with | .lent _ => false | _ => true) = true → oneLent ss = true
  | [], _ => rfl
  | .lent _ :: ss, h => by
    rw [List.all_cons, Bool.and_eq_true] at h
    cases h.1
  | .no :: ss, h => by
    rw [List.all_cons, Bool.and_eq_true] at h
    exact oneLent_none (ss := ss) h.2
  | .val _ :: ss, h => by
    rw [List.all_cons, Bool.and_eq_true] at h
    exact oneLent_none (ss := ss) h.2
  | .own _ :: ss, h => by
    rw [List.all_cons, Bool.and_eq_true] at h
    exact oneLent_none (ss := ss) h.2
theorem oneLent_tail : ∀ {s : Slot} {ss : List Slot}, oneLent (s :: ss) = true → oneLent ss = true
  | .lent _, ss, h => oneLent_none h
  | .no, _, h => h
  | .val _, _, h => h
  | .own _, _, h => h
theorem oneLent_inj : ∀ {ss : List Slot} {i j : Nat} {m m' : MO}, oneLent ss = true → ss[i]? = some (.lent m) → ss[j]? = some (.lent m') → i = j
  | [], i, _, _, _, _, h, _ => by simp at h
  | s :: ss, 0, 0, _, _, _, _, _ => rfl
  | s :: ss, 0, j + 1, m, m', h, h1, h2 => by
    simp at h1
    subst h1
    have h : (ss.all fun s => match s with | .lent _ => false | _ => true) = true := h
    have h3 := List.all_eq_true.mp h _ (List.mem_of_getElem? (show ss[j]? = some (.lent m') by simpa using h2))
    cases h3
  | s :: ss, i + 1, 0, m, m', h, h1, h2 => by
    simp at h2
    subst h2
    have h : (ss.all fun s => match s with | .lent _ => false | _ => true) = true := h
    have h3 := List.all_eq_true.mp h _ (List.mem_of_getElem? (show ss[i]? = some (.lent m) by simpa using h1))
    cases h3
  | s :: ss, i + 1, j + 1, m, m', h, h1, h2 => by
    rw [oneLent_inj (oneLent_tail h) (show ss[i]? = some (.lent m) by simpa using h1) (show ss[j]? = some (.lent m') by simpa using h2)]

/-! ### the call -/
/-- an argument: a slot's own thing is lent, all else is given away -/
def argOf (r : R) (ρ : Rho) : Option (R × Rho) := match r with
  | .val d => some (.val d, ρ)
  | .own m => some (.val m.data, ρ)
  | .slot i => some (.slot i, ρ)
def cCons (fa : EF) (fr : RF) : RF := fun ρ => (fa ρ).bind fun r ρ1 => match argOf r ρ1 with
  | some (r', ρ1) => (fr ρ1).bind fun rs ρ2 => .ok (r' :: rs) ρ2
  | none => .bad
structure SAc (X : Cx) (W : WX) (es : List Expr) (t : TA) (f : RF) : Prop where
  pa : PA X es t
  sn : ∀ (F : Fx) (S : AS) (H : Hp) (σ : St) (ρ : Rho) (Q : List V → Hp → Prop), F.K = X.K → F.Ok → ER F S H σ ρ → PostR F W S H σ ρ (f ρ) (fun vs H => Q vs H) → t σ H Q
  ln : ∀ ρ rs ρ', f ρ = .ok rs ρ' → rs.length = es.length
section
variable {X : Cx} {W : WX} {e : Expr} {es : List Expr} {te : TE} {t : TA} {f : EF} {fr : RF}
theorem sc_nil : SAc X W [] tNil rNil := ⟨pa_nil, fun F S H σ ρ Q _ _ er hp => hp [] S H .refl er .nil, fun ρ rs ρ' e => by cases e; rfl⟩
theorem sc_cons (ha : SE X W e te f) (hr : SAc X W es t fr) (hs : starEach (e :: es) X.env = (false, eval e X.env) :: starEach es X.env := by rfl) : SAc X W (e :: es) (tCons te t) (cCons f fr) := by
  refine ⟨pa_cons ha.pe hr.pa hs, fun F S H σ ρ Q hK fok er hp => ?_, fun ρ rs ρ' eq => ?_⟩
  · -- as a step with its result given away, where it is not a slot's
    have fin : ∀ (r' : R) (ρ1 : Rho) (v : V) (S1 : AS) (H1 : Hp), Tr S H σ ρ S1 H1 ρ1 → ER F S1 H1 σ ρ1 → RR F S1 H1 σ ρ1 v r' → PostR F W S1 H1 σ ρ1 ((fr ρ1).bind fun rs ρ2 => .ok (r' :: rs) ρ2) Q → t σ H1 (fun xs H2 => Q (v :: xs) H2) := by
      intro r' ρ1 v S1 H1 t1 er1 rr1 hp1
      refine hr.sn F S1 H1 σ ρ1 _ hK fok er1 ?_
      cases q : fr ρ1 with
      | ok rs ρ2 =>
        rw [q] at hp1
        exact fun vs S2 H2 t2 er2 rr2 => hp1 (v :: vs) S2 H2 t2 er2 (.cons (rr1.tr er1 t2 (er2.len.trans er1.len.symm)) rr2)
      | ex x ρ2 => rw [q] at hp1; exact hp1
      | bad => rw [q] at hp1; exact hp1
    refine ha.sn F S H σ ρ _ hK fok er ?_
    unfold cCons at hp
    cases q : f ρ with
    | ex x ρ1 => rw [q] at hp; exact hp
    | bad => rw [q] at hp; exact hp
    | ok r ρ1 =>
      rw [q] at hp
      intro v S1 H1 t1 er1 rr1 fr1
      cases r with
      | val d =>
        have hp : PostR F W S H σ ρ ((fr ρ1).bind fun rs ρ2 => .ok (.val d :: rs) ρ2) Q := hp
        exact fin _ _ v S1 H1 t1 er1 rr1 (hp.shift er t1)
      | slot i =>
        have hp : PostR F W S H σ ρ ((fr ρ1).bind fun rs ρ2 => .ok (.slot i :: rs) ρ2) Q := hp
        exact fin _ _ v S1 H1 t1 er1 rr1 (hp.shift er t1)
      | own m =>
        have hp : PostR F W S H σ ρ ((fr ρ1).bind fun rs ρ2 => .ok (.val m.data :: rs) ρ2) Q := hp
        obtain ⟨S2, t2, er2, rp, _, _⟩ := freeze_ok (d := m.data) (ρ2 := ρ1) er t1 er1 rr1 fr1 rfl fok
        exact fin (.val m.data) _ v S2 H1 t2 er2 rp (hp.shift er t2)
  · unfold cCons at eq
    cases q : f ρ with
    | ex x ρ1 => rw [q] at eq; cases eq
    | bad => rw [q] at eq; cases eq
    | ok r0 ρ1 =>
      rw [q] at eq
      have fin : ∀ (r' : R), ((fr ρ1).bind fun rs ρ2 => Out.ok (r' :: rs) ρ2) = .ok rs ρ' → rs.length = (e :: es).length := by
        intro r' h
        cases q2 : fr ρ1 with
        | ex x ρ1 => rw [q2] at h; cases h
        | bad => rw [q2] at h; cases h
        | ok rs2 ρ2 =>
          rw [q2] at h
          cases h
          rw [List.length_cons, List.length_cons, hr.ln _ _ _ q2]
      cases r0 with
      | val d => exact fin (.val d) eq
      | own m' => exact fin (.val m'.data) eq
      | slot i => exact fin (.slot i) eq
end
/-- the callee's slots -/
def slotOf (ρ : Rho) : R → Option Slot
  | .val d => some (.val d)
  | .own _ => none
  | .slot i => (match ρ[i]? with
    | some (.val d) => some (.val d)
    | some (.own m) => some (.lent m)
    | some (.lent m) => some (.lent m)
    | _ => none)
def callSlots (ρ : Rho) : List R → Option (List Slot)
  | [] => some []
  | r :: rs => match slotOf ρ r, callSlots ρ rs with
    | some s, some ss => some (s :: ss)
    | _, _ => none
/-- the slot that is lent -/
def lentIx : List R → List Slot → Option Nat
  | .slot j :: _, .lent _ :: _ => some j
  | _ :: rs, _ :: ss => lentIx rs ss
  | _, _ => none
/-- .. takes the thing back -/
def backSlots (ρ : Rho) (rs : List R) (ss : List Slot) (m : Option MO) : Option Rho := match lentIx rs ss with
  | none => some ρ
  | some j => match m, ρ[j]? with
    | some m, some s => some (ρ.set j (s.put m))
    | _, _ => none
def outF (Fn : FN) (rs : List R) (ρ : Rho) : Out R := match callSlots ρ rs with
  | some ss => if oneLent ss = true then (match Fn ss with
    | .ok r m => (match backSlots ρ rs ss m with
      | some ρ' => (match r with
        | .slot _ => .bad
        | r => .ok r ρ')
      | none => .bad)
    | .ex x m => (match backSlots ρ rs ss m with
      | some ρ' => .ex x ρ'
      | none => .bad)
    | .bad => .bad) else .bad
  | none => .bad
def fCall (Fn : FN) (fr : RF) : EF := fun ρ => (fr ρ).bind (outF Fn)

theorem callSlots_cons {ρ : Rho} {r : R} {rs : List R} {ss : List Slot} (h : callSlots ρ (r :: rs) = some ss) : ∃ s ss', ss = s :: ss' ∧ slotOf ρ r = some s ∧ callSlots ρ rs = some ss' := by
  unfold callSlots at h
  cases q1 : slotOf ρ r with
  | none => simp [q1] at h
  | some s =>
    cases q2 : callSlots ρ rs with
    | none => simp [q1, q2] at h
    | some ss' =>
      simp only [q1, q2, Option.some.injEq] at h
      exact ⟨s, ss', h.symm, rfl, rfl⟩
section
variable {F : Fx} {S S' : AS} {H H' : Hp} {σ : St} {ρ ρ' : Rho}
theorem RRs.length : ∀ {vs : List V} {rs : List R}, RRs F S H σ ρ vs rs → vs.length = rs.length
  | _, _, .nil => rfl
  | _, _, .cons _ h => by rw [List.length_cons, List.length_cons, h.length]
theorem slotOf_lent {r : R} {m : MO} (h : slotOf ρ r = some (.lent m)) : ∃ i s, r = .slot i ∧ ρ[i]? = some s ∧ s.mo = some m := by
  cases r with
  | val d => cases h
  | own m' => cases h
  | slot i =>
    unfold slotOf at h
    cases q : ρ[i]? with
    | none => simp [q] at h
    | some s =>
      cases s with
      | no => simp [q] at h
      | val d => simp [q] at h
      | own m' =>
        simp only [q, Option.some.injEq, Slot.lent.injEq] at h
        subst h
        exact ⟨i, _, rfl, q, rfl⟩
      | lent m' =>
        simp only [q, Option.some.injEq, Slot.lent.injEq] at h
        subst h
        exact ⟨i, _, rfl, q, rfl⟩
theorem call_args (er : ER F S H σ ρ) : ∀ {rs : List R} {ss : List Slot} {vs : List V}, callSlots ρ rs = some ss → RRs F S H σ ρ vs rs → ArgsR F.K S H vs ss
  | [], ss, _, h, .nil => by cases h; exact .nil
  | r :: rs, ss, _, h, .cons (v := v) hr hrs => by
    obtain ⟨s, ss', rfl, h1, h2⟩ := callSlots_cons h
    refine .cons ?_ (call_args er h2 hrs)
    cases r with
    | val d => cases h1; exact hr
    | own m => cases h1
    | slot i =>
      unfold slotOf at h1
      cases q : ρ[i]? with
      | none => simp [q] at h1
      | some s0 =>
        have z := er.at_ i s0 q
        cases s0 with
        | no => simp [q] at h1
        | val d =>
          simp only [q, Option.some.injEq] at h1
          subst h1
          obtain ⟨x, e, z⟩ := z
          rw [hr.1] at e; cases e
          exact z
        | own m =>
          simp only [q, Option.some.injEq] at h1
          subst h1
          obtain ⟨a, e, s, _, z⟩ := z
          rw [hr.1] at e; cases e
          exact ⟨a, rfl, s, z⟩
        | lent m =>
          simp only [q, Option.some.injEq] at h1
          subst h1
          obtain ⟨a, e, _, s, z⟩ := z
          rw [hr.1] at e; cases e
          exact ⟨a, rfl, s, z⟩
theorem lentIx_skip {r : R} {s : Slot} {rs : List R} {ss : List Slot} (h : ∀ m, s ≠ .lent m) : lentIx (r :: rs) (s :: ss) = lentIx rs ss := by
  cases s with
  | lent m => exact absurd rfl (h m)
  | no => cases r <;> rfl
  | val d => cases r <;> rfl
  | own m => cases r <;> rfl
theorem call_lent : ∀ {rs : List R} {ss : List Slot} {vs : List V}, callSlots ρ rs = some ss → RRs F S H σ ρ vs rs → oneLent ss = true →
    (∀ a, LentA vs ss a → ∃ j s m, lentIx rs ss = some j ∧ ρ[j]? = some s ∧ s.mo = some m ∧ σ[j]? = some (some (.ref a))) ∧
    (∀ j, lentIx rs ss = some j → ∃ s m, ρ[j]? = some s ∧ s.mo = some m ∧ ∀ a, σ[j]? = some (some (.ref a)) → LentA vs ss a)
  | [], ss, _, h, .nil, _ => by
    cases h
    refine ⟨fun a ⟨i, m, e, _⟩ => by simp at e, fun j e => by cases e⟩
  | r :: rs, ss, _, h, .cons (v := v) (vs := vs) hr hrs, ho => by
    obtain ⟨s, ss', rfl, h1, h2⟩ := callSlots_cons h
    by_cases hs : ∃ m, s = .lent m
    · obtain ⟨m, rfl⟩ := hs
      obtain ⟨i, s, rfl, e, em⟩ := slotOf_lent h1
      have ei : lentIx (.slot i :: rs) (.lent m :: ss') = some i := rfl
      refine ⟨fun a ⟨k, m', e1, e2⟩ => ?_, fun j ej => ?_⟩
      · have k0 : k = 0 := oneLent_inj ho e1 (show (Slot.lent m :: ss')[0]? = some (.lent m) from rfl)
        subst k0
        have ev : v = .ref a := by simpa using e2
        subst ev
        exact ⟨i, s, m, ei, e, em, hr.1⟩
      · rw [ei] at ej
        cases ej
        refine ⟨s, m, e, em, fun a ea => ⟨0, m, rfl, ?_⟩⟩
        have := hr.1
        rw [ea] at this
        cases this
        rfl
    · have hs' : ∀ m, s ≠ .lent m := fun m z => hs ⟨m, z⟩
      obtain ⟨i1, i2⟩ := call_lent h2 hrs (oneLent_tail ho)
      refine ⟨fun a ⟨k, m', e1, e2⟩ => ?_, fun j ej => ?_⟩
      · cases k with
        | zero =>
          simp at e1
          exact absurd e1 (hs' m')
        | succ k =>
          obtain ⟨j, s2, m2, a1, a2⟩ := i1 a ⟨k, m', by simpa using e1, by simpa using e2⟩
          exact ⟨j, s2, m2, by rw [lentIx_skip hs']; exact a1, a2⟩
      · rw [lentIx_skip hs'] at ej
        obtain ⟨s2, m2, a1, a2, a3⟩ := i2 j ej
        refine ⟨s2, m2, a1, a2, fun a ea => ?_⟩
        obtain ⟨k, m', e1, e2⟩ := a3 a ea
        exact ⟨k + 1, m', by simpa using e1, by simpa using e2⟩
/-- behind the call: the slots again -/
theorem call_back (er : ER F S H σ ρ) (fok : F.Ok) {rs : List R} {ss : List Slot} {vs : List V} (h : callSlots ρ rs = some ss) (hr : RRs F S H σ ρ vs rs) (ho : oneLent ss = true) {m : Option MO} (c : CTr vs ss S H S' H') (l : LentR F.K S' H' vs ss m)
    (hb : backSlots ρ rs ss m = some ρ') : Tr S H σ ρ S' H' ρ' ∧ ER F S' H' σ ρ' ∧ ρ'.length = ρ.length := by
  obtain ⟨i1, i2⟩ := call_lent h hr ho
  have lentMut : ∀ a, LentA vs ss a → ∃ j, MutAt σ ρ j a ∧ lentIx rs ss = some j := fun a z => by
    obtain ⟨j, s, m', a1, a2, a3, a4⟩ := i1 a z
    refine ⟨j, ⟨⟨m', ?_⟩, a4⟩, a1⟩
    rcases Slot.mo_cases a3 with q | q <;> subst q
    · exact .inl a2
    · exact .inr a2
  have offS : ∀ b o, H b = some o → ¬ S b → H' b = some o := fun b o e n => c.off b o e fun z => by
    obtain ⟨j, hm, _⟩ := lentMut b z
    exact n (er.mutS hm)
  have frOk : ∀ b o, F.H0 b = some o → ¬ F.lentA b → H' b = some o := fun b o e n => c.off b o (er.fr b o e n) fun z => by
    obtain ⟨j, ⟨⟨m', hm⟩, hσ⟩, _⟩ := lentMut b z
    rcases hm with hm | hm
    · obtain ⟨a, ea, _, f, _⟩ := er.at_ j _ hm
      rw [hσ] at ea; cases ea
      rw [f] at e; cases e
    · obtain ⟨a, ea, f, _⟩ := er.at_ j _ hm
      rw [hσ] at ea; cases ea
      exact n ⟨j, f⟩
  -- a slot that isn't lent
  have keepS : ∀ i s, lentIx rs ss ≠ some i → ρ[i]? = some s → SR F S' H' i σ[i]? s := fun i s ni e => by
    have z := er.at_ i s e
    have nl : ∀ a, MutAt σ ρ i a → ¬ LentA vs ss a := fun a hm q => by
      obtain ⟨j, hm2, hj⟩ := lentMut a q
      exact ni (by rw [hj, er.dj i j a hm hm2])
    cases s with
    | no => trivial
    | val d => obtain ⟨x, e1, z⟩ := z; exact ⟨x, e1, z.mono offS c.new⟩
    | own m' => obtain ⟨a, e1, sa, f, z⟩ := z; exact ⟨a, e1, c.old a sa, f, z.mono offS c.new fun o q => c.off a o q (nl a ⟨⟨m', .inl e⟩, e1⟩)⟩
    | lent m' => obtain ⟨a, e1, f, sa, z⟩ := z; exact ⟨a, e1, f, c.old a sa, z.mono offS c.new fun o q => c.off a o q (nl a ⟨⟨m', .inr e⟩, e1⟩)⟩
  have offM : ∀ b o, H b = some o → (∀ i, ¬ MutAt σ ρ i b) → H' b = some o := fun b o e n => c.off b o e fun z => by
    obtain ⟨j, hm, _⟩ := lentMut b z
    exact n j hm
  unfold backSlots at hb
  cases q : lentIx rs ss with
  | none =>
    simp only [q] at hb
    cases hb
    exact ⟨⟨offM, c.new, fun a sa _ => c.old a sa, fun _ _ z => z, c.stay⟩, ⟨er.len, fun i s e => keepS i s (by rw [q]; exact fun z => nomatch z) e, er.dj, fun a z => c.old a (er.sub a z), c.dom, frOk, er.lt⟩, rfl⟩
  | some j =>
    obtain ⟨s, m0, e, em, lj⟩ := i2 j q
    cases m with
    | none => simp [q] at hb
    | some m1 =>
      simp only [q, e] at hb
      cases hb
      obtain ⟨a, ea, sa, fa, ok, hm⟩ := er.mo e em
      obtain ⟨m', em', ok'⟩ := l a (lj a ea)
      cases em'
      have hj : j < ρ.length := (List.getElem?_eq_some_iff.mp e).1
      have mu : ∀ i b, MutAt σ (ρ.set j (s.put m1)) i b → MutAt σ ρ i b := (Tr.write (S := S) (H := H) (o := .lst []) hm (by rcases Slot.mo_cases em with z | z <;> (subst z; exact fun z => nomatch z))).mu
      refine ⟨⟨offM, c.new, fun b sb _ => c.old b sb, mu, c.stay⟩, ⟨by rw [List.length_set]; exact er.len, fun i t et => ?_, fun i k b y z => er.dj i k b (mu i b y) (mu k b z), fun b z => c.old b (er.sub b z), c.dom, frOk, er.putLt e em⟩, List.length_set⟩
      by_cases hi : i = j
      · subst hi
        rw [List.getElem?_set_self hj] at et
        cases et
        have z := er.at_ i s e
        rcases Slot.mo_cases em with w | w <;> subst w
        · obtain ⟨b, eb, sb, fb, _⟩ := z
          rw [ea] at eb; cases eb
          exact ⟨a, ea, c.old a sb, fb, ok'⟩
        · obtain ⟨b, eb, fb, sb, _⟩ := z
          rw [ea] at eb; cases eb
          exact ⟨a, ea, fb, c.old a sb, ok'⟩
      · rw [List.getElem?_set_ne (Ne.symm hi)] at et
        exact keepS i t (by rw [q]; exact fun z => hi (Option.some.inj z).symm) et
end
section
variable {X : Cx} {W : WX} {e : Expr} {es : List Expr} {t : TA} {fr : RF} {k n : Nat} {f : Addr} {fd : FuncData} {ps : List Str} {Fn : FN} {x : Str} {p pos : Pos}
theorem se_call (G : FnOk X.prog X.w X.K X.mg X.base (L2.CX X.prog X.w) k f fd ps (spF X.K n Fn)) (hr : Room k X.A) (tk : Takes X W) (hg : Gl X x) (hm : X.mg x = some (.ref f)) (hk : PySem.W.keepIn X.K (.ref f) = true) (hb : Binds X.K fd ps [])
    (ha : SAc X W (e :: es) t fr) (hn : (e :: es).length = n := by rfl) (hdb : (x == ("__debug__" : Str)) = false := by decide) (he : starEach (e :: es) X.env = (false, eval e X.env) :: starEach es X.env := by rfl) (hpl : (backTo pos (starEach es X.env)).any (·.1) = false := by rfl) :
    SE X W (.Call (.Name x p) (e :: es) [] pos) (tCallS (spF X.K n Fn) (WE W) t) (fCall Fn fr) := by
  refine ⟨pe_callS G hr hg hm hk hb (passAt tk) ha.pa hdb he hpl, fun F S H σ ρ Q hK fok er hp => ?_⟩
  refine ha.sn F S H σ ρ _ hK fok er ?_
  unfold fCall at hp
  cases q : fr ρ with
  | ex x ρ1 => rw [q] at hp; exact hp
  | bad => rw [q] at hp; exact hp
  | ok rs ρ1 =>
    rw [q] at hp
    intro vs S1 H1 t1 er1 rr1
    have hp1 : PostE F W S1 H1 σ ρ1 (outF Fn rs ρ1) Q := PostE.shift er t1 hp
    unfold outF at hp1
    cases qs : callSlots ρ1 rs with
    | none => simp only [qs] at hp1; exact hp1.elim
    | some ss =>
      simp only [qs] at hp1
      by_cases ho : oneLent ss = true
      · rw [if_pos ho] at hp1
        have ar := call_args er1 qs rr1
        have lss : ss.length = n := by
          rw [← ar.length, ← hn, ← ha.ln _ _ _ q]
          exact rr1.length
        refine ⟨S1, ss, lss, by rw [← hK]; exact ar, ho, er1.dom, ?_⟩
        cases qf : Fn ss with
        | bad => simp only [qf] at hp1; exact hp1.elim
        | ex x m =>
          simp only [qf] at hp1
          cases qb : backSlots ρ1 rs ss m with
          | none => simp only [qb] at hp1; exact hp1.elim
          | some ρ2 =>
            simp only [qb] at hp1
            intro cls dx S' H' c l xr
            rw [← hK] at l xr
            obtain ⟨t2, er2, _⟩ := call_back er1 fok qs rr1 ho c l qb
            exact hp1 cls dx S' H' t2 er2 xr
        | ok r m =>
          simp only [qf] at hp1
          cases qb : backSlots ρ1 rs ss m with
          | none => simp only [qb] at hp1; exact hp1.elim
          | some ρ2 =>
            simp only [qb] at hp1
            intro v S' H' c l rc
            rw [← hK] at l rc
            obtain ⟨t2, er2, _⟩ := call_back er1 fok qs rr1 ho c l qb
            cases r with
            | slot i => exact rc.elim
            | val d => exact hp1 v S' H' t2 er2 rc trivial
            | own m' =>
              obtain ⟨a, rfl, sa, na, ok⟩ := rc
              have nS : ¬ S1 a := fun z => er1.dom a z na
              refine hp1 _ S' H' t2 er2 ⟨a, rfl, sa, ?_, ok, fun i z => nS (er1.mutS (t2.mu i a z))⟩ fun b e => by cases e; exact na
              cases q0 : F.H0 a with
              | none => rfl
              | some o =>
                exfalso
                by_cases ll : F.lentA a
                · obtain ⟨i, ll⟩ := ll
                  exact nS (er1.sub a (fok.lent i a ll))
                · have := er1.fr a o q0 ll
                  rw [na] at this; cases this
      · rw [if_neg ho] at hp1
        exact hp1.elim
end
end Pv
set_option maxRecDepth 100000
/-! PvH: statements, loops, a def's body. -/
namespace Pv
open PySem PySem.Spec L2

inductive SO where
  | nx (ρ : Rho)
  | rt (r : R) (ρ : Rho)
  | bk (ρ : Rho)
  | ct (ρ : Rho)
  | ex (x : XV) (ρ : Rho)
  | bad
abbrev SF := Rho → SO
structure TrS (S : AS) (H : Hp) (S' : AS) (H' : Hp) : Prop where
  off : ∀ b o, H b = some o → ¬ S b → H' b = some o
  new : ∀ a, S' a → S a ∨ H a = none
  stay : ∀ a, H a ≠ none → H' a ≠ none
theorem TrS.refl {S : AS} {H : Hp} : TrS S H S H := ⟨fun _ _ e _ => e, fun _ h => .inl h, fun _ h => h⟩
theorem TrS.trans {S S1 S2 : AS} {H H1 H2 : Hp} (t : TrS S H S1 H1) (u : TrS S1 H1 S2 H2) : TrS S H S2 H2 where
  off := fun b o e n => u.off b o (t.off b o e n) fun z => by
    rcases t.new b z with z | z
    · exact n z
    · rw [e] at z; cases z
  new := fun a h => by
    rcases u.new a h with h | h
    · exact t.new a h
    · cases q : H a with
      | none => exact .inr rfl
      | some o => exact absurd h (t.stay a (by rw [q]; exact fun z => nomatch z))
  stay := fun a h => u.stay a (t.stay a h)
theorem Tr.s {F : Fx} {S S' : AS} {H H' : Hp} {σ : St} {ρ ρ' : Rho} (er : ER F S H σ ρ) (t : Tr S H σ ρ S' H' ρ') : TrS S H S' H' := ⟨t.offS er, t.new, t.stay⟩
theorem Rp.trS {K : PySem.W.Frag} {S S' : AS} {H H' : Hp} {v : V} {d : PyData} (h : Rp K S H v d) (t : TrS S H S' H') : Rp K S' H' v d := h.mono t.off t.new
theorem RpA.trS {K : PySem.W.Frag} {S S' : AS} {H H' : Hp} {v : List V} {d : List PyData} (h : RpA K S H v d) (t : TrS S H S' H') : RpA K S' H' v d := h.mono t.off t.new
def PostS (F : Fx) (W : WX) (S : AS) (H : Hp) (o : SO) (D : Ends) : Prop := match o with
  | .nx ρ' => ∀ σ' S' H', TrS S H S' H' → ER F S' H' σ' ρ' → D.nx σ' H'
  | .rt r ρ' => ∀ v σ' S' H', TrS S H S' H' → ER F S' H' σ' ρ' → RR F S' H' σ' ρ' v r → D.rt v H'
  | .bk ρ' => ∀ σ' S' H', TrS S H S' H' → ER F S' H' σ' ρ' → D.bk σ' H'
  | .ct ρ' => ∀ σ' S' H', TrS S H S' H' → ER F S' H' σ' ρ' → D.ct σ' H'
  | .ex x ρ' => ∀ cls dx σ' S' H', TrS S H S' H' → ER F S' H' σ' ρ' → XR F S' H' x cls dx → W cls dx σ' H'
  | .bad => False
theorem PostS.shift {F : Fx} {W : WX} {S S1 : AS} {H H1 : Hp} {D : Ends} (t : TrS S H S1 H1) {o : SO} (h : PostS F W S H o D) : PostS F W S1 H1 o D := by
  cases o with
  | nx ρ' => exact fun σ' S' H' t' er => h σ' S' H' (t.trans t') er
  | rt r ρ' => exact fun v σ' S' H' t' er rr => h v σ' S' H' (t.trans t') er rr
  | bk ρ' => exact fun σ' S' H' t' er => h σ' S' H' (t.trans t') er
  | ct ρ' => exact fun σ' S' H' t' er => h σ' S' H' (t.trans t') er
  | ex x ρ' => exact fun cls dx σ' S' H' t' er xr => h cls dx σ' S' H' (t.trans t') er xr
  | bad => exact h
structure SS (X : Cx) (W : WX) (st : Stmt) (t : TS) (g : SF) : Prop where
  ps : PS X st t
  sn : ∀ (F : Fx) (S : AS) (H : Hp) (σ : St) (ρ : Rho) (D : Ends), F.K = X.K → F.Ok → ER F S H σ ρ → PostS F W S H (g ρ) D → t D σ H
structure SSs (X : Cx) (W : WX) (st : List Stmt) (t : TS) (g : SF) : Prop where
  ps : PSs X st t
  sn : ∀ (F : Fx) (S : AS) (H : Hp) (σ : St) (ρ : Rho) (D : Ends), F.K = X.K → F.Ok → ER F S H σ ρ → PostS F W S H (g ρ) D → t D σ H
/-- an expression's outcome, then a statement's -/
def toS {α : Type} (o : Out α) (k : α → Rho → SO) : SO := match o with
  | .ok a ρ => k a ρ
  | .ex x ρ => .ex x ρ
  | .bad => .bad
def toSF (o : Out R) (k : PyData → Rho → SO) : SO := match o with
  | .ok r ρ => match freeze ρ r with
    | some (d, ρ') => k d ρ'
    | none => .bad
  | .ex x ρ => .ex x ρ
  | .bad => .bad
section
variable {X : Cx} {W : WX} {e c : Expr} {te : TE} {tA : TT} {f : EF} {gA : TF} {F : Fx} {S : AS} {H : Hp} {σ : St} {ρ : Rho} {D : Ends}
theorem SE.goS (h : SE X W e te f) (hK : F.K = X.K) (fok : F.Ok) (er : ER F S H σ ρ) {k : R → Rho → SO} (hp : PostS F W S H (toS (f ρ) k) D) {Q : VK}
    (hk : ∀ r ρ1 v S1 H1, Tr S H σ ρ S1 H1 ρ1 → ER F S1 H1 σ ρ1 → RR F S1 H1 σ ρ1 v r → Frsh H v r → PostS F W S1 H1 (k r ρ1) D → Q v H1) : te σ H Q := by
  refine h.sn F S H σ ρ Q hK fok er ?_
  cases q : f ρ with
  | ok r ρ1 =>
    rw [q] at hp
    exact fun v S1 H1 t1 er1 rr fr => hk r ρ1 v S1 H1 t1 er1 rr fr (hp.shift (t1.s er))
  | ex x ρ1 =>
    rw [q] at hp
    exact fun cls dx S1 H1 t1 er1 xr => hp cls dx σ S1 H1 (t1.s er) er1 xr
  | bad =>
    rw [q] at hp
    exact hp
theorem SE.goSF (h : SE X W e te f) (hK : F.K = X.K) (fok : F.Ok) (er : ER F S H σ ρ) {k : PyData → Rho → SO} (hp : PostS F W S H (toSF (f ρ) k) D) {Q : VK}
    (hk : ∀ d ρ2 v S2 H1, Tr S H σ ρ S2 H1 ρ2 → ER F S2 H1 σ ρ2 → Rp F.K S2 H1 v d → PostS F W S2 H1 (k d ρ2) D → Q v H1) : te σ H Q := by
  refine h.sn F S H σ ρ Q hK fok er ?_
  cases q : f ρ with
  | ok r ρ1 =>
    rw [q] at hp
    intro v S1 H1 t1 er1 rr fr
    unfold toSF at hp
    cases z : freeze ρ1 r with
    | none =>
      simp only [z] at hp
      exact hp.elim
    | some p =>
      obtain ⟨d, ρ2⟩ := p
      simp only [z] at hp
      obtain ⟨S2, t2, er2, rp, _, _⟩ := freeze_ok er t1 er1 rr fr z fok
      exact hk d ρ2 v S2 H1 t2 er2 rp (hp.shift (t2.s er))
  | ex x ρ1 =>
    rw [q] at hp
    exact fun cls dx S1 H1 t1 er1 xr => hp cls dx σ S1 H1 (t1.s er) er1 xr
  | bad =>
    rw [q] at hp
    exact hp
theorem ST.goS (h : ST X W e tA gA) (hK : F.K = X.K) (fok : F.Ok) (er : ER F S H σ ρ) {k : Bool → Rho → SO} (hp : PostS F W S H (toS (gA ρ) k) D) {Q : Bool → Hp → Prop}
    (hk : ∀ b ρ1 S1 H1, Tr S H σ ρ S1 H1 ρ1 → ER F S1 H1 σ ρ1 → PostS F W S1 H1 (k b ρ1) D → Q b H1) : tA σ H Q := by
  refine h.sn F S H σ ρ Q hK fok er ?_
  cases q : gA ρ with
  | ok b ρ1 =>
    rw [q] at hp
    exact fun S1 H1 t1 er1 => hk b ρ1 S1 H1 t1 er1 (hp.shift (t1.s er))
  | ex x ρ1 =>
    rw [q] at hp
    exact fun cls dx S1 H1 t1 er1 xr => hp cls dx σ S1 H1 (t1.s er) er1 xr
  | bad =>
    rw [q] at hp
    exact hp
end

/-! ### blocks -/
section
variable {X : Cx} {W : WX} {st : Stmt} {rest : List Stmt} {t u : TS} {g h : SF} {e : Expr} {te : TE} {f : EF} {pos : Pos}
def gSkip : SF := fun ρ => .nx ρ
def gSeq (g h : SF) : SF := fun ρ => match g ρ with
  | .nx ρ1 => h ρ1
  | o => o
theorem ss_nil : SSs X W [] tNext gSkip := ⟨pss_nil, fun F S H σ ρ D _ _ er hp => hp σ S H .refl er⟩
theorem ss_cons (h1 : SS X W st t g) (h2 : SSs X W rest u h) : SSs X W (st :: rest) (tSeq t u) (gSeq g h) := by
  refine ⟨pss_cons h1.ps h2.ps, fun F S H σ ρ D hK fok er hp => ?_⟩
  refine h1.sn F S H σ ρ _ hK fok er ?_
  unfold gSeq at hp
  cases q : g ρ with
  | nx ρ1 =>
    rw [q] at hp
    exact fun σ' S' H' t' er' => h2.sn F S' H' σ' ρ1 D hK fok er' (hp.shift t')
  | rt r ρ1 => rw [q] at hp; exact hp
  | bk ρ1 => rw [q] at hp; exact hp
  | ct ρ1 => rw [q] at hp; exact hp
  | ex x ρ1 => rw [q] at hp; exact hp
  | bad => rw [q] at hp; exact hp
theorem ss_one (h1 : SS X W st t g) : SSs X W [st] t g := ⟨pss_one h1.ps, h1.sn⟩
theorem ss_pass : SS X W (.Pass pos) tNext gSkip := ⟨ps_pass, fun F S H σ ρ D _ _ er hp => hp σ S H .refl er⟩
/-- what isn't reached -/
def gNever : SF := fun _ => .bad
theorem ss_never : SS X W st tNever gNever := ⟨ps_never, fun _ _ _ _ _ _ _ _ _ hp => hp⟩
theorem sss_never {sts : List Stmt} : SSs X W sts tNever gNever := ⟨pss_never, fun _ _ _ _ _ _ _ _ _ hp => hp⟩
def gExpr (f : EF) : SF := fun ρ => toS (f ρ) fun _ ρ1 => .nx ρ1
theorem ss_expr (he : SE X W e te f) (hs : swapsWith e none pos.line X.env = pure false := by rfl) : SS X W (.Expr e pos) (tDrop te) (gExpr f) := by
  refine ⟨ps_expr he.pe hs, fun F S H σ ρ D hK fok er hp => ?_⟩
  exact he.goS hK fok er hp fun r ρ1 v S1 H1 t1 er1 rr _ hp1 => hp1 σ S1 H1 .refl er1
def gRet (f : EF) : SF := fun ρ => toS (f ρ) fun r ρ1 => .rt r ρ1
theorem ss_ret (he : SE X W e te f) : SS X W (.Return (some e) pos) (tRet te) (gRet f) := by
  refine ⟨ps_ret he.pe, fun F S H σ ρ D hK fok er hp => ?_⟩
  exact he.goS hK fok er hp fun r ρ1 v S1 H1 t1 er1 rr _ hp1 => hp1 v σ S1 H1 .refl er1 rr
def gRetN : SF := fun ρ => .rt (.val .none) ρ
theorem ss_retN : SS X W (.Return none pos) tRetN gRetN := ⟨ps_retN, fun F S H σ ρ D _ _ er hp => hp .non σ S H .refl er .non⟩
def gIf (t : TF) (g h : SF) : SF := fun ρ => toS (t ρ) fun b ρ1 => if b = true then g ρ1 else h ρ1
theorem ss_if {c : Expr} {a b : List Stmt} {tc : TT} {gc : TF} (hc : ST X W c tc gc) (ha : SSs X W a t g) (hb : SSs X W b u h) : SS X W (.If c a b pos) (tIfS tc t u) (gIf gc g h) := by
  refine ⟨ps_if hc.pt ha.ps hb.ps, fun F S H σ ρ D hK fok er hp => ?_⟩
  refine hc.goS hK fok er hp fun k ρ1 S1 H1 t1 er1 hp1 => ?_
  cases k with
  | true => exact iteT (ha.sn F S1 H1 σ ρ1 D hK fok er1 hp1)
  | false => exact iteF (hb.sn F S1 H1 σ ρ1 D hK fok er1 hp1)
end

/-! ### names stored -/
/-- a result comes to a slot -/
def toSlot : R → Option Slot
  | .val d => some (.val d)
  | .own m => some (.own m)
  | .slot _ => none
def isLent : Slot → Bool
  | .lent _ => true
  | _ => false
def storeR (i : Nat) (r : R) (ρ : Rho) : Option Rho := match ρ[i]? with
  | none => none
  | some s => if isLent s then none else (match r with
    | .val d => some (ρ.set i (.val d))
    | .own m => some (ρ.set i (.own m))
    | .slot j => (match freeze ρ (.slot j) with
      | some (d, ρ') => some (ρ'.set i (.val d))
      | none => none))
theorem ER.store {F : Fx} {S : AS} {H : Hp} {σ : St} {ρ : Rho} (er : ER F S H σ ρ) {i : Nat} {s0 s : Slot} {r : R} {v : V} (e : ρ[i]? = some s0) (hl : isLent s0 = false) (rr : RR F S H σ ρ v r) (hs : toSlot r = some s) : ER F S H (σ.set i (some v)) (ρ.set i s) := by
  have hi : i < ρ.length := (List.getElem?_eq_some_iff.mp e).1
  have hiσ : i < σ.length := by rw [← er.len]; exact hi
  have mu : ∀ j b, MutAt (σ.set i (some v)) (ρ.set i s) j b → (j ≠ i ∧ MutAt σ ρ j b) ∨ (j = i ∧ ∃ m, r = .own m ∧ v = .ref b) := fun j b ⟨⟨m, h1⟩, h2⟩ => by
    by_cases q : j = i
    · subst q
      rw [List.getElem?_set_self hi] at h1
      rw [List.getElem?_set_self hiσ] at h2
      cases h2
      refine .inr ⟨rfl, ?_⟩
      cases r with
      | val d => cases hs; rcases h1 with h1 | h1 <;> cases h1
      | own m' => exact ⟨m', rfl, rfl⟩
      | slot k => cases hs
    · rw [List.getElem?_set_ne (Ne.symm q)] at h1
      rw [List.getElem?_set_ne (Ne.symm q)] at h2
      exact .inl ⟨q, ⟨m, h1⟩, h2⟩
  refine ⟨by rw [List.length_set, List.length_set]; exact er.len, fun j t et => ?_, fun j k b h1 h2 => ?_, er.sub, er.dom, er.fr, fun j a h => ?_⟩
  · by_cases q : j = i
    · subst q
      rw [List.getElem?_set_self hi] at et
      cases et
      rw [List.getElem?_set_self hiσ]
      cases r with
      | val d => cases hs; exact ⟨v, rfl, rr⟩
      | own m => cases hs; obtain ⟨a, rfl, sa, f, ok, _⟩ := rr; exact ⟨a, rfl, sa, f, ok⟩
      | slot k => cases hs
    · rw [List.getElem?_set_ne (Ne.symm q)] at et
      rw [List.getElem?_set_ne (Ne.symm q)]
      exact er.at_ j t et
  · have no : ∀ (k : Nat) (m : MO), r = .own m → v = .ref b → ¬ MutAt σ ρ k b := fun k m er' ev z => by
      subst er'
      obtain ⟨a, ea, _, _, _, n⟩ := rr
      rw [ev] at ea
      cases ea
      exact n k z
    rcases mu j b h1 with ⟨n1, m1⟩ | ⟨q1, m1, r1, v1⟩
    · rcases mu k b h2 with ⟨n2, m2⟩ | ⟨q2, m2, r2, v2⟩
      · exact er.dj j k b m1 m2
      · exact absurd m1 (no j m2 r2 v2)
    · rcases mu k b h2 with ⟨n2, m2⟩ | ⟨q2, m2, r2, v2⟩
      · exact absurd m2 (no k m1 r1 v1)
      · rw [q1, q2]
  · obtain ⟨m, hm⟩ := er.lt j a h
    have q : i ≠ j := fun z => by
      subst z
      rw [e] at hm
      cases hm
      cases hl
    exact ⟨m, by rw [List.getElem?_set_ne q]; exact hm⟩
theorem store_ok {F : Fx} {S : AS} {H : Hp} {σ : St} {ρ ρ' : Rho} (er : ER F S H σ ρ) (fok : F.Ok) {i : Nat} {r : R} {v : V} (rr : RR F S H σ ρ v r) (e : storeR i r ρ = some ρ') : ∃ S', TrS S H S' H ∧ ER F S' H (σ.set i (some v)) ρ' := by
  unfold storeR at e
  cases q : ρ[i]? with
  | none => simp [q] at e
  | some s0 =>
    simp only [q] at e
    by_cases hl : isLent s0 = true
    · rw [if_pos hl] at e; cases e
    · rw [if_neg hl] at e
      have hl : isLent s0 = false := by simpa using hl
      cases r with
      | val d => cases e; exact ⟨S, .refl, er.store q hl rr rfl⟩
      | own m => cases e; exact ⟨S, .refl, er.store q hl rr rfl⟩
      | slot j =>
        simp only at e
        cases z : freeze ρ (.slot j) with
        | none => simp [z] at e
        | some p =>
          obtain ⟨d, ρ1⟩ := p
          simp only [z, Option.some.injEq] at e
          subst e
          obtain ⟨S2, t2, er2, rp, le, _⟩ := freeze_ok er .refl er rr trivial z fok
          have q' : ∃ s1, ρ1[i]? = some s1 ∧ isLent s1 = false := by
            unfold freeze at z
            cases w : ρ[j]? with
            | none => simp [w] at z
            | some s =>
              cases s with
              | no => simp [w] at z
              | lent m => simp [w] at z
              | val d' => simp only [w, Option.some.injEq, Prod.mk.injEq] at z; rw [← z.2]; exact ⟨s0, q, hl⟩
              | own m =>
                simp only [w, Option.some.injEq, Prod.mk.injEq] at z
                rw [← z.2]
                have hj : j < ρ.length := (List.getElem?_eq_some_iff.mp w).1
                by_cases y : j = i
                · subst y; exact ⟨_, List.getElem?_set_self hj, rfl⟩
                · exact ⟨s0, by rw [List.getElem?_set_ne y]; exact q, hl⟩
          obtain ⟨s1, q1, l1⟩ := q'
          exact ⟨S2, t2.s er, er2.store (r := .val d) q1 l1 rp rfl⟩
def gSet (i : Nat) (f : EF) : SF := fun ρ => toS (f ρ) fun r ρ1 => match storeR i r ρ1 with
  | some ρ2 => .nx ρ2
  | none => .bad
section
variable {X : Cx} {W : WX} {e : Expr} {te : TE} {f : EF} {pos pos' : Pos} {x : Str}
theorem ss_set {i : Nat} (hN : X.N.Nodup) (hi : X.N[i]? = some x) (hx : Loc X.env.scope x) (he : SE X W e te f) (hs : swapsWith e (some (.Name x pos')) pos.line X.env = pure false := by rfl) (hf : X.fn x = true ∨ X.env.scope.names.lookup x = some .local := by first | exact .inl rfl | exact .inr rfl | assumption) :
    SS X W (.Assign [.Name x pos'] e pos) (tAsg te (gName i)) (gSet i f) := by
  refine ⟨ps_set hN hi hx he.pe hs hf, fun F S H σ ρ D hK fok er hp => ?_⟩
  refine he.goS hK fok er hp fun r ρ1 v S1 H1 t1 er1 rr _ hp1 => ?_
  have hp1 : PostS F W S1 H1 (match storeR i r ρ1 with | some ρ2 => .nx ρ2 | none => .bad) D := hp1
  cases q : storeR i r ρ1 with
  | none => simp only [q] at hp1; exact hp1.elim
  | some ρ2 =>
    simp only [q] at hp1
    obtain ⟨S2, t2, er2⟩ := store_ok er1 fok rr q
    exact hp1 _ S2 H1 t2 er2
end

/-! ### targets of data -/
abbrev GF := PyData → Rho → Option Rho
/-- the slots of is alone may have changed, to values -/
structure Asg (is : List Nat) (σ : St) (ρ : Rho) (σ' : St) (ρ' : Rho) : Prop where
  len : σ'.length = σ.length
  out : ∀ j, j ∉ is → σ'[j]? = σ[j]?
  mu : ∀ i a, MutAt σ' ρ' i a → MutAt σ ρ i a
structure SG (X : Cx) (tg : Expr) (t : TG) (g : GF) (is : List Nat) : Prop where
  pg : PG X tg t
  sn : ∀ (F : Fx) (S : AS) (H : Hp) (σ : St) (ρ ρ' : Rho) (v : V) (d : PyData) (Q : St → Hp → Prop), F.K = X.K → F.Ok → ER F S H σ ρ → Rp F.K S H v d → g d ρ = some ρ' → (∀ σ', Asg is σ ρ σ' ρ' → ER F S H σ' ρ' → Q σ' H) → t v σ H Q
abbrev GsF := List PyData → Rho → Option Rho
structure SGs (X : Cx) (ts : List Expr) (t : TGs) (g : GsF) (is : List Nat) : Prop where
  pg : PGs X ts t
  sn : ∀ (F : Fx) (S : AS) (H : Hp) (σ : St) (ρ ρ' : Rho) (vs : List V) (ds : List PyData) (Q : St → Hp → Prop), F.K = X.K → F.Ok → ER F S H σ ρ → RpA F.K S H vs ds → g ds ρ = some ρ' → (∀ σ', Asg is σ ρ σ' ρ' → ER F S H σ' ρ' → Q σ' H) → t vs σ H Q
def gtName (i : Nat) : GF := fun d ρ => match ρ[i]? with
  | none => none
  | some s => if isLent s then none else some (ρ.set i (.val d))
def gtNil : GsF := fun ds ρ => match ds with
  | [] => some ρ
  | _ => none
def gtCons (g : GF) (gs : GsF) : GsF := fun ds ρ => match ds with
  | d :: ds => (match g d ρ with
    | some ρ1 => gs ds ρ1
    | none => none)
  | [] => none
def gtTup (n : Nat) (gs : GsF) : GF := fun d ρ => match d with
  | .tuple ds => if ds.length = n then gs ds ρ else none
  | _ => none
section
variable {X : Cx} {x : Str} {pos : Pos} {e : Expr} {es : List Expr} {t : TG} {u : TGs} {g : GF} {gs : GsF} {is js : List Nat}
theorem sg_name {i : Nat} (hN : X.N.Nodup) (hi : X.N[i]? = some x) (hx : Loc X.env.scope x) (hf : X.fn x = true ∨ X.env.scope.names.lookup x = some .local := by first | exact .inl rfl | exact .inr rfl | assumption) : SG X (.Name x pos) (gName i) (gtName i) [i] := by
  refine ⟨pg_name hN hi hx hf, fun F S H σ ρ ρ' v d Q hK fok er rp e k => ?_⟩
  unfold gtName at e
  cases q : ρ[i]? with
  | none => simp [q] at e
  | some s =>
    simp only [q] at e
    by_cases hl : isLent s = true
    · rw [if_pos hl] at e; cases e
    · rw [if_neg hl] at e
      cases e
      exact k _ ⟨List.length_set, fun j hj => List.getElem?_set_ne (fun z => hj (by simp [z])), fun j a ⟨⟨m, h1⟩, h2⟩ => by
        have hi' : i < ρ.length := (List.getElem?_eq_some_iff.mp q).1
        by_cases y : i = j
        · subst y
          rw [List.getElem?_set_self hi'] at h1
          rcases h1 with h1 | h1 <;> cases h1
        · rw [List.getElem?_set_ne y] at h1
          rw [List.getElem?_set_ne y] at h2
          exact ⟨⟨m, h1⟩, h2⟩⟩ (er.store (r := .val d) q (by simpa using hl) rp rfl)
theorem sgs_nil : SGs X [] gNil gtNil [] := by
  refine ⟨pgs_nil, fun F S H σ ρ ρ' vs ds Q hK fok er rp e k => ?_⟩
  cases rp with
  | nil => cases e; exact ⟨rfl, k σ ⟨rfl, fun _ _ => rfl, fun _ _ z => z⟩ er⟩
  | cons _ _ => cases e
theorem sgs_cons (h1 : SG X e t g is) (h2 : SGs X es u gs js) (hs : (assignEach (e :: es) X.env).map (·.2) = assign e X.env :: (assignEach es X.env).map (·.2) := by rfl) : SGs X (e :: es) (gCons t u) (gtCons g gs) (is ++ js) := by
  refine ⟨pgs_cons h1.pg h2.pg hs, fun F S H σ ρ ρ' vs ds Q hK fok er rp e k => ?_⟩
  cases rp with
  | nil => cases e
  | cons r1 r2 =>
    rename_i v vs d ds
    simp only [gtCons] at e
    cases q : g d ρ with
    | none => simp [q] at e
    | some ρ1 =>
      simp only [q] at e
      refine ⟨v, vs, rfl, h1.sn F S H σ ρ ρ1 v d _ hK fok er r1 q fun σ1 o1 er1 => ?_⟩
      exact h2.sn F S H σ1 ρ1 ρ' vs ds Q hK fok er1 r2 e fun σ2 o2 er2 => k σ2 ⟨o2.len.trans o1.len, fun j hj => by
        rw [List.mem_append, not_or] at hj
        exact (o2.out j hj.2).trans (o1.out j hj.1), fun i a z => o1.mu i a (o2.mu i a z)⟩ er2
theorem sg_tup {k n : Nat} (hc : X.calm = true) (h : SGs X es u gs is) (hn : (assignEach es X.env).length = n := by rfl) (hst : (assignEach es X.env).findIdx? (·.1) = none := by rfl) : SG X (.Tuple es k pos) (gTup X.K n u) (gtTup n gs) is := by
  refine ⟨pg_tup hc h.pg hn hst, fun F S H σ ρ ρ' v d Q hK fok er rp e kk => ?_⟩
  cases d with
  | tuple ds =>
    simp only [gtTup] at e
    by_cases q : ds.length = n
    · rw [if_pos q] at e
      cases rp with
      | tup na ha hs => exact ⟨_, _, rfl, SqT.of ha, by rw [hs.length]; exact q, h.sn F S H σ ρ ρ' _ ds Q hK fok er hs e kk⟩
    · rw [if_neg q] at e; cases e
  | _ => simp [gtTup] at e
def gAsg (f : EF) (g : GF) : SF := fun ρ => toSF (f ρ) fun d ρ1 => match g d ρ1 with
  | some ρ2 => .nx ρ2
  | none => .bad
theorem ss_asg {W : WX} {tg e : Expr} {te : TE} {f : EF} (he : SE X W e te f) (hg : SG X tg t g is) (hs : swapsWithSole [tg] e pos.line X.env = pure false := by rfl) (hw : swappedStores [tg] e X.env = pure none := by rfl)
    (h1 : (assignEach [tg] X.env).map (·.2) = [assign tg X.env] := by rfl) : SS X W (.Assign [tg] e pos) (tAsg te t) (gAsg f g) := by
  refine ⟨ps_asg he.pe hg.pg hs hw h1, fun F S H σ ρ D hK fok er hp => ?_⟩
  refine he.goSF hK fok er hp fun d ρ1 v S1 H1 t1 er1 rp hp1 => ?_
  have hp1 : PostS F W S1 H1 (match g d ρ1 with | some ρ2 => .nx ρ2 | none => .bad) D := hp1
  cases q : g d ρ1 with
  | none => simp only [q] at hp1; exact hp1.elim
  | some ρ2 =>
    simp only [q] at hp1
    exact hg.sn F S1 H1 σ ρ1 ρ2 v d _ hK fok er1 rp q fun σ' _ er2 => hp1 σ' S1 H1 .refl er2
end
end Pv
set_option maxRecDepth 100000
/-! PvI: several names at once, stores into lists and dicts, append, pop, loops, a def's body. -/
namespace Pv
open PySem PySem.Spec L2

/-! ### a, b = e1, e2 -/
def FrD (H : Hp) : List V → List R → Prop
  | [], [] => True
  | v :: vs, r :: rs => Frsh H v r ∧ FrD H vs rs ∧ ∀ (a : Addr) (m : MO), r = .own m → v = .ref a → ∀ (j : Nat) (m' : MO), rs[j]? = some (.own m') → vs[j]? ≠ some (V.ref a)
  | _, _ => False
/-- values and new things alone -/
def plainR : R → Bool
  | .slot _ => false
  | _ => true
def PostO (F : Fx) (W : WX) (S : AS) (H : Hp) (σ : St) (ρ : Rho) (o : Out (List R)) (Q : List V → Hp → Prop) : Prop := match o with
  | .ok rs ρ' => ∀ vs S' H', Tr S H σ ρ S' H' ρ' → ER F S' H' σ ρ' → RRs F S' H' σ ρ' vs rs → FrD H vs rs → Q vs H'
  | .ex x ρ' => ∀ cls dx S' H', Tr S H σ ρ S' H' ρ' → ER F S' H' σ ρ' → XR F S' H' x cls dx → W cls dx σ H'
  | .bad => False
structure SAo (X : Cx) (W : WX) (es : List Expr) (t : TA) (f : RF) : Prop where
  pa : PA X es t
  sn : ∀ (F : Fx) (S : AS) (H : Hp) (σ : St) (ρ : Rho) (Q : List V → Hp → Prop), F.K = X.K → F.Ok → ER F S H σ ρ → PostO F W S H σ ρ (f ρ) Q → t σ H Q
theorem RRs.get {F : Fx} {S : AS} {H : Hp} {σ : St} {ρ : Rho} : ∀ {vs : List V} {rs : List R} {i : Nat} {r : R}, RRs F S H σ ρ vs rs → rs[i]? = some r → ∃ v, vs[i]? = some v ∧ RR F S H σ ρ v r
  | _, _, _, _, .nil, e => by simp at e
  | _, _, 0, _, .cons h _, e => by simp at e; subst e; exact ⟨_, rfl, h⟩
  | _, _, i + 1, _, .cons _ hs, e => by
    obtain ⟨v, h1, h2⟩ := RRs.get (i := i) hs (by simpa using e)
    exact ⟨v, by simpa using h1, h2⟩
theorem FrD.up {H H1 : Hp} (st : ∀ a, H a ≠ none → H1 a ≠ none) : ∀ {vs : List V} {rs : List R}, FrD H1 vs rs → FrD H vs rs
  | [], [], _ => trivial
  | [], _ :: _, h => h.elim
  | _ :: _, [], h => h.elim
  | v :: vs, r :: rs, ⟨h1, h2, h3⟩ => ⟨by
      cases r with
      | own m =>
        intro a e
        cases q : H a with
        | none => rfl
        | some o => exact absurd (h1 a e) (st a (by rw [q]; exact fun z => nomatch z))
      | val d => trivial
      | slot i => trivial, h2.up st, h3⟩
theorem FrD.at {H : Hp} : ∀ {vs : List V} {rs : List R} {j : Nat} {m : MO} {a : Addr}, FrD H vs rs → rs[j]? = some (.own m) → vs[j]? = some (.ref a) → H a = none
  | [], [], _, _, _, _, e, _ => by simp at e
  | [], _ :: _, _, _, _, h, _, _ => h.elim
  | _ :: _, [], _, _, _, h, _, _ => h.elim
  | v :: vs, r :: rs, 0, m, a, ⟨h1, _, _⟩, e, e2 => by
    simp at e e2
    subst e e2
    exact h1 a rfl
  | v :: vs, r :: rs, j + 1, m, a, ⟨_, h2, _⟩, e, e2 => FrD.at (j := j) h2 (by simpa using e) (by simpa using e2)
/-- a slot's thing is given away -/
def oCons (fa : EF) (fr : RF) : RF := fun ρ => (fa ρ).bind fun r ρ1 => if plainR r = true then ((fr ρ1).bind fun rs ρ2 => .ok (r :: rs) ρ2) else (match freeze ρ1 r with
  | some (d, ρ2) => (fr ρ2).bind fun rs ρ3 => .ok (.val d :: rs) ρ3
  | none => .bad)
section
variable {X : Cx} {W : WX} {e : Expr} {es : List Expr} {te : TE} {t : TA} {f : EF} {fr : RF}
theorem so_nil : SAo X W [] tNil rNil := ⟨pa_nil, fun F S H σ ρ Q _ _ er hp => hp [] S H .refl er .nil trivial⟩
theorem so_cons (ha : SE X W e te f) (hr : SAo X W es t fr) (hs : starEach (e :: es) X.env = (false, eval e X.env) :: starEach es X.env := by rfl) : SAo X W (e :: es) (tCons te t) (oCons f fr) := by
  refine ⟨pa_cons ha.pe hr.pa hs, fun F S H σ ρ Q hK fok er hp => ?_⟩
  have fin : ∀ (r' : R) (ρ1 : Rho) (v : V) (S1 : AS) (H1 : Hp), Tr S H σ ρ S1 H1 ρ1 → ER F S1 H1 σ ρ1 → RR F S1 H1 σ ρ1 v r' → Frsh H v r' → PostO F W S H σ ρ ((fr ρ1).bind fun rs ρ2 => .ok (r' :: rs) ρ2) Q → t σ H1 (fun xs H2 => Q (v :: xs) H2) := by
    intro r' ρ1 v S1 H1 t1 er1 rr1 fr1 hp1
    refine hr.sn F S1 H1 σ ρ1 _ hK fok er1 ?_
    cases q : fr ρ1 with
    | ok rs ρ2 =>
      rw [q] at hp1
      intro vs S2 H2 t2 er2 rr2 fd
      refine hp1 (v :: vs) S2 H2 (t1.trans er t2) er2 (.cons (rr1.tr er1 t2 (er2.len.trans er1.len.symm)) rr2) ⟨fr1, fd.up t1.stay, fun a m em ev j m' ej ez => ?_⟩
      subst em ev
      have h1 : H1 a = none := fd.at ej ez
      obtain ⟨b, eb, sb, _⟩ := rr1
      cases eb
      exact er1.dom a sb h1
    | ex x ρ2 => rw [q] at hp1; exact fun cls dx S2 H2 t2 er2 xr => hp1 cls dx S2 H2 (t1.trans er t2) er2 xr
    | bad => rw [q] at hp1; exact hp1
  refine ha.sn F S H σ ρ _ hK fok er ?_
  unfold oCons at hp
  cases q : f ρ with
  | ex x ρ1 => rw [q] at hp; exact hp
  | bad => rw [q] at hp; exact hp
  | ok r ρ1 =>
    rw [q] at hp
    intro v S1 H1 t1 er1 rr1 fr1
    by_cases pl : plainR r = true
    · have hp : PostO F W S H σ ρ (if plainR r = true then ((fr ρ1).bind fun rs ρ2 => .ok (r :: rs) ρ2) else (match freeze ρ1 r with | some (d, ρ2) => (fr ρ2).bind fun rs ρ3 => .ok (.val d :: rs) ρ3 | none => .bad)) Q := hp
      rw [if_pos pl] at hp
      exact fin r ρ1 v S1 H1 t1 er1 rr1 fr1 hp
    · have hp : PostO F W S H σ ρ (if plainR r = true then ((fr ρ1).bind fun rs ρ2 => .ok (r :: rs) ρ2) else (match freeze ρ1 r with | some (d, ρ2) => (fr ρ2).bind fun rs ρ3 => .ok (.val d :: rs) ρ3 | none => .bad)) Q := hp
      rw [if_neg pl] at hp
      cases z : freeze ρ1 r with
      | none => simp only [z] at hp; exact hp.elim
      | some p =>
        obtain ⟨d, ρ2⟩ := p
        simp only [z] at hp
        obtain ⟨S2, t2, er2, rp, _, _⟩ := freeze_ok er t1 er1 rr1 fr1 z fok
        exact fin (.val d) ρ2 v S2 H1 t2 er2 rp trivial hp
end
/-- new values come to slots -/
def storeP (i : Nat) (r : R) (ρ : Rho) : Option Rho := match ρ[i]?, toSlot r with
  | some s0, some s => if isLent s0 then none else some (ρ.set i s)
  | _, _ => none
theorem storeP_ok {F : Fx} {S : AS} {H : Hp} {σ : St} {ρ ρ' : Rho} (er : ER F S H σ ρ) {i : Nat} {r : R} {v : V} (rr : RR F S H σ ρ v r) (e : storeP i r ρ = some ρ') : ER F S H (σ.set i (some v)) ρ' ∧ ρ'.length = ρ.length ∧
    ∀ j b, MutAt (σ.set i (some v)) ρ' j b → MutAt σ ρ j b ∨ ∃ m, r = .own m ∧ v = .ref b := by
  unfold storeP at e
  cases q : ρ[i]? with
  | none => simp [q] at e
  | some s0 =>
    cases z : toSlot r with
    | none => simp [q, z] at e
    | some s =>
      simp only [q, z] at e
      by_cases hl : isLent s0 = true
      · rw [if_pos hl] at e; cases e
      · rw [if_neg hl] at e
        cases e
        have hi : i < ρ.length := (List.getElem?_eq_some_iff.mp q).1
        have hiσ : i < σ.length := by rw [← er.len]; exact hi
        refine ⟨er.store q (by simpa using hl) rr z, List.length_set, fun j b ⟨⟨m, h1⟩, h2⟩ => ?_⟩
        by_cases y : i = j
        · subst y
          rw [List.getElem?_set_self hi] at h1
          rw [List.getElem?_set_self hiσ] at h2
          cases h2
          cases r with
          | val d => cases z; rcases h1 with h1 | h1 <;> cases h1
          | own m' => exact .inr ⟨m', rfl, rfl⟩
          | slot k => cases z
        · rw [List.getElem?_set_ne y] at h1
          rw [List.getElem?_set_ne y] at h2
          exact .inl ⟨⟨m, h1⟩, h2⟩
/-- a result beside a slot that has been stored -/
theorem RR.past {F : Fx} {S : AS} {H : Hp} {σ σ' : St} {ρ ρ' : Rho} {r r0 : R} {v v0 : V} (h : RR F S H σ ρ v r) (hp : plainR r = true) (mu : ∀ j b, MutAt σ' ρ' j b → MutAt σ ρ j b ∨ ∃ m, r0 = .own m ∧ v0 = .ref b) (ne : ∀ a m m', r0 = .own m → v0 = .ref a → r = .own m' → v ≠ .ref a) : RR F S H σ' ρ' v r := by
  cases r with
  | val d => exact h
  | slot i => cases hp
  | own m =>
    obtain ⟨a, e, s, f, ok, n⟩ := h
    refine ⟨a, e, s, f, ok, fun i z => ?_⟩
    rcases mu i a z with z | ⟨m', e1, e2⟩
    · exact n i z
    · exact ne a m' m e1 e2 rfl e
def gPar2 (i j : Nat) (fr : RF) : SF := fun ρ => toS (fr ρ) fun rs ρ1 => match rs with
  | [r, q] => if plainR r && plainR q then (match storeP i r ρ1 with
    | some ρ2 => (match storeP j q ρ2 with
      | some ρ3 => .nx ρ3
      | none => .bad)
    | none => .bad) else .bad
  | _ => .bad
def gPar3 (i j l : Nat) (fr : RF) : SF := fun ρ => toS (fr ρ) fun rs ρ1 => match rs with
  | [r, q, u] => if plainR r && plainR q && plainR u then (match storeP i r ρ1 with
    | some ρ2 => (match storeP j q ρ2 with
      | some ρ3 => (match storeP l u ρ3 with
        | some ρ4 => .nx ρ4
        | none => .bad)
      | none => .bad)
    | none => .bad) else .bad
  | _ => .bad
section
variable {X : Cx} {W : WX} {ta : TA} {fr : RF}
theorem sn_par2 {es : List Expr} {i j : Nat} (ha : SAo X W es ta fr) : ∀ (F : Fx) (S : AS) (H : Hp) (σ : St) (ρ : Rho) (D : Ends), F.K = X.K → F.Ok → ER F S H σ ρ → PostS F W S H (gPar2 i j fr ρ) D → tPar i j ta D σ H := by
  intro F S H σ ρ D hK fok er hp
  refine ha.sn F S H σ ρ _ hK fok er ?_
  unfold gPar2 at hp
  cases q : fr ρ with
  | ex x ρ1 => rw [q] at hp; exact fun cls dx S1 H1 t1 er1 xr => hp cls dx σ S1 H1 (t1.s er) er1 xr
  | bad => rw [q] at hp; exact hp
  | ok rs ρ1 =>
    rw [q] at hp
    intro vs S1 H1 t1 er1 rr1 fd
    match rs, rr1, fd, hp with
    | [r, u], .cons (v := v) h1 (.cons (v := w) h2 .nil), ⟨f1, f2, f3⟩, hp =>
      have hp1 := PostS.shift (t1.s er) hp
      simp only [toS] at hp1
      by_cases pl : (plainR r && plainR u) = true
      · rw [if_pos pl] at hp1
        rw [Bool.and_eq_true] at pl
        cases q1 : storeP i r ρ1 with
        | none => simp only [q1] at hp1; exact hp1.elim
        | some ρ2 =>
          simp only [q1] at hp1
          obtain ⟨er2, l2, mu2⟩ := storeP_ok er1 h1 q1
          have h2' : RR F S1 H1 (σ.set i (some v)) ρ2 w u := h2.past pl.2 mu2 fun a m m' e1 e2 e3 e4 => f3 a m e1 e2 0 m' (by rw [e3]; rfl) (by rw [e4]; rfl)
          cases q2 : storeP j u ρ2 with
          | none => simp only [q2] at hp1; exact hp1.elim
          | some ρ3 =>
            simp only [q2] at hp1
            obtain ⟨er3, _, _⟩ := storeP_ok er2 h2' q2
            exact ⟨v, w, rfl, hp1 _ S1 H1 .refl er3⟩
      · rw [if_neg pl] at hp1
        exact hp1.elim
    | [], .nil, _, hp => exact hp.elim
    | [_], .cons _ .nil, _, hp => exact hp.elim
    | _ :: _ :: _ :: _, .cons _ (.cons _ (.cons _ _)), _, hp => exact hp.elim
theorem sn_par3 {es : List Expr} {i j l : Nat} (ha : SAo X W es ta fr) : ∀ (F : Fx) (S : AS) (H : Hp) (σ : St) (ρ : Rho) (D : Ends), F.K = X.K → F.Ok → ER F S H σ ρ → PostS F W S H (gPar3 i j l fr ρ) D → tPar3 i j l ta D σ H := by
  intro F S H σ ρ D hK fok er hp
  refine ha.sn F S H σ ρ _ hK fok er ?_
  unfold gPar3 at hp
  cases q : fr ρ with
  | ex x ρ1 => rw [q] at hp; exact fun cls dx S1 H1 t1 er1 xr => hp cls dx σ S1 H1 (t1.s er) er1 xr
  | bad => rw [q] at hp; exact hp
  | ok rs ρ1 =>
    rw [q] at hp
    intro vs S1 H1 t1 er1 rr1 fd
    match rs, rr1, fd, hp with
    | [r, u, y], .cons (v := v) h1 (.cons (v := w) h2 (.cons (v := z) h3 .nil)), ⟨f1, ⟨g1, g2, g3⟩, f3⟩, hp =>
      have hp1 := PostS.shift (t1.s er) hp
      simp only [toS] at hp1
      by_cases pl : (plainR r && plainR u && plainR y) = true
      · rw [if_pos pl] at hp1
        rw [Bool.and_eq_true, Bool.and_eq_true] at pl
        cases q1 : storeP i r ρ1 with
        | none => simp only [q1] at hp1; exact hp1.elim
        | some ρ2 =>
          simp only [q1] at hp1
          obtain ⟨er2, l2, mu2⟩ := storeP_ok er1 h1 q1
          have h2' : RR F S1 H1 (σ.set i (some v)) ρ2 w u := h2.past pl.1.2 mu2 fun a m m' e1 e2 e3 e4 => f3 a m e1 e2 0 m' (by rw [e3]; rfl) (by rw [e4]; rfl)
          have h3' : RR F S1 H1 (σ.set i (some v)) ρ2 z y := h3.past pl.2 mu2 fun a m m' e1 e2 e3 e4 => f3 a m e1 e2 1 m' (by rw [e3]; rfl) (by rw [e4]; rfl)
          cases q2 : storeP j u ρ2 with
          | none => simp only [q2] at hp1; exact hp1.elim
          | some ρ3 =>
            simp only [q2] at hp1
            obtain ⟨er3, _, mu3⟩ := storeP_ok er2 h2' q2
            have h3'' : RR F S1 H1 ((σ.set i (some v)).set j (some w)) ρ3 z y := h3'.past pl.2 mu3 fun a m m' e1 e2 e3 e4 => g3 a m e1 e2 0 m' (by rw [e3]; rfl) (by rw [e4]; rfl)
            cases q3 : storeP l y ρ3 with
            | none => simp only [q3] at hp1; exact hp1.elim
            | some ρ4 =>
              simp only [q3] at hp1
              obtain ⟨er4, _, _⟩ := storeP_ok er3 h3'' q3
              exact ⟨v, w, z, rfl, hp1 _ S1 H1 .refl er4⟩
      · rw [if_neg pl] at hp1
        exact hp1.elim
    | [], .nil, _, hp => exact hp.elim
    | [_], .cons _ .nil, _, hp => exact hp.elim
    | [_, _], .cons _ (.cons _ .nil), _, hp => exact hp.elim
    | _ :: _ :: _ :: _ :: _, .cons _ (.cons _ (.cons _ (.cons _ _))), _, hp => exact hp.elim
theorem ss_par2 {i j : Nat} {x y : Str} {a b : Expr} {px py pt pos : Pos} {kt k2 pt2} (hc : X.calm = true) (hN : X.N.Nodup) (hi : X.N[i]? = some x) (hj : X.N[j]? = some y) (hij : i ≠ j)
    (hx : X.env.scope.names.lookup x = some .local) (hy : X.env.scope.names.lookup y = some .local) (ha : SAo X W [a, b] ta fr)
    (hw : swappedStores [.Tuple [.Name x px, .Name y py] kt pt] (.Tuple [a, b] k2 pt2) X.env = pure (some [x, y]))
    (hs : swapsWithSole [.Tuple [.Name x px, .Name y py] kt pt] (.Tuple [a, b] k2 pt2) pos.line X.env = pure false := by rfl) :
    SS X W (.Assign [.Tuple [.Name x px, .Name y py] kt pt] (.Tuple [a, b] k2 pt2) pos) (tPar i j ta) (gPar2 i j fr) := ⟨ps_par hc hN hi hj hij hx hy ha.pa hw hs, sn_par2 ha⟩
theorem ss_par3 {i j l : Nat} {x y z : Str} {a b c : Expr} {px py pz pt pos : Pos} {kt k2 pt2} (hc : X.calm = true) (hN : X.N.Nodup) (hi : X.N[i]? = some x) (hj : X.N[j]? = some y) (hl : X.N[l]? = some z) (hij : i ≠ j) (hil : i ≠ l) (hjl : j ≠ l)
    (hx : X.env.scope.names.lookup x = some .local) (hy : X.env.scope.names.lookup y = some .local) (hz : X.env.scope.names.lookup z = some .local) (ha : SAo X W [a, b, c] ta fr)
    (hw : swappedStores [.Tuple [.Name x px, .Name y py, .Name z pz] kt pt] (.Tuple [a, b, c] k2 pt2) X.env = pure (some [x, y, z]))
    (hs : swapsWithSole [.Tuple [.Name x px, .Name y py, .Name z pz] kt pt] (.Tuple [a, b, c] k2 pt2) pos.line X.env = pure false := by rfl) :
    SS X W (.Assign [.Tuple [.Name x px, .Name y py, .Name z pz] kt pt] (.Tuple [a, b, c] k2 pt2) pos) (tPar3 i j l ta) (gPar3 i j l fr) := ⟨ps_par3 hc hN hi hj hl hij hil hjl hx hy hz ha.pa hw hs, sn_par3 ha⟩
end

/-! ### x[i] = e, x.append(e), x.pop() on a thing of a slot -/
def withSlot (ρ : Rho) (r : R) (k : Nat → Slot → MO → Option Rho) : Option Rho := match r with
  | .slot j => (match ρ[j]? with
    | some s => (match s.mo with
      | some m => k j s m
      | none => none)
    | none => none)
  | _ => none
theorem withSlot_some {ρ ρ' : Rho} {r : R} {k : Nat → Slot → MO → Option Rho} (h : withSlot ρ r k = some ρ') : ∃ j s m, r = .slot j ∧ ρ[j]? = some s ∧ s.mo = some m ∧ k j s m = some ρ' := by
  unfold withSlot at h
  cases r with
  | val d => cases h
  | own m => cases h
  | slot j =>
    simp only at h
    cases q : ρ[j]? with
    | none => simp [q] at h
    | some s =>
      simp only [q] at h
      cases z : s.mo with
      | none => simp [z] at h
      | some m =>
        simp only [z] at h
        exact ⟨j, s, m, rfl, q, z, h⟩
section
variable {F : Fx} {S : AS} {H : Hp} {σ : St} {ρ : Rho}
/-- a list's thing written -/
theorem ER.wLst (er : ER F S H σ ρ) {j : Nat} {s : Slot} {ds es : List PyData} {a : Addr} {vs : List V} (e : ρ[j]? = some s) (em : s.mo = some (.lst ds)) (ea : σ[j]? = some (some (.ref a))) (h : RpA F.K S H vs es) :
    Tr S H σ ρ S (upd H a (.lst vs)) (ρ.set j (s.put (.lst es))) ∧ ER F S (upd H a (.lst vs)) σ (ρ.set j (s.put (.lst es))) := by
  obtain ⟨b, eb, sb, _, _, mb⟩ := er.mo e em
  rw [ea] at eb; cases eb
  have ne : s.put (.lst es) ≠ .no := by rcases Slot.mo_cases em with q | q <;> (subst q; exact fun z => nomatch z)
  have off : ∀ b o', H b = some o' → ¬ S b → upd H a (.lst vs) b = some o' := fun b o' e n => by
    rw [upd_ne fun z => n (by rw [z]; exact sb)]
    exact e
  exact ⟨Tr.write mb ne, er.write e em ea ⟨vs, upd_same, h.mono off fun _ z => .inl z⟩⟩
end
def appD (j : Nat) (s : Slot) (d : PyData) : MO → Rho → Option Rho
  | .lst ds, ρ => if ds.length < 16777216 then some (ρ.set j (s.put (.lst (ds ++ [d])))) else none
  | _, _ => none
def isLst (ρ : Rho) (r : R) : Bool := match deref ρ r with
  | some (.list _) => true
  | _ => false
def fAppend (fo fa : EF) : EF := fun ρ => (fo ρ).bind fun r ρ1 => if isLst ρ1 r = true then bindF (fa ρ1) fun d ρ2 => (match withSlot ρ2 r fun j s m => appD j s d m ρ2 with
  | some ρ3 => .ok (.val .none) ρ3
  | none => .bad) else .bad
theorem isLst_ty {F : Fx} {S : AS} {H : Hp} {σ : St} {ρ : Rho} {r : R} {v : V} (rr : RR F S H σ ρ v r) (er : ER F S H σ ρ) (h : isLst ρ r = true) : tyV F.K "list" v H := by
  unfold isLst at h
  cases q : deref ρ r with
  | none => simp [q] at h
  | some d =>
    cases d with
    | list ds =>
      obtain ⟨a, xs, rfl, hs, _⟩ := (rr.rt er q).list
      exact .inl ⟨rfl, xs, hs⟩
    | _ => simp [q] at h
section
variable {X : Cx} {W : WX} {o e : Expr} {to te : TE} {fo fe : EF} {apos cpos pos : Pos}
theorem se_append (ho : SE X W o to fo) (he : SE X W e te fe) (hbase : attributeBase o "append" X.env (eval o X.env) = eval o X.env := by rfl)
    (hfew : ((backTo cpos (starEach [e] X.env)).all (fun x => !x.1) && (backToKw cpos (keywordEach [] X.env)).all (fun x => x.1.isSome)
      && decide ([e].length + ([] : List Keyword).length + (if ([] : List Keyword).isEmpty then 0 else 1) < 30)) = true := by rfl)
    (hline : (apos.endLine == cpos.line) = true := by rfl) (hs : starEach [e] X.env = (false, eval e X.env) :: starEach [] X.env := by rfl) (hplain : (backTo cpos (starEach [] X.env)).any (·.1) = false := by rfl) :
    SE X W (.Call (.Attribute o "append" apos) [e] [] cpos) (tBM X.K "list" rAppend to (tCons te tNil)) (fAppend fo fe) := by
  refine ⟨pe_bm PySem.F.plainAttrs_list PySem.F.slot_list_append PySem.F.type_list_append mt_append ho.pe (pa_cons he.pe pa_nil hs) hbase hfew hline hs hplain, fun F S H σ ρ Q hK fok er hp => ?_⟩
  refine ho.go hK fok er (wE F W σ Q) hp fun r ρ1 v S1 H1 t1 er1 rr1 _ hp1 => ?_
  by_cases hl : isLst ρ1 r = true
  · have hp1 : PostE F W S1 H1 σ ρ1 (bindF (fe ρ1) fun d ρ2 => (match withSlot ρ2 r fun j s m => appD j s d m ρ2 with | some ρ3 => .ok (.val .none) ρ3 | none => .bad)) Q := by
      have z := hp1
      simp only [hl, if_true] at z
      exact z
    refine ⟨by rw [← hK]; exact isLst_ty rr1 er1 hl, he.goF hK fok er1 (wE F W σ Q) hp1 fun d ρ2 w S2 H2 t2 er2 rp2 hp2 => ?_⟩
    have hp2 : PostE F W S2 H2 σ ρ2 (match withSlot ρ2 r fun j s m => appD j s d m ρ2 with | some ρ3 => .ok (.val .none) ρ3 | none => .bad) Q := hp2
    cases q : withSlot ρ2 r fun j s m => appD j s d m ρ2 with
    | none => simp only [q] at hp2; exact hp2.elim
    | some ρ3 =>
      simp only [q] at hp2
      obtain ⟨j, s, m, rfl, e1, em, ek⟩ := withSlot_some q
      obtain ⟨a, ea, sa, _, ok, _⟩ := er2.mo e1 em
      rw [rr1.1] at ea
      cases ea
      cases m with
      | lst ds =>
        simp only [appD] at ek
        by_cases hz : ds.length < 16777216
        · rw [if_pos hz] at ek
          cases ek
          obtain ⟨vs, eh, hr⟩ := ok
          obtain ⟨t3, er3⟩ := er2.wLst e1 em rr1.1 (hr.append (RpA.one rp2))
          exact ⟨a, vs, w, rfl, rfl, eh, by rw [hr.length, sizeLine_eq]; exact hz, hp2 _ S2 _ t3 er3 .non trivial⟩
        · rw [if_neg hz] at ek
          cases ek
      | dT _ => cases ek
      | dK _ => cases ek
  · have z := hp1
    simp only [hl] at z
    exact z.elim
def popD (j : Nat) (s : Slot) (ρ : Rho) : MO → Option (PyData × Rho)
  | .lst ds => (match ds[ds.length - 1]? with
    | some d => some (d, ρ.set j (s.put (.lst ds.dropLast)))
    | none => none)
  | _ => none
def fPop (fo : EF) : EF := fun ρ => (fo ρ).bind fun r ρ1 => match r with
  | .slot j => (match ρ1[j]? with
    | some s => (match s.mo with
      | some m => (match popD j s ρ1 m with
        | some (d, ρ2) => .ok (.val d) ρ2
        | none => .bad)
      | none => .bad)
    | none => .bad)
  | _ => .bad
theorem RpA.dropLast {K : PySem.W.Frag} {S : AS} {H : Hp} : ∀ {vs : List V} {ds : List PyData}, RpA K S H vs ds → RpA K S H vs.dropLast ds.dropLast
  | _, _, .nil => .nil
  | _, _, .cons h .nil => .nil
  | _, _, .cons h (.cons h2 hs) => .cons h (RpA.dropLast (.cons h2 hs))
theorem se_pop (ho : SE X W o to fo) (hbase : attributeBase o "pop" X.env (eval o X.env) = eval o X.env := by rfl) (hline : (apos.endLine == cpos.line) = true := by rfl) :
    SE X W (.Call (.Attribute o "pop" apos) [] [] cpos) (tBM0 X.K "list" rPop to) (fPop fo) := by
  refine ⟨pe_bm0 PySem.F.plainAttrs_list PySem.F.slot_list_pop PySem.F.type_list_pop mt_pop ho.pe hbase hline, fun F S H σ ρ Q hK fok er hp => ?_⟩
  refine ho.go hK fok er (wE F W σ Q) hp fun r ρ1 v S1 H1 t1 er1 rr1 _ hp1 => ?_
  cases r with
  | val d => exact hp1.elim
  | own m => exact hp1.elim
  | slot j =>
    have hp1 : PostE F W S1 H1 σ ρ1 (match ρ1[j]? with
      | some s => (match s.mo with
        | some m => (match popD j s ρ1 m with
          | some (d, ρ2) => .ok (.val d) ρ2
          | none => .bad)
        | none => .bad)
      | none => .bad) Q := hp1
    cases e1 : ρ1[j]? with
    | none => simp only [e1] at hp1; exact hp1.elim
    | some s =>
      simp only [e1] at hp1
      cases em : s.mo with
      | none => simp only [em] at hp1; exact hp1.elim
      | some m =>
        simp only [em] at hp1
        cases m with
        | dT _ => exact hp1.elim
        | dK _ => exact hp1.elim
        | lst ds =>
          simp only [popD] at hp1
          cases el : ds[ds.length - 1]? with
          | none => simp only [el] at hp1; exact hp1.elim
          | some d =>
            simp only [el] at hp1
            obtain ⟨a, ea, sa, _, ok, _⟩ := er1.mo e1 em
            rw [rr1.1] at ea
            cases ea
            obtain ⟨vs, eh, hr⟩ := ok
            obtain ⟨w, ew, rw'⟩ := hr.get el
            obtain ⟨t2, er2⟩ := er1.wLst e1 em rr1.1 hr.dropLast
            refine ⟨.inl ⟨rfl, vs, SqL.of eh⟩, a, vs, w, rfl, rfl, eh, by rw [hr.length]; exact ew, hp1 w S1 _ t2 er2 ?_ trivial⟩
            exact rw'.tr er1 t2
/-- x[i] = e -/
def setD (j : Nat) (s : Slot) (i d : PyData) (ρ : Rho) : MO → Option Rho
  | .lst ds => (match i with
    | .int k => (match ixN ds.length k with
      | some n => some (ρ.set j (s.put (.lst (ds.set n d))))
      | none => none)
    | _ => none)
  | .dT _ => none
  | .dK _ => none
def gSetIx (fo fi fe : EF) : SF := fun ρ => toSF (fe ρ) fun d ρ1 => toS (fo ρ1) fun r ρ2 => toS (fi ρ2) fun ri ρ3 => match ri with
  | .val i => (match withSlot ρ3 r fun j s m => setD j s i d ρ3 m with
    | some ρ4 => .nx ρ4
    | none => .bad)
  | _ => .bad
theorem ss_setIx {i : Expr} {ti : TE} {fi : EF} (he : SE X W e te fe) (ho : SE X W o to fo) (hi : SE X W i ti fi)
    (ha : ∀ v, assign (.Subscript o i apos) X.env v = (do
      let ov ← holding [v] (eval o X.env)
      let iv ← holding [v, ov] (eval i X.env)
      standAt apos
      holding [v, ov, iv] (setItem ov iv v)
      release [v, ov, iv] []) := by intro _; rfl)
    (hs : swapsWithSole [.Subscript o i apos] e pos.line X.env = pure false := by rfl) (hw : swappedStores [.Subscript o i apos] e X.env = pure none := by rfl)
    (h1 : (assignEach [.Subscript o i apos] X.env).map (·.2) = [assign (.Subscript o i apos) X.env] := by rfl) :
    SS X W (.Assign [.Subscript o i apos] e pos) (tAsg te (L2.gSub to ti rSetL)) (gSetIx fo fi fe) := by
  refine ⟨ps_asg he.pe (pg_sub ho.pe hi.pe set_list ha) hs hw h1, fun F S H σ ρ D hK fok er hp => ?_⟩
  refine he.goSF hK fok er hp fun d ρ1 v S1 H1 t1 er1 rp1 hp1 => ?_
  refine ho.goS hK fok er1 hp1 fun r ρ2 w S2 H2 t2 er2 rr2 _ hp2 => ?_
  refine hi.goS hK fok er2 hp2 fun ri ρ3 x S3 H3 t3 er3 rr3 _ hp3 => ?_
  have rr2' := rr2.tr er2 t3 (er3.len.trans er2.len.symm)
  have rp3 := (rp1.tr er1 t2).tr er2 t3
  cases ri with
  | own m => exact hp3.elim
  | slot k => exact hp3.elim
  | val i =>
    have hp3 : PostS F W S3 H3 (match withSlot ρ3 r fun j s m => setD j s i d ρ3 m with | some ρ4 => .nx ρ4 | none => .bad) D := hp3
    cases q : withSlot ρ3 r fun j s m => setD j s i d ρ3 m with
    | none => simp only [q] at hp3; exact hp3.elim
    | some ρ4 =>
      simp only [q] at hp3
      obtain ⟨j, s, m, rfl, e1, em, ek⟩ := withSlot_some q
      obtain ⟨a, ea, sa, _, ok, _⟩ := er3.mo e1 em
      rw [rr2'.1] at ea
      cases ea
      cases m with
      | dT _ => cases ek
      | dK _ => cases ek
      | lst ds =>
        cases i with
        | int k =>
          simp only [setD] at ek
          cases en : ixN ds.length k with
          | none => simp [en] at ek
          | some n =>
            simp only [en, Option.some.injEq] at ek
            subst ek
            cases (show Rp F.K S3 H3 x (.int k) from rr3)
            obtain ⟨vs, eh, hr⟩ := ok
            obtain ⟨t4, er4⟩ := er3.wLst e1 em rr2'.1 (hr.set n rp3)
            exact ⟨a, vs, k, n, rfl, rfl, eh, by rw [hr.length]; exact en, hp3 _ S3 _ (t4.s er3) er4⟩
        | _ => simp [setD] at ek
/-- d[k] = e -/
def putKD {κ : Type} [DecidableEq κ] (es : List (κ × PyData)) (k : κ) (d : PyData) : List (κ × PyData) :=
  if (es.any fun p => decide (p.1 = k)) = true then es.map (fun p => if p.1 = k then (p.1, d) else p) else es ++ [(k, d)]
def setK (j : Nat) (s : Slot) (i d : PyData) (ρ : Rho) : MO → Option Rho
  | .lst _ => none
  | .dT es => (match i with
    | .tuple xs => (match keysOf xs with
      | some ks => if es.length < 16777216 then some (ρ.set j (s.put (.dT (putKD es ks d)))) else none
      | none => none)
    | _ => none)
  | .dK es => (match keyOf i with
    | some k => if es.length < 16777216 then some (ρ.set j (s.put (.dK (putKD es k d)))) else none
    | none => none)
def gSetK (fo fi fe : EF) : SF := fun ρ => toSF (fe ρ) fun d ρ1 => toS (fo ρ1) fun r ρ2 => toS (fi ρ2) fun ri ρ3 => match deref ρ3 ri with
  | some i => (match withSlot ρ3 r fun j s m => setK j s i d ρ3 m with
    | some ρ4 => .nx ρ4
    | none => .bad)
  | none => .bad
theorem putKD_rp {κ : Type} [DecidableEq κ] {K : PySem.W.Frag} {S : AS} {H : Hp} {k : κ} {v : V} {d : PyData} (h : Rp K S H v d) : ∀ {kvs : List (κ × V)} {es : List (κ × PyData)}, kvs.map (·.1) = es.map (·.1) → RpA K S H (kvs.map (·.2)) (es.map (·.2)) →
    (putK kvs k v).map (·.1) = (putKD es k d).map (·.1) ∧ RpA K S H ((putK kvs k v).map (·.2)) ((putKD es k d).map (·.2)) := by
  intro kvs es e hs
  have any_eq : ∀ {kvs : List (κ × V)} {es : List (κ × PyData)}, kvs.map (·.1) = es.map (·.1) → (kvs.any fun kv => decide (kv.1 = k)) = (es.any fun p => decide (p.1 = k)) := by
    intro kvs
    induction kvs with
    | nil => intro es e; cases es with
      | nil => rfl
      | cons _ _ => simp at e
    | cons p kvs ih => intro es e; cases es with
      | nil => simp at e
      | cons q es =>
        simp only [List.map_cons, List.cons.injEq] at e
        simp only [List.any_cons, ih e.2, e.1]
  have map_ok : ∀ {kvs : List (κ × V)} {es : List (κ × PyData)}, kvs.map (·.1) = es.map (·.1) → RpA K S H (kvs.map (·.2)) (es.map (·.2)) →
      (kvs.map fun kv => if kv.1 = k then (kv.1, v) else kv).map (·.1) = (es.map fun p => if p.1 = k then (p.1, d) else p).map (·.1) ∧ RpA K S H ((kvs.map fun kv => if kv.1 = k then (kv.1, v) else kv).map (·.2)) ((es.map fun p => if p.1 = k then (p.1, d) else p).map (·.2)) := by
    intro kvs
    induction kvs with
    | nil => intro es e hs; cases es with
      | nil => exact ⟨rfl, .nil⟩
      | cons _ _ => simp at e
    | cons p kvs ih => intro es e hs; cases es with
      | nil => simp at e
      | cons q es =>
        simp only [List.map_cons, List.cons.injEq] at e
        cases hs with
        | cons h1 h2 =>
          obtain ⟨i1, i2⟩ := ih e.2 h2
          by_cases z : p.1 = k
          · have z' : q.1 = k := by rw [← e.1]; exact z
            simp only [List.map_cons, if_pos z, if_pos z']
            exact ⟨by rw [i1, e.1], .cons h i2⟩
          · have z' : ¬ q.1 = k := by rw [← e.1]; exact z
            simp only [List.map_cons, if_neg z, if_neg z']
            exact ⟨by rw [i1, e.1], .cons h1 i2⟩
  unfold putK putKD
  rw [any_eq e]
  split
  · exact map_ok e hs
  · rw [List.map_append, List.map_append, List.map_append, List.map_append, e]
    exact ⟨rfl, hs.append (RpA.one h)⟩
theorem ss_setK {i : Expr} {ti : TE} {fi : EF} (hu : X.A.units + 1 < cLine) (he : SE X W e te fe) (ho : SE X W o to fo) (hi : SE X W i ti fi) (hs : swapsWith e (some (.Subscript o i apos)) pos.line X.env = pure false := by rfl) :
    SS X W (.Assign [.Subscript o i apos] e pos) (sDPut to ti te) (gSetK fo fi fe) := by
  refine ⟨ps_dput hu ho.pe hi.pe he.pe hs, fun F S H σ ρ D hK fok er hp => ?_⟩
  refine he.goSF hK fok er hp fun d ρ1 v S1 H1 t1 er1 rp1 hp1 => ?_
  refine ho.goS hK fok er1 hp1 fun r ρ2 w S2 H2 t2 er2 rr2 _ hp2 => ?_
  refine hi.goS hK fok er2 hp2 fun ri ρ3 x S3 H3 t3 er3 rr3 _ hp3 => ?_
  have rr2' := rr2.tr er2 t3 (er3.len.trans er2.len.symm)
  have rp3 := (rp1.tr er1 t2).tr er2 t3
  have hp3 : PostS F W S3 H3 (match deref ρ3 ri with
    | some i => (match withSlot ρ3 r fun j s m => setK j s i d ρ3 m with
      | some ρ4 => .nx ρ4
      | none => .bad)
    | none => .bad) D := hp3
  cases qi : deref ρ3 ri with
  | none => simp only [qi] at hp3; exact hp3.elim
  | some i =>
    simp only [qi] at hp3
    have rti := rr3.rt er3 qi
    cases q : withSlot ρ3 r fun j s m => setK j s i d ρ3 m with
    | none => simp only [q] at hp3; exact hp3.elim
    | some ρ4 =>
      simp only [q] at hp3
      obtain ⟨j, s, m, rfl, e1, em, ek⟩ := withSlot_some q
      obtain ⟨a, ea, sa, _, ok, mb⟩ := er3.mo e1 em
      rw [rr2'.1] at ea
      cases ea
      have ne : ∀ m', s.put m' ≠ .no := fun m' => by rcases Slot.mo_cases em with q | q <;> (subst q; exact fun z => nomatch z)
      have off : ∀ (o : HO) b o', H3 b = some o' → ¬ S3 b → upd H3 a o b = some o' := fun o b o' e n => by
        rw [upd_ne fun z => n (by rw [z]; exact sa)]
        exact e
      cases m with
      | lst _ => cases ek
      | dT es =>
        cases i with
        | tuple xs =>
          simp only [setK] at ek
          cases ks : keysOf xs with
          | none => simp [ks] at ek
          | some ks' =>
            simp only [ks] at ek
            by_cases hz : es.length < 16777216
            · rw [if_pos hz] at ek
              cases ek
              obtain ⟨kvs, eh, hk, hr⟩ := ok
              obtain ⟨rfl, b, rfl, hb⟩ := rti.keyT ks
              have hl : kvs.length = es.length := by have := congrArg List.length hk; simpa using this
              obtain ⟨p1, p2⟩ := putKD_rp (k := ks') rp3 hk hr
              refine ⟨a, _, rfl, .t eh hb (by rw [hl, sizeLine_eq]; exact hz), hp3 _ S3 _ (Tr.s er3 (Tr.write (s := s.put (.dT (putKD es ks' d))) mb (ne _))) (er3.write e1 em rr2'.1 (m' := .dT (putKD es ks' d)) ⟨_, upd_same, p1, p2.mono (off _) fun _ z => .inl z⟩)⟩
            · rw [if_neg hz] at ek
              cases ek
        | _ => simp [setK] at ek
      | dK es =>
        simp only [setK] at ek
        cases ks : keyOf i with
        | none => simp [ks] at ek
        | some k =>
          simp only [ks] at ek
          by_cases hz : es.length < 16777216
          · rw [if_pos hz] at ek
            cases ek
            obtain ⟨kvs, eh, hk, hr⟩ := ok
            obtain ⟨rfl, rfl⟩ := rti.key ks
            have hl : kvs.length = es.length := by have := congrArg List.length hk; simpa using this
            obtain ⟨p1, p2⟩ := putKD_rp (k := k) rp3 hk hr
            refine ⟨a, _, rfl, .k eh (by rw [hl, sizeLine_eq]; exact hz), hp3 _ S3 _ (Tr.s er3 (Tr.write (s := s.put (.dK (putKD es k d))) mb (ne _))) (er3.write e1 em rr2'.1 (m' := .dK (putKD es k d)) ⟨_, upd_same, p1, p2.mono (off _) fun _ z => .inl z⟩)⟩
          · rw [if_neg hz] at ek
            cases ek
end
end Pv
set_option maxRecDepth 100000
/-! PvJ: while, for, a def's body. -/
namespace Pv
open PySem PySem.Spec L2

def fuel : Nat := 1000
def whileL (test : TF) (body : SF) : Nat → Rho → SO
  | 0, _ => .bad
  | n + 1, ρ => match test ρ with
    | .ok true ρ1 => (match body ρ1 with
      | .nx ρ2 => whileL test body n ρ2
      | .ct ρ2 => whileL test body n ρ2
      | .bk ρ2 => .nx ρ2
      | o => o)
    | .ok false ρ1 => .nx ρ1
    | .ex x ρ1 => .ex x ρ1
    | .bad => .bad
def gWhile (test : TF) (body : SF) : SF := fun ρ => whileL test body fuel ρ
section
variable {X : Cx} {W : WX} {c : Expr} {body : List Stmt} {tc : TT} {tb : TS} {gc : TF} {gb : SF} {pos : Pos}
theorem ss_while (hp : PassesOwn (model X.prog X.w) X.A X.env X.xe) (hc : ST X W c tc gc) (hb : SSs X W body tb gb) : SS X W (.While c body [] pos) (tWhile tc tb) (gWhile gc gb) := by
  refine ⟨ps_while hp hc.pt hb.ps, fun F S H σ ρ D hK fok er hq => ?_⟩
  refine ⟨fun n σ' H' => ∃ S' ρ', TrS S H S' H' ∧ ER F S' H' σ' ρ' ∧ PostS F W S' H' (whileL gc gb n ρ') D, ⟨fuel, S, ρ, .refl, er, hq⟩, ?_⟩
  rintro n σ1 H1 ⟨S1, ρ1, t1, er1, hq1⟩
  cases n with
  | zero => exact hq1.elim
  | succ n =>
    have e : whileL gc gb (n + 1) ρ1 = toS (gc ρ1) fun b ρ2 => if b = true then (match gb ρ2 with
        | .nx ρ3 => whileL gc gb n ρ3
        | .ct ρ3 => whileL gc gb n ρ3
        | .bk ρ3 => .nx ρ3
        | o => o) else .nx ρ2 := by
      unfold toS
      show (match gc ρ1 with
        | .ok true ρ1 => _
        | .ok false ρ1 => _
        | .ex x ρ1 => _
        | .bad => _) = _
      cases gc ρ1 with
      | ok b ρ2 => cases b <;> rfl
      | ex x ρ2 => rfl
      | bad => rfl
    rw [e] at hq1
    refine hc.goS hK fok er1 hq1 fun b ρ2 S2 H2 t2 er2 hq2 => ?_
    cases b with
    | false => exact iteF (hq2 σ1 S2 H2 .refl er2)
    | true =>
      refine iteT ⟨fun σ' H' => ∃ S' ρ', TrS S H S' H' ∧ ER F S' H' σ' ρ' ∧ PostS F W S' H' (whileL gc gb n ρ') D, fun σ' H' h => ⟨n, Nat.lt_succ_self n, h⟩, ?_⟩
      have t12 := t1.trans (t2.s er1)
      have hq2 : PostS F W S2 H2 (match gb ρ2 with
        | .nx ρ3 => whileL gc gb n ρ3
        | .ct ρ3 => whileL gc gb n ρ3
        | .bk ρ3 => .nx ρ3
        | o => o) D := hq2
      refine hb.sn F S2 H2 σ1 ρ2 _ hK fok er2 ?_
      cases q : gb ρ2 with
      | nx ρ3 => rw [q] at hq2; exact fun σ3 S3 H3 t3 er3 => ⟨S3, ρ3, t12.trans t3, er3, hq2.shift t3⟩
      | ct ρ3 => rw [q] at hq2; exact fun σ3 S3 H3 t3 er3 => ⟨S3, ρ3, t12.trans t3, er3, hq2.shift t3⟩
      | bk ρ3 => rw [q] at hq2; exact hq2
      | rt r ρ3 => rw [q] at hq2; exact hq2
      | ex x ρ3 => rw [q] at hq2; exact hq2
      | bad => rw [q] at hq2; exact hq2
end

/-! ### what is walked -/
/-- at a state the iterator gives the items ds, whatever happens to things of S -/
def ItR (K : PySem.W.Frag) (S : AS) (H : Hp) (J : It) (ds : List PyData) : Prop := ∀ S' H', TrS S H S' H' →
  (∀ i, i < ds.length → J.go i H' ∧ ∀ x H'', J.yld i H' x H'' → ∃ d, ds[i]? = some d ∧ (∀ b o, H' b = some o → H'' b = some o) ∧ Rp K S' H'' x d) ∧ ∀ i, ds.length ≤ i → J.stop i H'
theorem ItR.tr {K : PySem.W.Frag} {S S1 : AS} {H H1 : Hp} {J : It} {ds : List PyData} (h : ItR K S H J ds) (t : TrS S H S1 H1) : ItR K S1 H1 J ds := fun S' H' t' => h S' H' (t.trans t')
def PostI (F : Fx) (W : WX) (S : AS) (H : Hp) (σ : St) (ρ : Rho) (o : Out (List PyData)) (Rr : It → Hp → Prop) : Prop := match o with
  | .ok ds ρ' => ∀ J S' H', Tr S H σ ρ S' H' ρ' → ER F S' H' σ ρ' → ItR F.K S' H' J ds → Rr J H'
  | .ex x ρ' => ∀ cls dx S' H', Tr S H σ ρ S' H' ρ' → ER F S' H' σ ρ' → XR F S' H' x cls dx → W cls dx σ H'
  | .bad => False
abbrev IF := Rho → Out (List PyData)
structure SI (X : Cx) (W : WX) (tg iter : Expr) (wi : TI) (f : IF) : Prop where
  pi : PI X tg iter wi
  sn : ∀ (F : Fx) (S : AS) (H : Hp) (σ : St) (ρ : Rho) (Rr : It → Hp → Prop), F.K = X.K → F.Ok → ER F S H σ ρ → PostI F W S H σ ρ (f ρ) Rr → wi σ H Rr
theorem PostI.shift {F : Fx} {W : WX} {S S1 : AS} {H H1 : Hp} {σ : St} {ρ ρ1 : Rho} {Rr : It → Hp → Prop} (er : ER F S H σ ρ) (t : Tr S H σ ρ S1 H1 ρ1) {o : Out (List PyData)} (h : PostI F W S H σ ρ o Rr) : PostI F W S1 H1 σ ρ1 o Rr := by
  cases o with
  | ok r ρ' => exact fun J S' H' t' er' rr => h J S' H' (t.trans er t') er' rr
  | ex x ρ' => exact fun cls dx S' H' t' er' xr => h cls dx S' H' (t.trans er t') er' xr
  | bad => exact h
def wI (F : Fx) (W : WX) (σ : St) (Rr : It → Hp → Prop) : Wish F W σ (List PyData) := ⟨fun S H ρ o => PostI F W S H σ ρ o Rr, fun er t h => h.shift er t, fun h => h, fun h => h⟩
section
variable {K : PySem.W.Frag} {S : AS} {H : Hp} {a b : Addr} {xs ys : List V} {ds es : List PyData}
theorem LAt.trS {S' : AS} {H' : Hp} (h : LAt K S H a xs) (t : TrS S H S' H') : LAt K S' H' a xs := by
  rcases h with ⟨n, h⟩ | h
  · refine .inl ⟨fun q => ?_, ?_⟩
    · rcases t.new _ q with q | q
      · exact n q
      · rcases h with h | ⟨o, h⟩ <;> (rw [q] at h; cases h)
    · rcases h with h | ⟨o, h⟩
      · exact .inl (t.off _ _ h n)
      · exact .inr ⟨o, t.off _ _ h n⟩
  · exact .inr h
theorem itr_list (h : LAt K S H a xs) (hs : RpA K S H xs ds) : ItR K S H (Itl K a) ds := fun S' H' t => by
  have q := (h.trS t).seq
  have hs' := hs.trS t
  have hl := hs.length
  refine ⟨fun i hi => ⟨⟨xs, xs[i], q, by simp [hl ▸ hi]⟩, fun x H'' y => ?_⟩, fun i hi => ⟨xs, q, by omega⟩⟩
  obtain ⟨rfl, y⟩ := y
  obtain ⟨d, e, rp⟩ := hs'.getV (y xs q)
  exact ⟨d, e, fun _ _ e => e, rp⟩
theorem itr_tup (n : ¬ S a) (h : H a = some (.tup xs)) (hs : RpA K S H xs ds) : ItR K S H (Itt K a) ds := fun S' H' t => by
  have q : SqT K H' a xs := SqT.of (t.off _ _ h n)
  have hs' := hs.trS t
  have hl := hs.length
  refine ⟨fun i hi => ⟨⟨xs, xs[i], q, by simp [hl ▸ hi]⟩, fun x H'' y => ?_⟩, fun i hi => ⟨xs, q, by omega⟩⟩
  obtain ⟨rfl, y⟩ := y
  obtain ⟨d, e, rp⟩ := hs'.getV (y xs q)
  exact ⟨d, e, fun _ _ e => e, rp⟩
/-- lo, lo + 1, .. -/
def rangeD (lo : Int) (n : Nat) : List PyData := (List.range n).map fun i => .int (lo + (i : Nat))
theorem rangeD_length (lo : Int) (n : Nat) : (rangeD lo n).length = n := by simp [rangeD]
theorem rangeD_get (lo : Int) {n i : Nat} (h : i < n) : (rangeD lo n)[i]? = some (.int (lo + (i : Nat))) := by
  simp [rangeD, h]
theorem itr_range (lo : Int) (n : Nat) : ItR K S H (Itr lo n) (rangeD lo n) := fun S' H' t => by
  refine ⟨fun i hi => ?_, fun i hi => by rw [rangeD_length] at hi; exact hi⟩
  rw [rangeD_length] at hi
  refine ⟨hi, fun x H'' y => ?_⟩
  obtain ⟨rfl, rfl⟩ := y
  exact ⟨_, rangeD_get lo hi, fun _ _ e => e, .int _⟩
/-- a new pair at each turn -/
theorem rp_pair {S' : AS} {H' : Hp} {T : Addr} {x y : V} {d e : PyData} (dom : ∀ a, S' a → H' a ≠ none) (hT : H' T = none) (hx : Rp K S' H' x d) (hy : Rp K S' H' y e) : Rp K S' (upd H' T (.tup [x, y])) (.ref T) (.tuple [d, e]) :=
  have same : ∀ b o, H' b = some o → ¬ S' b → upd H' T (.tup [x, y]) b = some o := fun b o e _ => by rw [upd_ne (ne_of_none e hT)]; exact e
  .tup (fun z => dom _ z hT) upd_same (.cons (hx.mono same fun _ z => .inl z) (.cons (hy.mono same fun _ z => .inl z) .nil))
end

/-! ### for -/
def forL (tg : GF) (body : SF) : List PyData → Rho → SO
  | [], ρ => .nx ρ
  | d :: ds, ρ => match tg d ρ with
    | none => .bad
    | some ρ1 => (match body ρ1 with
      | .nx ρ2 => forL tg body ds ρ2
      | .ct ρ2 => forL tg body ds ρ2
      | .bk ρ2 => .nx ρ2
      | o => o)
def gFor (fi : IF) (tg : GF) (body : SF) : SF := fun ρ => toS (fi ρ) fun ds ρ1 => forL tg body ds ρ1
section
variable {X : Cx} {W : WX} {tg iter e : Expr} {body : List Stmt} {wi : TI} {t : TG} {tb : TS} {fi : IF} {gt : GF} {gb : SF} {pos : Pos} {te : TE} {f : EF} {is : List Nat}
theorem ss_for (hp : PassesOwn (model X.prog X.w) X.A X.env X.xe) (hc : X.calm = true) (hi : SI X W tg iter wi fi) (hg : SG X tg t gt is) (hb : SSs X W body tb gb) (hs : ∀ x, foldedSetIterable iter X.env x = pure x := by intro _; rfl) :
    SS X W (.For tg iter body [] pos) (tFor wi t tb) (gFor fi gt gb) := by
  refine ⟨ps_for hp hc hi.pi hg.pg hb.ps hs, fun F S H σ ρ D hK fok er hq => ?_⟩
  refine hi.sn F S H σ ρ _ hK fok er ?_
  unfold gFor at hq
  cases q : fi ρ with
  | ex x ρ1 => rw [q] at hq; exact fun cls dx S1 H1 t1 er1 xr => hq cls dx σ S1 H1 (t1.s er) er1 xr
  | bad => rw [q] at hq; exact hq
  | ok ds ρ1 =>
    rw [q] at hq
    intro J S1 H1 t1 er1 it
    have hq1 : PostS F W S1 H1 (forL gt gb ds ρ1) D := PostS.shift (t1.s er) hq
    refine ⟨fun i m σ' H' => ∃ S' ρ', m = ds.length - i ∧ i ≤ ds.length ∧ TrS S1 H1 S' H' ∧ ER F S' H' σ' ρ' ∧ PostS F W S' H' (forL gt gb (ds.drop i) ρ') D,
      ⟨ds.length, S1, ρ1, by simp, Nat.zero_le _, .refl, er1, hq1⟩, ?_⟩
    rintro i m σ2 H2 ⟨S2, ρ2, rfl, hle, t2, er2, hq2⟩
    obtain ⟨itgo, itstop⟩ := it S2 H2 t2
    by_cases hlt : i < ds.length
    · obtain ⟨hgo, hy⟩ := itgo i hlt
      refine .inr ⟨hgo, fun σ' H' => ∃ S' ρ', TrS S1 H1 S' H' ∧ ER F S' H' σ' ρ' ∧ PostS F W S' H' (forL gt gb (ds.drop (i + 1)) ρ') D, fun σ' H' ⟨S', ρ', a1, a2, a3⟩ => ⟨ds.length - (i + 1), by omega, S', ρ', rfl, hlt, a1, a2, a3⟩, fun x H3 y => ?_⟩
      obtain ⟨d, ed, same, rp⟩ := hy x H3 y
      have t23 : TrS S2 H2 S2 H3 := ⟨fun b o e _ => same b o e, fun _ z => .inl z, fun a z => by
        cases w : H2 a with
        | none => exact absurd w z
        | some o => rw [same a o w]; exact fun z => nomatch z⟩
      have er3 : ER F S2 H3 σ2 ρ2 := er2.grow same (fun _ z => .inl z) (fun _ z => z) fun a z => t23.stay a (er2.dom a z)
      have ed' : ds.drop i = d :: ds.drop (i + 1) := by
        rw [List.drop_eq_getElem_cons hlt]
        congr 1
        rw [List.getElem?_eq_getElem hlt] at ed
        exact Option.some.inj ed
      rw [ed'] at hq2
      have hq3 := hq2.shift t23
      unfold forL at hq3
      cases w : gt d ρ2 with
      | none => simp only [w] at hq3; exact hq3.elim
      | some ρ3 =>
        simp only [w] at hq3
        refine hg.sn F S2 H3 σ2 ρ2 ρ3 x d _ hK fok er3 rp w fun σ4 _ er4 => ?_
        refine hb.sn F S2 H3 σ4 ρ3 _ hK fok er4 ?_
        cases u : gb ρ3 with
        | nx ρ5 => rw [u] at hq3; exact fun σ5 S5 H5 t5 er5 => ⟨S5, ρ5, (t2.trans t23).trans t5, er5, hq3.shift t5⟩
        | ct ρ5 => rw [u] at hq3; exact fun σ5 S5 H5 t5 er5 => ⟨S5, ρ5, (t2.trans t23).trans t5, er5, hq3.shift t5⟩
        | bk ρ5 => rw [u] at hq3; exact hq3
        | rt r ρ5 => rw [u] at hq3; exact hq3
        | ex x ρ5 => rw [u] at hq3; exact hq3
        | bad => rw [u] at hq3; exact hq3
    · have e : i = ds.length := by omega
      subst e
      rw [List.drop_length] at hq2
      exact .inl ⟨itstop _ (Nat.le_refl _), hq2 σ2 S2 H2 .refl er2⟩

/-! ### the iterators -/
def seqD : PyData → Option (List PyData)
  | .list ds => some ds
  | .tuple ds => some ds
  | _ => none
def fISeq (f : EF) : IF := fun ρ => bindF (f ρ) fun d ρ1 => match seqD d with
  | some ds => .ok ds ρ1
  | none => .bad
def iSeq (K : PySem.W.Frag) (tl : TE) : TI := fun σ H R => tl σ H fun x H1 => ∃ a, x = .ref a ∧ ((∃ xs, SqL K H1 a xs) ∧ R (Itl K a) H1 ∨ (∃ xs, SqT K H1 a xs) ∧ R (Itt K a) H1)
theorem pi_seq {l : Expr} {tl : TE} (hl : PE X l tl) : PI X tg l (iSeq X.K tl) := by
  refine ⟨fun pins s σ H R I h => ?_⟩
  refine thn (hl.run pins s σ H _ I h) fun v s1 ⟨x, H1, I1, r1, q1⟩ => ?_
  obtain ⟨a, e, q⟩ := q1
  subst e
  cases r1
  rcases q with ⟨⟨xs, hq⟩, q⟩ | ⟨⟨xs, hq⟩, q⟩
  · obtain ⟨its, rv, p, hz⟩ := I1.list hq
    refine wpAny_pyIter_list p.isList ?_
    refine ⟨s1.heap.objs.size, [s1.heap.objs.size], _, _, H1, rfl, I1.kept (t' := s1.toks) fun b o e => Heap.get?_push_of_some _ e, turn_list a _, ⟨_, Heap.get?_push_size _ rfl, rfl, rfl⟩, fun b hb => ?_, q⟩
    have e : b = s1.heap.objs.size := by simpa using hb
    subst e
    exact I1.fpOk (Nat.le_refl _) (I1.hok.fresh (Nat.le_refl _))
  · obtain ⟨its, rv, p, hz⟩ := I1.tuple hq
    refine wpAny_pyIter_tuple (show s1.heap.IsTuple a its.toArray from p) ?_
    refine ⟨s1.heap.objs.size, [s1.heap.objs.size], _, _, H1, rfl, I1.kept (t' := s1.toks) fun b o e => Heap.get?_push_of_some _ e, turn_tuple a _, ⟨_, Heap.get?_push_size _ rfl, rfl, rfl⟩, fun b hb => ?_, q⟩
    have e : b = s1.heap.objs.size := by simpa using hb
    subst e
    exact I1.fpOk (Nat.le_refl _) (I1.hok.fresh (Nat.le_refl _))
theorem si_seq {l : Expr} {tl : TE} {fl : EF} (hl : SE X W l tl fl) : SI X W tg l (iSeq X.K tl) (fISeq fl) := by
  refine ⟨pi_seq hl.pe, fun F S H σ ρ Rr hK fok er hp => ?_⟩
  refine hl.goF hK fok er (wI F W σ Rr) hp fun d ρ1 v S1 H1 t1 er1 rp hp1 => ?_
  have hp1 : PostI F W S1 H1 σ ρ1 (match seqD d with | some ds => .ok ds ρ1 | none => .bad) Rr := hp1
  cases d with
  | list ds =>
    cases rp with
    | lst h hs => exact ⟨_, rfl, .inl ⟨⟨_, by rw [← hK]; exact h.seq⟩, hp1 _ S1 H1 .refl er1 (by rw [← hK]; exact itr_list h hs)⟩⟩
  | tuple ds =>
    cases rp with
    | tup n h hs => exact ⟨_, rfl, .inr ⟨⟨_, SqT.of h⟩, hp1 _ S1 H1 .refl er1 (by rw [← hK]; exact itr_tup n h hs)⟩⟩
  | none => exact hp1.elim
  | bool _ => exact hp1.elim
  | int _ => exact hp1.elim
  | str _ => exact hp1.elim
  | dict _ => exact hp1.elim
def okR : Int → Bool
  | .ofNat n => decide (n < 4611686018427387904)
  | .negSucc n => decide (n < 4611686018427387903)
theorem okR_ok {i : Int} (h : okR i = true) : -(2 ^ 62) ≤ i ∧ i < 2 ^ 62 := by
  cases i with
  | ofNat n =>
    have h := of_decide_eq_true (show decide (n < 4611686018427387904) = true from h)
    constructor <;> simp <;> omega
  | negSucc n =>
    have h := of_decide_eq_true (show decide (n < 4611686018427387903) = true from h)
    constructor <;> omega
def int1? : List R → Option Int
  | [.val (.int j)] => some j
  | _ => none
def int2? : List R → Option (Int × Int)
  | [.val (.int i), .val (.int j)] => some (i, j)
  | _ => none
theorem int1?_eq {rs : List R} {j : Int} (h : int1? rs = some j) : rs = [.val (.int j)] := by
  unfold int1? at h
  split at h
  · cases h; rfl
  · cases h
theorem int2?_eq {rs : List R} {i j : Int} (h : int2? rs = some (i, j)) : rs = [.val (.int i), .val (.int j)] := by
  unfold int2? at h
  split at h
  · cases h; rfl
  · cases h
def fIRng1 (fr : RF) : IF := fun ρ => (fr ρ).bind fun rs ρ1 => match int1? rs with
  | some j => if okR j = true then .ok (rangeD 0 j.toNat) ρ1 else .bad
  | none => .bad
def fIRng2 (fr : RF) : IF := fun ρ => (fr ρ).bind fun rs ρ1 => match int2? rs with
  | some (i, j) => if okR i && okR j then .ok (rangeD i (j - i).toNat) ρ1 else .bad
  | none => .bad
theorem si_range1 {a : Expr} {ta : TA} {fr : RF} {p : Pos} (hg : Gl X "range") (hm : X.mg "range" = none) (ha : SAr X W [a] ta fr) (hs : starEach [a] X.env = [(false, eval a X.env)] := by rfl) : SI X W tg (.Call (.Name "range" p) [a] [] pos) (iRng1 ta) (fIRng1 fr) := by
  refine ⟨pi_range1 hg hm ha.pa hs, fun F S H σ ρ Rr hK fok er hp => ?_⟩
  refine ha.go hK fok er (wI F W σ Rr) hp fun rs ρ1 vs S1 H1 t1 er1 rr hp1 => ?_
  have hp2 : PostI F W S1 H1 σ ρ1 (match int1? rs with
    | some j => if okR j = true then .ok (rangeD 0 j.toNat) ρ1 else .bad
    | none => .bad) Rr := hp1
  cases q : int1? rs with
  | none => simp only [q] at hp2; exact hp2.elim
  | some j =>
    simp only [q] at hp2
    have e := int1?_eq q
    subst e
    cases rr with
    | cons h h2 =>
      cases h2
      cases (show Rp F.K S1 H1 _ (.int j) from h)
      by_cases hz : okR j = true
      · rw [if_pos hz] at hp2
        have hz := okR_ok hz
        exact ⟨j, rfl, hz.1, hz.2, hp2 _ S1 H1 .refl er1 (itr_range 0 _)⟩
      · rw [if_neg hz] at hp2
        exact hp2.elim
theorem si_range2 {a b : Expr} {ta : TA} {fr : RF} {p : Pos} (hg : Gl X "range") (hm : X.mg "range" = none) (ha : SAr X W [a, b] ta fr) (hs : starEach [a, b] X.env = [(false, eval a X.env), (false, eval b X.env)] := by rfl) (hs2 : starEach [b] X.env = [(false, eval b X.env)] := by rfl) :
    SI X W tg (.Call (.Name "range" p) [a, b] [] pos) (iRng2 ta) (fIRng2 fr) := by
  refine ⟨pi_range2 hg hm ha.pa hs hs2, fun F S H σ ρ Rr hK fok er hp => ?_⟩
  refine ha.go hK fok er (wI F W σ Rr) hp fun rs ρ1 vs S1 H1 t1 er1 rr hp1 => ?_
  have hp2 : PostI F W S1 H1 σ ρ1 (match int2? rs with
    | some (i, j) => if okR i && okR j then .ok (rangeD i (j - i).toNat) ρ1 else .bad
    | none => .bad) Rr := hp1
  cases q : int2? rs with
  | none => simp only [q] at hp2; exact hp2.elim
  | some p =>
    obtain ⟨i, j⟩ := p
    simp only [q] at hp2
    have e := int2?_eq q
    subst e
    cases rr with
    | cons h h2 =>
      cases h2 with
      | cons h2 h3 =>
        cases h3
        cases (show Rp F.K S1 H1 _ (.int i) from h)
        cases (show Rp F.K S1 H1 _ (.int j) from h2)
        by_cases hz : (okR i && okR j) = true
        · rw [if_pos hz] at hp2
          rw [Bool.and_eq_true] at hz
          have z1 := okR_ok hz.1
          have z2 := okR_ok hz.2
          exact ⟨i, j, rfl, ⟨z1.1, z1.2, z2.1, z2.2⟩, hp2 _ S1 H1 .refl er1 (itr_range i _)⟩
        · rw [if_neg hz] at hp2
          exact hp2.elim
end

/-! ### a def's body -/
def lentM (ρ : Rho) : Option MO := ρ.findSome? fun s => match s with
  | .lent m => some m
  | _ => none
def resolve (r : R) (ρ : Rho) : Option R := match r with
  | .val d => some (.val d)
  | .own m => some (.own m)
  | .slot i => (match ρ[i]? with
    | some (.val d) => some (.val d)
    | some (.own m) => some (.own m)
    | _ => none)
def outFn : SO → FOut
  | .nx ρ => .ok (.val .none) (lentM ρ)
  | .rt r ρ => (match resolve r ρ with
    | some r' => .ok r' (lentM ρ)
    | none => .bad)
  | .ex x ρ => .ex x (lentM ρ)
  | _ => .bad
def fnF (n : Nat) (g : SF) : FN := fun ss => outFn (g (ss ++ List.replicate (n - ss.length) .no))
theorem lentM_of {ρ : Rho} {i : Nat} {m : MO} (h : ρ[i]? = some (.lent m)) (one : ∀ j m', ρ[j]? = some (.lent m') → j = i) : lentM ρ = some m := by
  induction ρ generalizing i with
  | nil => simp at h
  | cons s ρ ih =>
    unfold lentM
    rw [List.findSome?_cons]
    cases s with
    | lent m' =>
      have e := one 0 m' rfl
      subst e
      simp at h
      simp [h]
    | _ =>
      cases i with
      | zero => simp at h
      | succ i => exact ih (i := i) (by simpa using h) fun j m' hj => Nat.succ.inj (one (j + 1) m' (by simpa using hj))
section
variable {P : Program} {w : World} {K : PySem.W.Frag} {mg : Str → Option Value} {base : Heap}
theorem fn_pv {x qual : Str} {st : Stmt} {f : Addr} {fd : FuncData} {N ps : List Str} {k : Nat} {g : SF} (F : Fun K x qual st f fd) (Sc : FnScope N ps (defScope st))
    (hbody : ∀ (cdv : Value) (A : Around) (outer : List Env) (s : Shared) (H : Hp) (E : XK), Room k (A.deeper (PyProof.Rows.envOfC qual (defScope st) s.heap.objs.size f cdv)) →
      ∃ t, SSs (cxOf (L2.CX P w) P w K mg base N qual (defScope st) f cdv A outer s H E) (fun cls d _ H => E cls d H) (defBody st) t g) : FnOk P w K mg base (L2.CX P w) (k + 1) f fd ps (spF K ps.length (fnF N.length g)) := by
  refine F.okX Sc spF_len fun cdv A outer s H vs Q E hr hsp => ?_
  obtain ⟨t, ht⟩ := hbody cdv A outer s H E hr
  refine ⟨t, ht.ps, ?_⟩
  obtain ⟨S, ss, hl, ar, ho, dom, post⟩ := hsp
  have hvl : vs.length = ss.length := ar.length
  have hpl : ps.length ≤ N.length := by have := congrArg List.length Sc.pre; rw [List.length_take] at this; omega
  let Fx0 : Fx := ⟨K, H, S, fun i => match ss[i]?, vs[i]? with
    | some (.lent _), some (.ref a) => some a
    | _, _ => none⟩
  have hL : ∀ i a, Fx0.L i = some a → ∃ m, ss[i]? = some (.lent m) ∧ vs[i]? = some (.ref a) := fun i a h => by
    have h : (match ss[i]?, vs[i]? with
      | some (.lent _), some (.ref a) => some a
      | _, _ => none) = some a := h
    cases q : ss[i]? with
    | none => simp [q] at h
    | some s0 =>
      cases s0 with
      | lent m =>
        cases z : vs[i]? with
        | none => simp [q, z] at h
        | some v0 =>
          cases v0 with
          | ref b => simp only [q, z, Option.some.injEq] at h; subst h; exact ⟨m, rfl, rfl⟩
          | _ => simp [q, z] at h
      | _ => simp [q] at h
  have hL2 : ∀ (i : Nat) (a : Addr) (m : MO), ss[i]? = some (Slot.lent m) → vs[i]? = some (V.ref a) → Fx0.L i = some a := fun i a m h1 h2 => by
    show (match ss[i]?, vs[i]? with
      | some (.lent _), some (.ref a) => some a
      | _, _ => none) = some a
    rw [h1, h2]
  have fok : Fx0.Ok := ⟨dom, fun i a h => by
    obtain ⟨m, h1, h2⟩ := hL i a h
    obtain ⟨v, h3, h4⟩ := ar.get h1
    rw [h2] at h3; cases h3
    obtain ⟨b, e, sb, _⟩ := h4
    cases e; exact sb⟩
  have lentEq : ∀ a, Fx0.lentA a ↔ LentA vs ss a := fun a => ⟨fun ⟨i, h⟩ => by
    obtain ⟨m, h1, h2⟩ := hL i a h
    exact ⟨i, m, h1, h2⟩, fun ⟨i, m, h1, h2⟩ => ⟨i, hL2 i a m h1 h2⟩⟩
  have hle : ss.length ≤ N.length := by omega
  have rget : ∀ i (s0 : Slot), (ss ++ List.replicate (N.length - ss.length) Slot.no)[i]? = some s0 → s0 = .no ∨ ss[i]? = some s0 := fun i s0 h => by
    by_cases hi : i < ss.length
    · rw [List.getElem?_append_left hi] at h
      exact .inr h
    · rw [List.getElem?_append_right (by omega), List.getElem?_replicate] at h
      split at h
      · cases h; exact .inl rfl
      · cases h
  have sget : ∀ i v, vs[i]? = some v → (L2.start N vs)[i]? = some (some v) := fun i v h => by
    have hi : i < vs.length := (List.getElem?_eq_some_iff.mp h).1
    unfold L2.start
    rw [List.getElem?_append_left (by simpa using hi), List.getElem?_map, h]
    rfl
  have sget2 : ∀ i v, (L2.start N vs)[i]? = some (some v) → vs[i]? = some v := fun i v h => by
    unfold L2.start at h
    by_cases hi : i < vs.length
    · rw [List.getElem?_append_left (by simpa using hi), List.getElem?_map] at h
      cases q : vs[i]? with
      | none => rw [q] at h; cases h
      | some u => rw [q] at h; cases h; rfl
    · rw [List.getElem?_append_right (by simpa using hi), List.getElem?_replicate] at h
      split at h <;> cases h
  have noOwn : ∀ (i : Nat) (m : MO), ss[i]? ≠ some (Slot.own m) := fun i m h => by
    obtain ⟨v, _, h4⟩ := ar.get h
    exact h4
  have er : ER Fx0 S H (L2.start N vs) (ss ++ List.replicate (N.length - ss.length) Slot.no) := by
    refine ⟨?_, fun i s0 h => ?_, fun i j a ⟨⟨m, h1⟩, h2⟩ ⟨⟨m', h3⟩, h4⟩ => ?_, fun _ z => z, dom, fun _ _ e _ => e, fun i a h => ?_⟩
    · unfold L2.start
      simp only [List.length_append, List.length_map, List.length_replicate]
      omega
    · rcases rget i s0 h with rfl | h
      · trivial
      · obtain ⟨v, hv, h4⟩ := ar.get h
        rw [sget i v hv]
        cases s0 with
        | no => trivial
        | val d => exact ⟨v, rfl, h4⟩
        | own m => exact h4.elim
        | lent m =>
          obtain ⟨a, rfl, sa, ok⟩ := h4
          exact ⟨a, rfl, hL2 i a m h hv, sa, ok⟩
    · have l1 : ss[i]? = some (.lent m) := by
        rcases h1 with h1 | h1
        · rcases rget i _ h1 with z | z
          · cases z
          · exact absurd z (noOwn i m)
        · rcases rget i _ h1 with z | z
          · cases z
          · exact z
      have l2 : ss[j]? = some (.lent m') := by
        rcases h3 with h1 | h1
        · rcases rget j _ h1 with z | z
          · cases z
          · exact absurd z (noOwn j m')
        · rcases rget j _ h1 with z | z
          · cases z
          · exact z
      exact oneLent_inj ho l1 l2
    · obtain ⟨m, h1, h2⟩ := hL i a h
      refine ⟨m, ?_⟩
      rw [List.getElem?_append_left (List.getElem?_eq_some_iff.mp h1).1]
      exact h1
  -- the end's facts
  have endC : ∀ {σ' : St} {ρ' : Rho} {S' : AS} {H' : Hp}, TrS S H S' H' → ER Fx0 S' H' σ' ρ' → CTr vs ss S H S' H' ∧ LentR K S' H' vs ss (lentM ρ') := fun {σ' ρ' S' H'} t er' => by
    refine ⟨⟨fun b o e n => er'.fr b o e fun z => n ((lentEq b).mp z), t.new, er'.sub, er'.dom, t.stay⟩, fun a ha => ?_⟩
    obtain ⟨i, hi⟩ := (lentEq a).mpr ha
    obtain ⟨m, hm⟩ := er'.lt i a hi
    refine ⟨m, lentM_of hm fun j m' hj => ?_, ?_⟩
    · obtain ⟨b, _, lb, _⟩ := er'.at_ j _ hj
      obtain ⟨m1, h1, _⟩ := hL j b lb
      obtain ⟨m2, h2, _⟩ := hL i a hi
      exact oneLent_inj ho h1 h2
    · obtain ⟨b, _, lb, _, ok⟩ := er'.at_ i _ hm
      rw [hi] at lb; cases lb
      exact ok
  refine ht.sn Fx0 S H (L2.start N vs) _ _ rfl fok er ?_
  unfold fnF at post
  cases q : g (ss ++ List.replicate (N.length - ss.length) Slot.no) with
  | nx ρ' =>
    rw [q] at post
    intro σ' S' H' t er'
    obtain ⟨c, l⟩ := endC t er'
    exact post .non S' H' c l .non
  | rt r ρ' =>
    rw [q] at post
    intro v σ' S' H' t er' rr
    obtain ⟨c, l⟩ := endC t er'
    simp only [outFn] at post
    cases z : resolve r ρ' with
    | none => simp only [z] at post
    | some r' =>
      simp only [z] at post
      refine post v S' H' c l ?_
      cases r with
      | val d => cases z; exact rr
      | own m => cases z; obtain ⟨a, e, sa, f, ok, _⟩ := rr; exact ⟨a, e, sa, f, ok⟩
      | slot i =>
        unfold resolve at z
        cases y : ρ'[i]? with
        | none => simp [y] at z
        | some s0 =>
          have w := er'.at_ i s0 y
          cases s0 with
          | no => simp [y] at z
          | lent m => simp [y] at z
          | val d =>
            simp only [y, Option.some.injEq] at z
            subst z
            obtain ⟨x, e, w⟩ := w
            rw [rr.1] at e; cases e
            exact w
          | own m =>
            simp only [y, Option.some.injEq] at z
            subst z
            obtain ⟨a, e, sa, f, ok⟩ := w
            rw [rr.1] at e; cases e
            exact ⟨a, rfl, sa, f, ok⟩
  | ex x ρ' =>
    rw [q] at post
    intro cls dx σ' S' H' t er' xr
    obtain ⟨c, l⟩ := endC t er'
    exact post cls dx S' H' c l xr
  | bk ρ' => rw [q] at post; exact post.elim
  | ct ρ' => rw [q] at post; exact post.elim
  | bad => rw [q] at post; exact post.elim
/-- a plainer function -/
theorem fn_imp {f : Addr} {fd : FuncData} {ps : List Str} {k n : Nat} {Fn Fn' : FN} (G : FnOk P w K mg base (L2.CX P w) k f fd ps (spF K n Fn)) (h : ∀ ss, Fn' ss ≠ .bad → Fn ss = Fn' ss) : FnOk P w K mg base (L2.CX P w) k f fd ps (spF K n Fn') :=
  G.imp fun vs H Q E ⟨S, ss, a1, a2, a3, a4, a5⟩ => ⟨S, ss, a1, a2, a3, a4, by
    have e := h ss (fun z => by rw [z] at a5; exact a5)
    rw [e]
    exact a5⟩
end
end Pv
set_option maxRecDepth 100000
/-! PvK: list comprehensions. -/
namespace Pv
open PySem PySem.Spec L2

def noEx {α : Type} : Out α → Out α
  | .ok a ρ => .ok a ρ
  | _ => .bad
abbrev W0 : WX := fun _ _ _ _ => False
structure STs (X : Cx) (W : WX) (ifs : List Expr) (t : TT) (f : TF) : Prop where
  pt : PTs X ifs t
  sn : ∀ (F : Fx) (S : AS) (H : Hp) (σ : St) (ρ : Rho) (Q : Bool → Hp → Prop), F.K = X.K → F.Ok → ER F S H σ ρ → PostT F W S H σ ρ (f ρ) Q → t σ H Q
def fYes : TF := fun ρ => .ok true ρ
theorem sts_nil {X : Cx} {W : WX} : STs X W [] tYes fYes := ⟨pts_nil, fun F S H σ ρ Q _ _ er hp => hp S H .refl er⟩
theorem sts_one {X : Cx} {W : WX} {c : Expr} {t : TT} {f : TF} (h : ST X W c t f) : STs X W [c] t f := ⟨pts_one h.pt, h.sn⟩

/-! ### a block's own names are wiped -/
def wipeR : List Nat → Rho → Option Rho
  | [], ρ => some ρ
  | v :: vs, ρ => match wipeR vs ρ with
    | some ρ' => (match ρ'[v]? with
      | some s => if isLent s then none else some (ρ'.set v .no)
      | none => none)
    | none => none
def NoAt (vs : List Nat) (ρ : Rho) : Prop := ∀ i ∈ vs, ρ[i]? = some .no
section
variable {F : Fx} {S S' : AS} {H H' : Hp} {σ σ' : St} {ρ ρ' : Rho}
theorem mut_no {v : Nat} {x : Option V} {i : Nat} {a : Addr} (h : MutAt (σ.set v x) (ρ.set v .no) i a) : i ≠ v ∧ MutAt σ ρ i a := by
  obtain ⟨⟨m, h1⟩, h2⟩ := h
  by_cases q : v = i
  · subst q
    by_cases hv : v < ρ.length
    · rw [List.getElem?_set_self hv] at h1
      rcases h1 with h1 | h1 <;> cases h1
    · rw [List.getElem?_eq_none (by simpa using hv)] at h1
      rcases h1 with h1 | h1 <;> cases h1
  · rw [List.getElem?_set_ne q] at h1
    rw [List.getElem?_set_ne q] at h2
    exact ⟨Ne.symm q, ⟨m, h1⟩, h2⟩
theorem ER.setNo (er : ER F S H σ ρ) {v : Nat} {s : Slot} {x : Option V} (e : ρ[v]? = some s) (hl : isLent s = false) : ER F S H (σ.set v x) (ρ.set v .no) := by
  have hv : v < ρ.length := (List.getElem?_eq_some_iff.mp e).1
  refine ⟨by rw [List.length_set, List.length_set]; exact er.len, fun i t et => ?_, fun i j a h1 h2 => er.dj i j a (mut_no h1).2 (mut_no h2).2, er.sub, er.dom, er.fr, fun i a h => ?_⟩
  · by_cases q : v = i
    · subst q
      rw [List.getElem?_set_self hv] at et
      cases et
      trivial
    · rw [List.getElem?_set_ne q] at et ⊢
      exact er.at_ i t et
  · obtain ⟨m, hm⟩ := er.lt i a h
    have q : v ≠ i := fun z => by
      subst z
      rw [e] at hm; cases hm; cases hl
    exact ⟨m, by rw [List.getElem?_set_ne q]; exact hm⟩
theorem wipeR_ok (er : ER F S H σ ρ) : ∀ {vs : List Nat} {ρ' : Rho}, wipeR vs ρ = some ρ' → ER F S H (wipe σ vs) ρ' ∧ NoAt vs ρ' ∧ (∀ i a, MutAt (wipe σ vs) ρ' i a → MutAt σ ρ i a) ∧ ρ'.length = ρ.length
  | [], _, e => by cases e; exact ⟨er, fun i h => absurd h (by simp), fun _ _ z => z, rfl⟩
  | v :: vs, ρ', e => by
    unfold wipeR at e
    cases q : wipeR vs ρ with
    | none => simp [q] at e
    | some ρ1 =>
      obtain ⟨er1, no1, mu1, l1⟩ := wipeR_ok er q
      simp only [q] at e
      cases z : ρ1[v]? with
      | none => simp [z] at e
      | some s =>
        simp only [z] at e
        by_cases hl : isLent s = true
        · rw [if_pos hl] at e; cases e
        · rw [if_neg hl] at e
          cases e
          have hv : v < ρ1.length := (List.getElem?_eq_some_iff.mp z).1
          refine ⟨er1.setNo z (by simpa using hl), fun i hi => ?_, fun i a h => mu1 i a (mut_no h).2, by rw [List.length_set]; exact l1⟩
          by_cases y : v = i
          · subst y; exact List.getElem?_set_self hv
          · rw [List.getElem?_set_ne y]
            rcases List.mem_cons.mp hi with w | w
            · exact absurd w.symm y
            · exact no1 i w
theorem mut_wipe {vs : List Nat} (no : NoAt vs ρ) {i : Nat} {a : Addr} : MutAt (wipe σ vs) ρ i a ↔ MutAt σ ρ i a := by
  by_cases hi : i ∈ vs
  · have e := no i hi
    have no2 : ¬ ∃ m, ρ[i]? = some (.own m) ∨ ρ[i]? = some (.lent m) := fun ⟨m, h⟩ => by
      rw [e] at h
      rcases h with h | h <;> cases h
    exact ⟨fun h => absurd h.1 no2, fun h => absurd h.1 no2⟩
  · unfold MutAt
    rw [wipe_out hi]
theorem ER.unwipe {vs : List Nat} (er : ER F S H (wipe σ vs) ρ) (no : NoAt vs ρ) : ER F S H σ ρ := by
  refine ⟨by rw [er.len, wipe_length], fun i t et => ?_, fun i j a h1 h2 => er.dj i j a ((mut_wipe no).mpr h1) ((mut_wipe no).mpr h2), er.sub, er.dom, er.fr, er.lt⟩
  by_cases hi : i ∈ vs
  · rw [no i hi] at et
    cases et
    trivial
  · have z := er.at_ i t et
    rw [wipe_out hi] at z
    exact z
theorem wipe_get {i : Nat} : ∀ {vs : List Nat}, i ∈ vs → i < σ.length → (wipe σ vs)[i]? = some none
  | [], h, _ => absurd h (by simp)
  | v :: vs, h, hl => by
    unfold wipe
    by_cases q : v = i
    · subst q
      rw [List.getElem?_set_self (by rw [wipe_length]; exact hl)]
    · rw [List.getElem?_set_ne q]
      rcases List.mem_cons.mp h with z | z
      · exact absurd z.symm q
      · exact wipe_get z hl
theorem wipe_asg {is vs : List Nat} (a : Asg is (wipe σ vs) ρ σ' ρ') (h : ∀ i ∈ is, i ∈ vs) : wipe σ' vs = wipe σ vs := by
  apply List.ext_getElem?
  intro i
  by_cases hi : i ∈ vs
  · by_cases hl : i < σ.length
    · rw [wipe_get hi hl, wipe_get hi (by rw [a.len, wipe_length]; exact hl)]
    · rw [List.getElem?_eq_none (by rw [wipe_length, a.len, wipe_length]; omega), List.getElem?_eq_none (by rw [wipe_length]; omega)]
  · rw [wipe_out hi, a.out i (fun z => hi (h i z)), wipe_out hi]
/-- a thing in the making, of no slot, is written -/
theorem ER.wTemp (er : ER F S H σ ρ) {D : Addr} {o : HO} (sD : S D) (fD : F.H0 D = none) (n : ∀ i, ¬ MutAt σ ρ i D) : ER F S (upd H D o) σ ρ := by
  have off : ∀ b o', H b = some o' → ¬ S b → upd H D o b = some o' := fun b o' e nn => by
    rw [upd_ne fun z => nn (by rw [z]; exact sD)]
    exact e
  refine ⟨er.len, fun i s e => ?_, er.dj, er.sub, fun a h => ?_, fun b o' e nn => ?_, er.lt⟩
  · have z := er.at_ i s e
    cases s with
    | no => trivial
    | val d => obtain ⟨x, e, h⟩ := z; exact ⟨x, e, h.mono off fun _ z => .inl z⟩
    | own m =>
      obtain ⟨a, ea, sa, f, h⟩ := z
      have na : a ≠ D := fun z => n i ⟨⟨m, .inl e⟩, by rw [ea, z]⟩
      exact ⟨a, ea, sa, f, h.mono off (fun _ z => .inl z) fun o' q => by rw [upd_ne na]; exact q⟩
    | lent m =>
      obtain ⟨a, ea, l, sa, h⟩ := z
      have na : a ≠ D := fun z => n i ⟨⟨m, .inr e⟩, by rw [ea, z]⟩
      exact ⟨a, ea, l, sa, h.mono off (fun _ z => .inl z) fun o' q => by rw [upd_ne na]; exact q⟩
  · unfold upd
    split
    · exact fun z => nomatch z
    · exact er.dom a h
  · rw [upd_ne fun z => by rw [z, fD] at e; cases e]
    exact er.fr b o' e nn
theorem ER.new0 (er : ER F S H σ ρ) (fok : F.Ok) {p : Addr} (hp : H p = none) : F.H0 p = none := by
  cases q : F.H0 p with
  | none => rfl
  | some o =>
    exfalso
    by_cases l : F.lentA p
    · obtain ⟨i, l⟩ := l
      exact er.dom p (er.sub p (fok.lent i p l)) hp
    · have := er.fr p o q l
      rw [hp] at this; cases this
end

/-! ### [elt for target in iter if ..] -/
def lcL (tg : GF) (tt : TF) (el : EF) (vs : List Nat) : List PyData → Rho → Out (List PyData)
  | [], ρ => .ok [] ρ
  | d :: ds, ρ => match tg d ρ with
    | none => .bad
    | some ρ1 => (noEx (tt ρ1)).bind fun b ρ2 => if b = true then bindF (noEx (el ρ2)) fun y ρ3 => (match wipeR vs ρ3 with
        | some ρ4 => (lcL tg tt el vs ds ρ4).bind fun ys ρ5 => .ok (y :: ys) ρ5
        | none => .bad) else (match wipeR vs ρ2 with
        | some ρ4 => lcL tg tt el vs ds ρ4
        | none => .bad)
def fLc (fi : IF) (tg : GF) (tt : TF) (el : EF) (vs : List Nat) : EF := fun ρ => (fi ρ).bind fun ds ρ1 => if ds.length ≤ 16777216 then (match wipeR vs ρ1 with
  | some ρ2 => (lcL tg tt el vs ds ρ2).bind fun ys ρ3 => .ok (.own (.lst ys)) ρ3
  | none => .bad) else .bad
section
variable {X : Cx} {W : WX} {elt tg iter : Expr} {ifs : List Expr} {scope : Scope} {own : List (Str × Nat)} {pos : Pos} {wi : TI} {t : TG} {tt : TT} {te : TE} {fi : IF} {gt : GF} {ft : TF} {fe : EF} {is vs : List Nat}
/-- the parts in one block of any entry -/
structure Blk (X : Cx) (scope : Scope) (tg : Expr) (ifs : List Expr) (elt : Expr) (t : TG) (gt : GF) (is : List Nat) (tt : TT) (ft : TF) (te : TE) (fe : EF) : Prop where
  g : ∀ (s : Shared) (H : Hp) (C : Addr) (cl : List (Str × Addr)) (fp : List Addr), SG (X.blk s H scope (compEnvC scope cl C X.env) fp) tg t gt is
  t : ∀ (s : Shared) (H : Hp) (C : Addr) (cl : List (Str × Addr)) (fp : List Addr), STs (X.blk s H scope (compEnvC scope cl C X.env) fp) W0 ifs tt ft
  e : ∀ (s : Shared) (H : Hp) (C : Addr) (cl : List (Str × Addr)) (fp : List Addr), SE (X.blk s H scope (compEnvC scope cl C X.env) fp) W0 elt te fe
/-- the same wish, nothing raised -/
theorem noEx_T {F : Fx} {S : AS} {H : Hp} {σ : St} {ρ : Rho} {β : Type} {W : WX} {o : Out Bool} {k : Bool → Rho → Out β} {Q : Bool → Hp → Prop} (nb : (noEx o).bind k ≠ .bad) (hk : ∀ b ρ1 S1 H1, o = .ok b ρ1 → Tr S H σ ρ S1 H1 ρ1 → ER F S1 H1 σ ρ1 → Q b H1) : PostT F W S H σ ρ o Q := by
  cases o with
  | ok b ρ1 => exact fun S1 H1 t1 er1 => hk b ρ1 S1 H1 rfl t1 er1
  | ex x ρ1 => exact absurd rfl nb
  | bad => exact absurd rfl nb
theorem noEx_E {X : Cx} {e : Expr} {te : TE} {fe : EF} (he : SE X W0 e te fe) {F : Fx} {S : AS} {H : Hp} {σ : St} {ρ : Rho} (hK : F.K = X.K) (fok : F.Ok) (er : ER F S H σ ρ) {β : Type} {k : PyData → Rho → Out β} (nb : bindF (noEx (fe ρ)) k ≠ .bad) {Q : VK}
    (hk : ∀ d ρ2 v S2 H1, bindF (noEx (fe ρ)) k = k d ρ2 → Tr S H σ ρ S2 H1 ρ2 → ER F S2 H1 σ ρ2 → Rp F.K S2 H1 v d → Q v H1) : te σ H Q := by
  refine he.sn F S H σ ρ Q hK fok er ?_
  cases q : fe ρ with
  | ok r ρ1 =>
    intro v S1 H1 t1 er1 rr fr
    rw [q] at nb hk
    cases z : freeze ρ1 r with
    | none => exact absurd (by simp only [noEx, bindF, z]) nb
    | some p =>
      obtain ⟨d, ρ2⟩ := p
      obtain ⟨S2, t2, er2, rp, _, _⟩ := freeze_ok er t1 er1 rr fr z fok
      exact hk d ρ2 v S2 H1 (by simp only [noEx, bindF, z]) t2 er2 rp
  | ex x ρ1 => rw [q] at nb; exact absurd rfl nb
  | bad => rw [q] at nb; exact absurd rfl nb
theorem sn_lc (hi : SI X W tg iter wi fi) (B : Blk X scope tg ifs elt t gt is tt ft te fe) (hv : ∀ i ∈ is, i ∈ vs) :
    ∀ (F : Fx) (S : AS) (H : Hp) (σ : St) (ρ : Rho) (Q : VK), F.K = X.K → F.Ok → ER F S H σ ρ → PostE F W S H σ ρ (fLc fi gt ft fe vs ρ) Q → tLc wi t tt te vs σ H Q := by
  intro F S H σ ρ Q hK fok er hp
  refine hi.sn F S H σ ρ _ hK fok er ?_
  unfold fLc at hp
  cases q : fi ρ with
  | ex x ρ1 => rw [q] at hp; exact hp
  | bad => rw [q] at hp; exact hp
  | ok ds ρ1 =>
    rw [q] at hp
    intro J S1 H1 t1 er1 it D hD
    have hp : PostE F W S H σ ρ (if ds.length ≤ 16777216 then (match wipeR vs ρ1 with
      | some ρ2 => (lcL gt ft fe vs ds ρ2).bind fun ys ρ3 => .ok (.own (.lst ys)) ρ3
      | none => .bad) else .bad) Q := hp
    by_cases hz : ds.length ≤ 16777216
    · rw [if_pos hz] at hp
      cases qw : wipeR vs ρ1 with
      | none => simp only [qw] at hp; exact hp.elim
      | some ρ2 =>
        simp only [qw] at hp
        obtain ⟨er2, no2, mu2, l2⟩ := wipeR_ok er1 qw
        have fD : F.H0 D = none := er1.new0 fok hD
        have hDS : H D = none := by
          cases w : H D with
          | none => rfl
          | some o => exact absurd hD (t1.stay D (by rw [w]; exact fun z => nomatch z))
        generalize hfull : ((lcL gt ft fe vs ds ρ2).bind fun ys ρ3 => Out.ok (R.own (.lst ys)) ρ3) = full at hp
        have nbF : full ≠ .bad := fun z => by rw [z] at hp; exact hp
        refine ⟨fun i m H' => ∃ S' ρ' outs, m = ds.length - i ∧ i ≤ ds.length ∧ outs.length ≤ i ∧ Tr S H σ ρ S' H' ρ' ∧ TrS S1 H1 S' H' ∧ ER F S' H' (wipe σ vs) ρ' ∧ NoAt vs ρ' ∧ RR F S' H' (wipe σ vs) ρ' (.ref D) (.own (.lst outs)) ∧
            full = (lcL gt ft fe vs (ds.drop i) ρ').bind fun ys ρ3 => .ok (.own (.lst (outs ++ ys))) ρ3,
          ⟨ds.length, fun a => S1 a ∨ a = D, ρ2, [], by simp, Nat.zero_le _, Nat.zero_le _, ?_, ?_, er2.allocS hD, no2, ⟨D, rfl, .inr rfl, fD, ⟨[], upd_same, .nil⟩, fun i z => er2.dom D (er2.mutS z) hD⟩, hfull.symm⟩, ?_⟩
        · have ta : Tr S1 H1 σ ρ1 S1 H1 ρ2 := ⟨fun _ _ e _ => e, fun _ z => .inl z, fun _ z _ => z, fun i a z => mu2 i a ((mut_wipe no2).mpr z), fun _ z => z⟩
          exact (t1.trans er ta).trans er (Tr.allocS hD)
        · have tb := Tr.s (er2) (Tr.allocS (S := S1) (σ := wipe σ vs) (ρ := ρ2) (o := .lst []) hD)
          exact tb
        rintro i m H' ⟨S', ρ', outs, rfl, hle, ho, tS, tI, er', no', tmp, hfl⟩
        obtain ⟨itgo, itstop⟩ := it S' H' tI
        by_cases hlt : i < ds.length
        · obtain ⟨hgo, hy⟩ := itgo i hlt
          refine .inr ⟨hgo, fun H'' => ∃ S' ρ' outs, outs.length ≤ i + 1 ∧ Tr S H σ ρ S' H'' ρ' ∧ TrS S1 H1 S' H'' ∧ ER F S' H'' (wipe σ vs) ρ' ∧ NoAt vs ρ' ∧ RR F S' H'' (wipe σ vs) ρ' (.ref D) (.own (.lst outs)) ∧
            full = (lcL gt ft fe vs (ds.drop (i + 1)) ρ').bind fun ys ρ3 => .ok (.own (.lst (outs ++ ys))) ρ3, fun H'' ⟨S2, ρ2, outs2, b1, b2, b3, b4, b5, b6, b7⟩ => ⟨ds.length - (i + 1), by omega, S2, ρ2, outs2, rfl, hlt, b1, b2, b3, b4, b5, b6, b7⟩, fun x H'' y => ?_⟩
          obtain ⟨d, ed, same, rp⟩ := hy x H'' y
          have stay : ∀ a, H' a ≠ none → H'' a ≠ none := fun a z => by
            cases w : H' a with
            | none => exact absurd w z
            | some o => rw [same a o w]; exact fun z => nomatch z
          have er3 : ER F S' H'' (wipe σ vs) ρ' := er'.grow same (fun _ z => .inl z) (fun _ z => z) fun a z => stay a (er'.dom a z)
          have tmp3 : RR F S' H'' (wipe σ vs) ρ' (.ref D) (.own (.lst outs)) := by
            obtain ⟨a, e, s, f, ok, n⟩ := tmp
            exact ⟨a, e, s, f, ok.mono (fun b o e _ => same b o e) (fun _ z => .inl z) (same a), n⟩
          have ed' : ds.drop i = d :: ds.drop (i + 1) := by
            rw [List.drop_eq_getElem_cons hlt]
            congr 1
            rw [List.getElem?_eq_getElem hlt] at ed
            exact Option.some.inj ed
          rw [ed'] at hfl
          -- the turn's outcome
          cases w : gt d ρ' with
          | none => exact absurd (by rw [hfl]; simp only [lcL, w, Out.bind]) nbF
          | some ρ3 =>
            refine (B.g ({} : Shared) (fun _ => none) (0 : Nat) [] []).sn F S' H'' (wipe σ vs) ρ' ρ3 x d _ hK fok er3 rp w fun σ3 as er4 => ?_
            have hwp : wipe σ3 vs = wipe σ vs := wipe_asg as hv
            refine ⟨hwp, ?_⟩
            have tmp4 : RR F S' H'' σ3 ρ3 (.ref D) (.own (.lst outs)) := by
              obtain ⟨a, e, s, f, ok, n⟩ := tmp3
              exact ⟨a, e, s, f, ok, fun i z => n i (as.mu i a z)⟩
            have hfl2 : full = ((noEx (ft ρ3)).bind fun b ρ2 => if b = true then bindF (noEx (fe ρ2)) fun y ρ3 => (match wipeR vs ρ3 with
                | some ρ4 => (lcL gt ft fe vs (ds.drop (i + 1)) ρ4).bind fun ys ρ5 => .ok (y :: ys) ρ5
                | none => .bad) else (match wipeR vs ρ2 with
                | some ρ4 => lcL gt ft fe vs (ds.drop (i + 1)) ρ4
                | none => .bad)).bind fun ys ρ3 => .ok (.own (.lst (outs ++ ys))) ρ3 := by
              rw [hfl]
              simp only [lcL, w]
            -- from the start to a later state of this turn
            have far : ∀ {S5 : AS} {H5 : Hp} {ρ5 ρ6 : Rho}, Tr S' H'' σ3 ρ3 S5 H5 ρ5 → wipeR vs ρ5 = some ρ6 → ER F S5 H5 σ3 ρ5 → ∀ o, ER F S5 (upd H5 D o) (wipe σ vs) ρ6 ∧ NoAt vs ρ6 ∧ Tr S H σ ρ S5 (upd H5 D o) ρ6 ∧ TrS S1 H1 S5 (upd H5 D o) ∧ (∀ i, ¬ MutAt (wipe σ vs) ρ6 i D) := by
              intro S5 H5 ρ5 ρ6 t5 w6 er5 o
              obtain ⟨er6, no6, mu6, l6⟩ := wipeR_ok er5 w6
              rw [hwp] at er6 mu6
              obtain ⟨a, e, sD, _, _, nD⟩ := tmp4
              cases e
              have nD6 : ∀ i, ¬ MutAt (wipe σ vs) ρ6 i D := fun i z => nD i (t5.mu i D (mu6 i D z))
              have sD5 : S5 D := t5.old D sD nD
              have toMut : ∀ i a, MutAt σ3 ρ3 i a → MutAt σ ρ' i a := fun i a z => (mut_wipe no').mp (as.mu i a z)
              refine ⟨er6.wTemp sD5 fD nD6, no6, ⟨fun b ob eb nb => ?_, fun b hb => ?_, fun b hb nb => ?_, fun j b z => ?_, fun b hb => ?_⟩, ⟨fun b ob eb nb => ?_, fun b hb => ?_, fun b hb => ?_⟩, nD6⟩
              · have nbD : b ≠ D := fun z => by rw [z, hDS] at eb; cases eb
                rw [upd_ne nbD]
                exact t5.off b ob (same b ob (tS.off b ob eb nb)) fun j z => nb j (tS.mu j b (toMut j b z))
              · rcases t5.new b hb with z | z
                · exact tS.new b z
                · cases y : H b with
                  | none => exact .inr rfl
                  | some ob => exact absurd z (stay b (tS.stay b (by rw [y]; exact fun z => nomatch z)))
              · exact t5.old b (tS.old b hb nb) fun j z => nb j (tS.mu j b (toMut j b z))
              · exact tS.mu j b (toMut j b (t5.mu j b (mu6 j b ((mut_wipe no6).mpr z))))
              · unfold upd
                split
                · exact fun z => nomatch z
                · exact t5.stay b (stay b (tS.stay b hb))
              · have nbD : b ≠ D := fun z => by rw [z, hD] at eb; cases eb
                rw [upd_ne nbD]
                exact t5.off b ob (same b ob (tI.off b ob eb nb)) fun j z => by
                  have h1 := er'.mutS (as.mu j b z)
                  rcases tI.new b h1 with h1 | h1
                  · exact nb h1
                  · rw [eb] at h1; cases h1
              · rcases t5.new b hb with z | z
                · exact tI.new b z
                · cases y : H1 b with
                  | none => exact .inr rfl
                  | some ob => exact absurd z (stay b (tI.stay b (by rw [y]; exact fun z => nomatch z)))
              · unfold upd
                split
                · exact fun z => nomatch z
                · exact t5.stay b (stay b (tI.stay b hb))
            refine (B.t ({} : Shared) (fun _ => none) (0 : Nat) [] []).sn F S' H'' σ3 ρ3 _ hK fok er4 (noEx_T (k := fun b ρ2 => if b = true then bindF (noEx (fe ρ2)) fun y ρ3 => (match wipeR vs ρ3 with
                | some ρ4 => (lcL gt ft fe vs (ds.drop (i + 1)) ρ4).bind fun ys ρ5 => .ok (y :: ys) ρ5
                | none => .bad) else (match wipeR vs ρ2 with
                | some ρ4 => lcL gt ft fe vs (ds.drop (i + 1)) ρ4
                | none => .bad)) (fun z => nbF (by rw [hfl2, z]; rfl)) fun b ρ4 S4 H4 eb t4 er5 => ?_)
            have hfl3 : full = (if b = true then bindF (noEx (fe ρ4)) fun y ρ3 => (match wipeR vs ρ3 with
                | some ρ4 => (lcL gt ft fe vs (ds.drop (i + 1)) ρ4).bind fun ys ρ5 => .ok (y :: ys) ρ5
                | none => .bad) else (match wipeR vs ρ4 with
                | some ρ4 => lcL gt ft fe vs (ds.drop (i + 1)) ρ4
                | none => .bad)).bind fun ys ρ3 => .ok (.own (.lst (outs ++ ys))) ρ3 := by
              rw [hfl2, eb]
              rfl
            cases b with
            | false =>
              refine iteF ?_
              rw [if_neg Bool.false_ne_true] at hfl3
              cases w6 : wipeR vs ρ4 with
              | none => exact absurd (by rw [hfl3]; simp only [w6, Out.bind]) nbF
              | some ρ6 =>
                simp only [w6] at hfl3
                have tmp5 := tmp4.tr er4 t4 (er5.len.trans er4.len.symm)
                obtain ⟨a, e, sD, _, ⟨acc, eh, hr⟩, nD⟩ := tmp5
                cases e
                obtain ⟨c1, c2, c3, c4, c5⟩ := far t4 w6 er5 (.lst acc)
                have eu : upd H4 D (.lst acc) = H4 := by
                  funext b
                  unfold upd
                  split
                  · rename_i z; rw [z]; exact eh.symm
                  · rfl
                rw [eu] at c1 c3 c4
                exact ⟨S4, ρ6, outs, by omega, c3, c4, c1, c2, ⟨D, rfl, sD, fD, ⟨acc, eh, hr⟩, c5⟩, hfl3⟩
            | true =>
              refine iteT ?_
              rw [if_pos rfl] at hfl3
              refine noEx_E (B.e ({} : Shared) (fun _ => none) (0 : Nat) [] []) hK fok er5 (k := fun y ρ3 => (match wipeR vs ρ3 with
                | some ρ4 => (lcL gt ft fe vs (ds.drop (i + 1)) ρ4).bind fun ys ρ5 => .ok (y :: ys) ρ5
                | none => .bad)) (fun z => nbF (by rw [hfl3, z]; rfl)) fun yd ρ5 v S5 H5 ey t5 er6 rp5 => ?_
              rw [ey] at hfl3
              cases w6 : wipeR vs ρ5 with
              | none => exact absurd (by rw [hfl3]; simp only [w6, Out.bind]) nbF
              | some ρ6 =>
                simp only [w6] at hfl3
                have t45 := t4.trans er4 t5
                have tmp5 := tmp4.tr er4 t45 (er6.len.trans er4.len.symm)
                obtain ⟨a, e, sD, _, ⟨acc, eh, hr⟩, nD⟩ := tmp5
                cases e
                obtain ⟨c1, c2, c3, c4, c5⟩ := far t45 w6 er6 (.lst (acc ++ [v]))
                have offD : ∀ b o', H5 b = some o' → ¬ S5 b → upd H5 D (.lst (acc ++ [v])) b = some o' := fun b o' e nn => by
                  rw [upd_ne fun z => nn (by rw [z]; exact sD)]
                  exact e
                refine ⟨acc, eh, by rw [hr.length, sizeLine_eq]; omega, S5, ρ6, outs ++ [yd], by rw [List.length_append, List.length_singleton]; omega, c3, c4, c1, c2, ⟨D, rfl, sD, fD, ⟨acc ++ [v], upd_same, (hr.append (RpA.one rp5)).mono offD fun _ z => .inl z⟩, c5⟩, ?_⟩
                rw [hfl3]
                cases lcL gt ft fe vs (ds.drop (i + 1)) ρ6 with
                | ok ys ρ7 => simp [Out.bind, List.append_assoc]
                | ex x ρ7 => rfl
                | bad => rfl
        · have e : i = ds.length := by omega
          subst e
          refine .inl ⟨itstop _ (Nat.le_refl _), ?_⟩
          rw [List.drop_length] at hfl
          have hfl : full = .ok (.own (.lst (outs ++ []))) ρ' := hfl
          rw [List.append_nil] at hfl
          rw [hfl] at hp
          refine hp (.ref D) S' H' tS (er'.unwipe no') ?_ fun a e => by cases e; exact hDS
          obtain ⟨a, e, s, f, ok, n⟩ := tmp
          exact ⟨a, e, s, f, ok, fun j z => n j ((mut_wipe no').mpr z)⟩
    · rw [if_neg hz] at hp
      exact hp.elim
theorem se_lc (hc : X.calm = true) (hN : X.N.Nodup) (hi : SI X W tg iter wi fi) (ok : BlkOk X.N X.env.scope scope own) (B : Blk X scope tg ifs elt t gt is tt ft te fe) (hv : ∀ i ∈ is, i ∈ own.map (·.2)) (hs : ∀ x, foldedSetIterable iter X.env x = pure x := by intro _; rfl) :
    SE X W (.ListComp elt [⟨tg, iter, ifs, 0⟩] scope pos) (tLc wi t tt te (own.map (·.2))) (fLc fi gt ft fe (own.map (·.2))) :=
  ⟨pe_lc hc hN hi.pi ok (fun s H C cl fp => (B.g s H C cl fp).pg) (fun s H C cl fp => (B.t s H C cl fp).pt) (fun s H C cl fp => (B.e s H C cl fp).pe) hs, sn_lc hi B hv⟩
theorem sn_set {e : TE} {f : EF} {i : Nat} (h : ∀ (F : Fx) (S : AS) (H : Hp) (σ : St) (ρ : Rho) (Q : VK), F.K = X.K → F.Ok → ER F S H σ ρ → PostE F W S H σ ρ (f ρ) Q → e σ H Q) :
    ∀ (F : Fx) (S : AS) (H : Hp) (σ : St) (ρ : Rho) (D : Ends), F.K = X.K → F.Ok → ER F S H σ ρ → PostS F W S H (gSet i f ρ) D → tAsg e (gName i) D σ H := by
  intro F S H σ ρ D hK fok er hp
  refine h F S H σ ρ _ hK fok er ?_
  unfold gSet at hp
  cases q : f ρ with
  | ex x ρ1 => rw [q] at hp; exact fun cls dx S1 H1 t1 er1 xr => hp cls dx σ S1 H1 (t1.s er) er1 xr
  | bad => rw [q] at hp; exact hp
  | ok r ρ1 =>
    rw [q] at hp
    intro v S1 H1 t1 er1 rr _
    have hp1 := PostS.shift (t1.s er) hp
    simp only [toS] at hp1
    cases z : storeR i r ρ1 with
    | none => simp only [z] at hp1; exact hp1.elim
    | some ρ2 =>
      simp only [z] at hp1
      obtain ⟨S2, t2, er2⟩ := store_ok er1 fok rr z
      exact hp1 _ S2 H1 t2 er2
/-- name = [..] on one line -/
theorem ss_setLc {i : Nat} {y : Str} {py spos : Pos} (hc : X.calm = true) (hN : X.N.Nodup) (hy : X.N[i]? = some y) (hyl : X.env.scope.names.lookup y = some .local)
    (hsw : swapsWith (.ListComp elt [⟨tg, iter, ifs, 0⟩] scope pos) (some (.Name y py)) spos.line X.env = pure true) (hi : SI X W tg iter wi fi) (ok : BlkOk X.N X.env.scope scope own) (B : Blk X scope tg ifs elt t gt is tt ft te fe) (hv : ∀ i ∈ is, i ∈ own.map (·.2)) (hs : ∀ x, foldedSetIterable iter X.env x = pure x := by intro _; rfl) :
    SS X W (.Assign [.Name y py] (.ListComp elt [⟨tg, iter, ifs, 0⟩] scope pos) spos) (tAsg (tLc wi t tt te (own.map (·.2))) (gName i)) (gSet i (fLc fi gt ft fe (own.map (·.2)))) :=
  ⟨ps_setLc hc hN hy hyl hsw hi.pi ok (fun s H C cl fp => (B.g s H C cl fp).pg) (fun s H C cl fp => (B.t s H C cl fp).pt) (fun s H C cl fp => (B.e s H C cl fp).pe) hs, sn_set (sn_lc hi B hv)⟩
end
end Pv
set_option maxRecDepth 100000
/-! PvL: comprehensions with two clauses. -/
namespace Pv
open PySem PySem.Spec L2

/-- as Tr, but for the thing in the making at D -/
structure TrD (D : Addr) (S : AS) (H : Hp) (σ : St) (ρ : Rho) (S' : AS) (H' : Hp) (ρ' : Rho) : Prop where
  off : ∀ b o, b ≠ D → H b = some o → (∀ i, ¬ MutAt σ ρ i b) → H' b = some o
  new : ∀ a, S' a → S a ∨ H a = none
  old : ∀ a, S a → (∀ i, ¬ MutAt σ ρ i a) → S' a
  mu : ∀ i a, MutAt σ ρ' i a → MutAt σ ρ i a
  stay : ∀ a, H a ≠ none → H' a ≠ none
section
variable {F : Fx} {D : Addr} {S S1 S2 S' : AS} {H H1 H2 H' : Hp} {σ σ2 : St} {ρ ρ1 ρ2 ρ' : Rho}
theorem TrD.refl : TrD D S H σ ρ S H ρ := ⟨fun _ _ _ e _ => e, fun _ h => .inl h, fun _ h _ => h, fun _ _ h => h, fun _ h => h⟩
theorem Tr.d (t : Tr S H σ ρ S' H' ρ') : TrD D S H σ ρ S' H' ρ' := ⟨fun b o _ => t.off b o, t.new, t.old, t.mu, t.stay⟩
theorem TrD.trans (t : TrD D S H σ ρ S1 H1 ρ1) (u : TrD D S1 H1 σ ρ1 S2 H2 ρ2) : TrD D S H σ ρ S2 H2 ρ2 where
  off := fun b o nb e n => u.off b o nb (t.off b o nb e n) fun i z => n i (t.mu i b z)
  new := fun a h => by
    rcases u.new a h with h | h
    · exact t.new a h
    · cases q : H a with
      | none => exact .inr rfl
      | some o => exact absurd h (t.stay a (by rw [q]; exact fun z => nomatch z))
  old := fun a h n => u.old a (t.old a h n) fun i z => n i (t.mu i a z)
  mu := fun i a h => t.mu i a (u.mu i a h)
  stay := fun a h => u.stay a (t.stay a h)
/-- in another frame's slots -/
theorem TrD.slots (t : TrD D S H σ2 ρ1 S' H' ρ2) (m1 : ∀ i a, MutAt σ2 ρ1 i a → MutAt σ ρ i a) (m2 : ∀ i a, MutAt σ ρ' i a → MutAt σ2 ρ2 i a) : TrD D S H σ ρ S' H' ρ' :=
  ⟨fun b o nb e n => t.off b o nb e fun i z => n i (m1 i b z), t.new, fun a h n => t.old a h fun i z => n i (m1 i a z), fun i a z => m1 i a (t.mu i a (m2 i a z)), t.stay⟩
theorem TrD.tr (t : TrD D S H σ ρ S' H' ρ') (hD : H D = none) : Tr S H σ ρ S' H' ρ' := ⟨fun b o e n => t.off b o (fun z => by rw [z, hD] at e; cases e) e n, t.new, t.old, t.mu, t.stay⟩
/-- from ahead of D's making -/
theorem Tr.transD (t : Tr S H σ ρ S1 H1 ρ1) (u : TrD D S1 H1 σ ρ1 S2 H2 ρ2) (hD : H D = none) : Tr S H σ ρ S2 H2 ρ2 := (t.d.trans u).tr hD
/-- for what nobody writes -/
theorem TrD.s (t : TrD D S H σ ρ S' H' ρ') (er : ER F S H σ ρ) (sD : S D) : TrS S H S' H' := ⟨fun b o e n => t.off b o (fun z => n (by rw [z]; exact sD)) e fun i z => n (er.mutS z), t.new, t.stay⟩
theorem TrD.grow (same : ∀ b o, H b = some o → H' b = some o) : TrD D S H σ ρ S H' ρ := ⟨fun b o _ e _ => same b o e, fun _ z => .inl z, fun _ z _ => z, fun _ _ z => z, fun a z => by
  cases w : H a with
  | none => exact absurd w z
  | some o => rw [same a o w]; exact fun z => nomatch z⟩
end
section
variable {X : Cx} {tg elt : Expr} {ifs : List Expr} {t : TG} {gt : GF} {is vs : List Nat} {tt : TT} {ft : TF} {te : TE} {fe : EF}
/-- the loop of one clause: the list at D grows by what the items give -/
theorem lc_loop (hg : SG X tg t gt is) (ht : STs X W0 ifs tt ft) (he : SE X W0 elt te fe) (hv : ∀ i ∈ is, i ∈ vs) {F : Fx} {S : AS} {H : Hp} {σ : St} {ρ ρe : Rho} {D : Addr} {outs ds ys : List PyData} {J : It} {En : Hp → Prop} (hK : F.K = X.K) (fok : F.Ok)
    (er : ER F S H (wipe σ vs) ρ) (no : NoAt vs ρ) (tmp : RR F S H (wipe σ vs) ρ (.ref D) (.own (.lst outs))) (it : ItR F.K S H J ds) (hz : outs.length + ds.length ≤ 16777216) (ok : lcL gt ft fe vs ds ρ = .ok ys ρe)
    (fin : ∀ S' H', TrD D S H (wipe σ vs) ρ S' H' ρe → ER F S' H' (wipe σ vs) ρe → NoAt vs ρe → RR F S' H' (wipe σ vs) ρe (.ref D) (.own (.lst (outs ++ ys))) → En H') :
    ∃ W : Nat → Nat → Hp → Prop, (∃ m, W 0 m H) ∧ ∀ i m H, W i m H →
      (J.stop i H ∧ En H) ∨ (J.go i H ∧ ∃ Nx : Hp → Prop, (∀ H', Nx H' → ∃ m', m' < m ∧ W (i + 1) m' H') ∧ ∀ x H', J.yld i H x H' → t x (wipe σ vs) H' fun σ2 H2 => wipe σ2 vs = wipe σ vs ∧ tt σ2 H2 fun b H3 =>
        if b = true then te σ2 H3 fun y H4 => ∃ acc, H4 D = some (.lst acc) ∧ acc.length < sizeLine ∧ Nx (upd H4 D (.lst (acc ++ [y]))) else Nx H3) := by
  have fD : F.H0 D = none := by
    obtain ⟨a, e, _, f, _⟩ := tmp
    cases e; exact f
  refine ⟨fun i m H' => ∃ S' ρ' outs' ys', m = ds.length - i ∧ i ≤ ds.length ∧ outs'.length ≤ outs.length + i ∧ TrD D S H (wipe σ vs) ρ S' H' ρ' ∧ ER F S' H' (wipe σ vs) ρ' ∧ NoAt vs ρ' ∧ RR F S' H' (wipe σ vs) ρ' (.ref D) (.own (.lst outs')) ∧
      lcL gt ft fe vs (ds.drop i) ρ' = .ok ys' ρe ∧ outs' ++ ys' = outs ++ ys,
    ⟨ds.length, S, ρ, outs, ys, by simp, Nat.zero_le _, Nat.le_refl _, .refl, er, no, tmp, ok, rfl⟩, ?_⟩
  rintro i m H' ⟨S', ρ', outs', ys', rfl, hle, ho, tS, er', no', tmp', ok', ey⟩
  have sD0 : S D := by
    obtain ⟨a, e, s, _⟩ := tmp
    cases e; exact s
  obtain ⟨itgo, itstop⟩ := it S' H' (tS.s er sD0)
  by_cases hlt : i < ds.length
  · obtain ⟨hgo, hy⟩ := itgo i hlt
    refine .inr ⟨hgo, fun H'' => ∃ S' ρ' outs' ys', outs'.length ≤ outs.length + (i + 1) ∧ TrD D S H (wipe σ vs) ρ S' H'' ρ' ∧ ER F S' H'' (wipe σ vs) ρ' ∧ NoAt vs ρ' ∧ RR F S' H'' (wipe σ vs) ρ' (.ref D) (.own (.lst outs')) ∧
      lcL gt ft fe vs (ds.drop (i + 1)) ρ' = .ok ys' ρe ∧ outs' ++ ys' = outs ++ ys, fun H'' ⟨S2, ρ2, o2, y2, b1, b2, b3, b4, b5, b6, b7⟩ => ⟨ds.length - (i + 1), by omega, S2, ρ2, o2, y2, rfl, hlt, b1, b2, b3, b4, b5, b6, b7⟩, fun x H'' y => ?_⟩
    obtain ⟨d, ed, same, rp⟩ := hy x H'' y
    have tG : TrD D S' H' (wipe σ vs) ρ' S' H'' ρ' := .grow same
    have er3 : ER F S' H'' (wipe σ vs) ρ' := er'.grow same (fun _ z => .inl z) (fun _ z => z) fun a z => tG.stay a (er'.dom a z)
    have tmp3 : RR F S' H'' (wipe σ vs) ρ' (.ref D) (.own (.lst outs')) := by
      obtain ⟨a, e, s, f, ok, n⟩ := tmp'
      exact ⟨a, e, s, f, ok.mono (fun b o e _ => same b o e) (fun _ z => .inl z) (same a), n⟩
    have ed' : ds.drop i = d :: ds.drop (i + 1) := by
      rw [List.drop_eq_getElem_cons hlt]
      congr 1
      rw [List.getElem?_eq_getElem hlt] at ed
      exact Option.some.inj ed
    rw [ed'] at ok'
    unfold lcL at ok'
    cases w : gt d ρ' with
    | none => simp only [w] at ok'; cases ok'
    | some ρ3 =>
      simp only [w] at ok'
      refine hg.sn F S' H'' (wipe σ vs) ρ' ρ3 x d _ hK fok er3 rp w fun σ3 as er4 => ?_
      have hwp : wipe σ3 vs = wipe σ vs := wipe_asg as hv
      refine ⟨hwp, ?_⟩
      have tmp4 : RR F S' H'' σ3 ρ3 (.ref D) (.own (.lst outs')) := by
        obtain ⟨a, e, s, f, ok, n⟩ := tmp3
        exact ⟨a, e, s, f, ok, fun i z => n i (as.mu i a z)⟩
      have far : ∀ {S5 : AS} {H5 : Hp} {ρ5 ρ6 : Rho}, Tr S' H'' σ3 ρ3 S5 H5 ρ5 → wipeR vs ρ5 = some ρ6 → ER F S5 H5 σ3 ρ5 → ∀ o, ER F S5 (upd H5 D o) (wipe σ vs) ρ6 ∧ NoAt vs ρ6 ∧ TrD D S H (wipe σ vs) ρ S5 (upd H5 D o) ρ6 ∧ (∀ i, ¬ MutAt (wipe σ vs) ρ6 i D) := by
        intro S5 H5 ρ5 ρ6 t5 w6 er5 o
        obtain ⟨er6, no6, mu6, l6⟩ := wipeR_ok er5 w6
        rw [hwp] at er6 mu6
        obtain ⟨a, e, sD, _, _, nD⟩ := tmp4
        cases e
        have nD6 : ∀ i, ¬ MutAt (wipe σ vs) ρ6 i D := fun i z => nD i (t5.mu i D (mu6 i D z))
        have sD5 : S5 D := t5.old D sD nD
        have tU : TrD D S5 H5 (wipe σ vs) ρ6 S5 (upd H5 D o) ρ6 := ⟨fun b ob nb e _ => by rw [upd_ne nb]; exact e, fun _ z => .inl z, fun _ z _ => z, fun _ _ z => z, fun b hb => by
          unfold upd
          split
          · exact fun z => nomatch z
          · exact hb⟩
        exact ⟨er6.wTemp sD5 fD nD6, no6, ((tS.trans tG).trans (t5.d.slots as.mu mu6)).trans tU, nD6⟩
      refine ht.sn F S' H'' σ3 ρ3 _ hK fok er4 (noEx_T (k := fun b ρ2 => if b = true then bindF (noEx (fe ρ2)) fun y ρ3 => (match wipeR vs ρ3 with
          | some ρ4 => (lcL gt ft fe vs (ds.drop (i + 1)) ρ4).bind fun ys ρ5 => .ok (y :: ys) ρ5
          | none => .bad) else (match wipeR vs ρ2 with
          | some ρ4 => lcL gt ft fe vs (ds.drop (i + 1)) ρ4
          | none => .bad)) (fun z => by have zz := z.symm.trans ok'; cases zz) fun b ρ4 S4 H4 eb t4 er5 => ?_)
      rw [eb] at ok'
      simp only [noEx, Out.bind] at ok'
      cases b with
      | false =>
        refine iteF ?_
        rw [if_neg Bool.false_ne_true] at ok'
        cases w6 : wipeR vs ρ4 with
        | none => simp only [w6] at ok'; cases ok'
        | some ρ6 =>
          simp only [w6] at ok'
          have tmp5 := tmp4.tr er4 t4 (er5.len.trans er4.len.symm)
          obtain ⟨a, e, sD, _, ⟨acc, eh, hr⟩, nD⟩ := tmp5
          cases e
          obtain ⟨c1, c2, c3, c5⟩ := far t4 w6 er5 (.lst acc)
          have eu : upd H4 D (.lst acc) = H4 := by
            funext b
            unfold upd
            split
            · rename_i z; rw [z]; exact eh.symm
            · rfl
          rw [eu] at c1 c3
          exact ⟨S4, ρ6, outs', ys', by omega, c3, c1, c2, ⟨D, rfl, sD, fD, ⟨acc, eh, hr⟩, c5⟩, ok', ey⟩
      | true =>
        refine iteT ?_
        rw [if_pos rfl] at ok'
        refine noEx_E he hK fok er5 (k := fun y ρ3 => (match wipeR vs ρ3 with
          | some ρ4 => (lcL gt ft fe vs (ds.drop (i + 1)) ρ4).bind fun ys ρ5 => .ok (y :: ys) ρ5
          | none => .bad)) (fun z => by have zz := z.symm.trans ok'; cases zz) fun yd ρ5 v S5 H5 eyd t5 er6 rp5 => ?_
        have ok2 := eyd.symm.trans ok'
        cases w6 : wipeR vs ρ5 with
        | none => simp only [w6] at ok2; cases ok2
        | some ρ6 =>
          simp only [w6] at ok2
          cases qr : lcL gt ft fe vs (ds.drop (i + 1)) ρ6 with
          | ex x ρ7 => rw [qr] at ok2; cases ok2
          | bad => rw [qr] at ok2; cases ok2
          | ok ys2 ρ7 =>
            rw [qr] at ok2
            simp only [Out.bind, Out.ok.injEq] at ok2
            obtain ⟨e1, e2⟩ := ok2
            subst e1 e2
            have t45 := t4.trans er4 t5
            have tmp5 := tmp4.tr er4 t45 (er6.len.trans er4.len.symm)
            obtain ⟨a, e, sD, _, ⟨acc, eh, hr⟩, nD⟩ := tmp5
            cases e
            obtain ⟨c1, c2, c3, c5⟩ := far t45 w6 er6 (.lst (acc ++ [v]))
            have offD : ∀ b o', H5 b = some o' → ¬ S5 b → upd H5 D (.lst (acc ++ [v])) b = some o' := fun b o' e nn => by
              rw [upd_ne fun z => nn (by rw [z]; exact sD)]
              exact e
            exact ⟨acc, eh, by rw [hr.length, sizeLine_eq]; omega, S5, ρ6, outs' ++ [yd], ys2, by rw [List.length_append, List.length_singleton]; omega, c3, c1, c2, ⟨D, rfl, sD, fD, ⟨acc ++ [v], upd_same, (hr.append (RpA.one rp5)).mono offD fun _ z => .inl z⟩, c5⟩, qr, by rw [← ey]; simp⟩
  · have e : i = ds.length := by omega
    subst e
    rw [List.drop_length] at ok'
    have ok' : Out.ok ([] : List PyData) ρ' = .ok ys' ρe := ok'
    cases ok'
    rw [List.append_nil] at ey
    refine .inl ⟨itstop _ (Nat.le_refl _), fin S' H' tS er' no' ?_⟩
    rw [← ey]
    exact tmp'
end

/-- [elt for a in .. for b in .. if ..] -/
def lc2L (tg : GF) (fi1 : IF) (tg1 : GF) (tt1 : TF) (el : EF) (vs vs1 : List Nat) : Nat → List PyData → Rho → Out (List PyData)
  | _, [], ρ => .ok [] ρ
  | n, d :: ds, ρ => match tg d ρ with
    | none => .bad
    | some ρ1 => (noEx (fi1 ρ1)).bind fun es ρ2 => if n + es.length ≤ 16777216 then (match wipeR vs1 ρ2 with
      | none => .bad
      | some ρ3 => (noEx (lcL tg1 tt1 el vs1 es ρ3)).bind fun ys ρ4 => (match wipeR vs ρ4 with
        | some ρ5 => (lc2L tg fi1 tg1 tt1 el vs vs1 (n + ys.length) ds ρ5).bind fun zs ρ6 => .ok (ys ++ zs) ρ6
        | none => .bad)) else .bad
def fLc2 (fi : IF) (tg : GF) (fi1 : IF) (tg1 : GF) (tt1 : TF) (el : EF) (vs vs1 : List Nat) : EF := fun ρ => (fi ρ).bind fun ds ρ1 => match wipeR vs ρ1 with
  | some ρ2 => (lc2L tg fi1 tg1 tt1 el vs vs1 0 ds ρ2).bind fun ys ρ3 => .ok (.own (.lst ys)) ρ3
  | none => .bad
/-- nothing of a second clause wipes what the first has set -/
structure Blk2 (X : Cx) (scope : Scope) (tg tg1 iter1 : Expr) (ifs1 : List Expr) (elt : Expr) (t : TG) (gt : GF) (is : List Nat) (wi1 : TI) (fi1 : IF) (t1 : TG) (gt1 : GF) (is1 : List Nat) (tt1 : TT) (ft1 : TF) (te : TE) (fe : EF) : Prop where
  g : ∀ (s : Shared) (H : Hp) (C : Addr) (cl : List (Str × Addr)) (fp : List Addr), SG (X.blk s H scope (compEnvC scope cl C X.env) fp) tg t gt is
  i1 : ∀ (s : Shared) (H : Hp) (C : Addr) (cl : List (Str × Addr)) (fp : List Addr), SI (X.blk s H scope (compEnvC scope cl C X.env) fp) W0 tg1 iter1 wi1 fi1
  g1 : ∀ (s : Shared) (H : Hp) (C : Addr) (cl : List (Str × Addr)) (fp : List Addr), SG (X.blk s H scope (compEnvC scope cl C X.env) fp) tg1 t1 gt1 is1
  t1 : ∀ (s : Shared) (H : Hp) (C : Addr) (cl : List (Str × Addr)) (fp : List Addr), STs (X.blk s H scope (compEnvC scope cl C X.env) fp) W0 ifs1 tt1 ft1
  e : ∀ (s : Shared) (H : Hp) (C : Addr) (cl : List (Str × Addr)) (fp : List Addr), SE (X.blk s H scope (compEnvC scope cl C X.env) fp) W0 elt te fe
section
variable {X : Cx} {W : WX} {elt tg iter tg1 iter1 : Expr} {ifs1 : List Expr} {scope : Scope} {own : List (Str × Nat)} {pos : Pos} {wi wi1 : TI} {t t1 : TG} {tt1 : TT} {te : TE} {fi fi1 : IF} {gt gt1 : GF} {ft1 : TF} {fe : EF} {is is1 vs vs1 : List Nat}
theorem sn_lc2 (hi : SI X W tg iter wi fi) (B : Blk2 X scope tg tg1 iter1 ifs1 elt t gt is wi1 fi1 t1 gt1 is1 tt1 ft1 te fe) (hv : ∀ i ∈ is, i ∈ vs) (hv1 : ∀ i ∈ is1, i ∈ vs1) :
    ∀ (F : Fx) (S : AS) (H : Hp) (σ : St) (ρ : Rho) (Q : VK), F.K = X.K → F.Ok → ER F S H σ ρ → PostE F W S H σ ρ (fLc2 fi gt fi1 gt1 ft1 fe vs vs1 ρ) Q → tLc2 wi t tYes wi1 t1 tt1 te vs vs1 σ H Q := by
  intro F S H σ ρ Q hK fok er hp
  refine hi.sn F S H σ ρ _ hK fok er ?_
  unfold fLc2 at hp
  cases q : fi ρ with
  | ex x ρ1 => rw [q] at hp; exact hp
  | bad => rw [q] at hp; exact hp
  | ok ds ρ1 =>
    rw [q] at hp
    intro J S1 H1 t1' er1 it D hD
    have hp : PostE F W S H σ ρ (match wipeR vs ρ1 with
      | some ρ2 => (lc2L gt fi1 gt1 ft1 fe vs vs1 0 ds ρ2).bind fun ys ρ3 => .ok (.own (.lst ys)) ρ3
      | none => .bad) Q := hp
    cases qw : wipeR vs ρ1 with
    | none => simp only [qw] at hp; exact hp.elim
    | some ρ2 =>
      simp only [qw] at hp
      obtain ⟨er2, no2, mu2, l2⟩ := wipeR_ok er1 qw
      have fD : F.H0 D = none := er1.new0 fok hD
      have hDS : H D = none := by
        cases w : H D with
        | none => rfl
        | some o => exact absurd hD (t1'.stay D (by rw [w]; exact fun z => nomatch z))
      cases qL : lc2L gt fi1 gt1 ft1 fe vs vs1 0 ds ρ2 with
      | bad => rw [qL] at hp; exact hp.elim
      | ex x ρ3 =>
        exfalso
        have nox : ∀ (ds : List PyData) (n : Nat) (ρ : Rho) (x : XV) (ρ' : Rho), lc2L gt fi1 gt1 ft1 fe vs vs1 n ds ρ ≠ .ex x ρ' := by
          intro ds
          induction ds with
          | nil => intro n ρ x ρ' h; cases h
          | cons d ds ih =>
            intro n ρ x ρ' h
            unfold lc2L at h
            cases w1 : gt d ρ with
            | none => simp only [w1] at h; cases h
            | some ρ1 =>
              simp only [w1] at h
              cases w2 : fi1 ρ1 with
              | ex _ _ => rw [w2] at h; cases h
              | bad => rw [w2] at h; cases h
              | ok es ρ2 =>
                rw [w2] at h
                simp only [noEx, Out.bind] at h
                by_cases hz : n + es.length ≤ 16777216
                · rw [if_pos hz] at h
                  cases w3 : wipeR vs1 ρ2 with
                  | none => simp only [w3] at h; cases h
                  | some ρ3 =>
                    simp only [w3] at h
                    cases w4 : lcL gt1 ft1 fe vs1 es ρ3 with
                    | ex _ _ => rw [w4] at h; cases h
                    | bad => rw [w4] at h; cases h
                    | ok ys ρ4 =>
                      rw [w4] at h
                      simp only at h
                      cases w5 : wipeR vs ρ4 with
                      | none => simp only [w5] at h; cases h
                      | some ρ5 =>
                        simp only [w5] at h
                        cases w6 : lc2L gt fi1 gt1 ft1 fe vs vs1 (n + ys.length) ds ρ5 with
                        | ex y ρ6 => exact ih _ _ _ _ w6
                        | bad => rw [w6] at h; cases h
                        | ok zs ρ6 => rw [w6] at h; cases h
                · rw [if_neg hz] at h; cases h
        exact nox _ _ _ _ _ qL
      | ok ys ρe =>
        rw [qL] at hp
        have hp : PostE F W S H σ ρ (.ok (.own (.lst ys)) ρe) Q := hp
        have ta : Tr S1 H1 σ ρ1 S1 H1 ρ2 := ⟨fun _ _ e _ => e, fun _ z => .inl z, fun _ z _ => z, fun i a z => mu2 i a ((mut_wipe no2).mpr z), fun _ z => z⟩
        have sS : Tr S H σ ρ (fun a => S1 a ∨ a = D) (upd H1 D (.lst [])) ρ2 := (t1'.trans er ta).trans er (Tr.allocS hD)
        have sI : TrS S1 H1 (fun a => S1 a ∨ a = D) (upd H1 D (.lst [])) := Tr.s er2 (Tr.allocS (σ := wipe σ vs) (ρ := ρ2) hD)
        have erS := er2.allocS (o := .lst []) hD
        have tmpS : RR F (fun a => S1 a ∨ a = D) (upd H1 D (.lst [])) (wipe σ vs) ρ2 (.ref D) (.own (.lst [])) := ⟨D, rfl, .inr rfl, fD, ⟨[], upd_same, .nil⟩, fun i z => er2.dom D (er2.mutS z) hD⟩
        refine ⟨fun i m H' => ∃ S' ρ' outs ys', m = ds.length - i ∧ i ≤ ds.length ∧ TrD D (fun a => S1 a ∨ a = D) (upd H1 D (.lst [])) (wipe σ vs) ρ2 S' H' ρ' ∧ ER F S' H' (wipe σ vs) ρ' ∧ NoAt vs ρ' ∧ RR F S' H' (wipe σ vs) ρ' (.ref D) (.own (.lst outs)) ∧
            lc2L gt fi1 gt1 ft1 fe vs vs1 outs.length (ds.drop i) ρ' = .ok ys' ρe ∧ outs ++ ys' = ys,
          ⟨ds.length, _, ρ2, [], ys, by simp, Nat.zero_le _, .refl, erS, no2, tmpS, qL, rfl⟩, ?_⟩
        rintro i m H' ⟨S', ρ', outs, ys', rfl, hle, tS, er', no', tmp', ok', ey⟩
        obtain ⟨itgo, itstop⟩ := it S' H' (sI.trans (tS.s erS (.inr rfl)))
        by_cases hlt : i < ds.length
        · obtain ⟨hgo, hy⟩ := itgo i hlt
          refine .inr ⟨hgo, fun H'' => ∃ S' ρ' outs ys', TrD D (fun a => S1 a ∨ a = D) (upd H1 D (.lst [])) (wipe σ vs) ρ2 S' H'' ρ' ∧ ER F S' H'' (wipe σ vs) ρ' ∧ NoAt vs ρ' ∧ RR F S' H'' (wipe σ vs) ρ' (.ref D) (.own (.lst outs)) ∧
            lc2L gt fi1 gt1 ft1 fe vs vs1 outs.length (ds.drop (i + 1)) ρ' = .ok ys' ρe ∧ outs ++ ys' = ys, fun H'' ⟨S2, ρ2', o2, y2, b1, b2, b3, b4, b5, b6⟩ => ⟨ds.length - (i + 1), by omega, S2, ρ2', o2, y2, rfl, hlt, b1, b2, b3, b4, b5, b6⟩, fun x H'' y => ?_⟩
          obtain ⟨d, ed, same, rp⟩ := hy x H'' y
          have tG : TrD D S' H' (wipe σ vs) ρ' S' H'' ρ' := .grow same
          have er3 : ER F S' H'' (wipe σ vs) ρ' := er'.grow same (fun _ z => .inl z) (fun _ z => z) fun a z => tG.stay a (er'.dom a z)
          have tmp3 : RR F S' H'' (wipe σ vs) ρ' (.ref D) (.own (.lst outs)) := by
            obtain ⟨a, e, s, f, ok, n⟩ := tmp'
            exact ⟨a, e, s, f, ok.mono (fun b o e _ => same b o e) (fun _ z => .inl z) (same a), n⟩
          have ed' : ds.drop i = d :: ds.drop (i + 1) := by
            rw [List.drop_eq_getElem_cons hlt]
            congr 1
            rw [List.getElem?_eq_getElem hlt] at ed
            exact Option.some.inj ed
          rw [ed'] at ok'
          unfold lc2L at ok'
          cases w : gt d ρ' with
          | none => simp only [w] at ok'; cases ok'
          | some ρ3 =>
            simp only [w] at ok'
            refine (B.g ({} : Shared) (fun _ => none) (0 : Nat) [] []).sn F S' H'' (wipe σ vs) ρ' ρ3 x d _ hK fok er3 rp w fun σ3 as er4 => ?_
            have hwp : wipe σ3 vs = wipe σ vs := wipe_asg as hv
            refine ⟨hwp, ?_⟩
            have tmp4 : RR F S' H'' σ3 ρ3 (.ref D) (.own (.lst outs)) := by
              obtain ⟨a, e, s, f, ok, n⟩ := tmp3
              exact ⟨a, e, s, f, ok, fun i z => n i (as.mu i a z)⟩
            unfold tYes
            refine iteT ?_
            refine (B.i1 ({} : Shared) (fun _ => none) (0 : Nat) [] []).sn F S' H'' σ3 ρ3 _ hK fok er4 ?_
            cases w2 : fi1 ρ3 with
            | ex _ _ => rw [w2] at ok'; cases ok'
            | bad => rw [w2] at ok'; cases ok'
            | ok es ρ4 =>
              rw [w2] at ok'
              simp only [noEx, Out.bind] at ok'
              intro J1 S4 H4 t4 er5 it1
              by_cases hz : outs.length + es.length ≤ 16777216
              · rw [if_pos hz] at ok'
                cases w3 : wipeR vs1 ρ4 with
                | none => simp only [w3] at ok'; cases ok'
                | some ρ5 =>
                  simp only [w3] at ok'
                  obtain ⟨er6, no6, mu6, l6⟩ := wipeR_ok er5 w3
                  cases w4 : lcL gt1 ft1 fe vs1 es ρ5 with
                  | ex _ _ => rw [w4] at ok'; cases ok'
                  | bad => rw [w4] at ok'; cases ok'
                  | ok ys1 ρ6 =>
                    rw [w4] at ok'
                    simp only at ok'
                    have tmp5 := tmp4.tr er4 t4 (er5.len.trans er4.len.symm)
                    have tmp6 : RR F S4 H4 (wipe σ3 vs1) ρ5 (.ref D) (.own (.lst outs)) := by
                      obtain ⟨a, e, s, f, ok, n⟩ := tmp5
                      exact ⟨a, e, s, f, ok, fun i z => n i (mu6 i a z)⟩
                    refine lc_loop (ifs := ifs1) (elt := elt) (B.g1 ({} : Shared) (fun _ => none) (0 : Nat) [] []) (B.t1 ({} : Shared) (fun _ => none) (0 : Nat) [] []) (B.e ({} : Shared) (fun _ => none) (0 : Nat) [] []) hv1 hK fok er6 no6 tmp6 it1 hz w4 fun S7 H7 t7 er7 no7 tmp7 => ?_
                    cases w5 : wipeR vs ρ6 with
                    | none => simp only [w5] at ok'; cases ok'
                    | some ρ7 =>
                      simp only [w5] at ok'
                      have er7u : ER F S7 H7 σ3 ρ6 := er7.unwipe no7
                      obtain ⟨er8, no8, mu8, l8⟩ := wipeR_ok er7u w5
                      rw [hwp] at er8 mu8
                      cases qr : lc2L gt fi1 gt1 ft1 fe vs vs1 (outs.length + ys1.length) (ds.drop (i + 1)) ρ7 with
                      | ex x ρ8 => rw [qr] at ok'; cases ok'
                      | bad => rw [qr] at ok'; cases ok'
                      | ok zs ρ8 =>
                        rw [qr] at ok'
                        simp only [Out.ok.injEq] at ok'
                        obtain ⟨e1, e2⟩ := ok'
                        subst e1 e2
                        refine ⟨S7, ρ7, outs ++ ys1, zs, ?_, er8, no8, ?_, by rw [List.length_append]; exact qr, by rw [← ey]; simp⟩
                        · have u : TrD D S' H'' σ3 ρ3 S7 H7 ρ6 := t4.d.trans (t7.slots (σ := σ3) (ρ := ρ4) (ρ' := ρ6) mu6 fun i a z => (mut_wipe no7).mpr z)
                          exact (tS.trans tG).trans (u.slots (σ := wipe σ vs) (ρ := ρ') (ρ' := ρ7) as.mu mu8)
                        · obtain ⟨a, e, s, f, ok, n⟩ := tmp7
                          exact ⟨a, e, s, f, ok, fun j z => n j ((mut_wipe no7).mpr (mu8 j a z))⟩
              · rw [if_neg hz] at ok'; cases ok'
        · have e : i = ds.length := by omega
          subst e
          rw [List.drop_length] at ok'
          have ok' : Out.ok ([] : List PyData) ρ' = .ok ys' ρe := ok'
          cases ok'
          rw [List.append_nil] at ey
          subst ey
          refine .inl ⟨itstop _ (Nat.le_refl _), ?_⟩
          refine hp (.ref D) S' H' ?_ (er'.unwipe no') ?_ fun a e => by cases e; exact hDS
          · exact sS.transD (tS.slots (fun i a z => (mut_wipe no2).mp z) fun i a z => (mut_wipe no').mpr z) hDS
          · obtain ⟨a, e, s, f, ok, n⟩ := tmp'
            exact ⟨a, e, s, f, ok, fun j z => n j ((mut_wipe no').mpr z)⟩
theorem se_lc2 (hc : X.calm = true) (hN : X.N.Nodup) (hi : SI X W tg iter wi fi) (ok : BlkOk X.N X.env.scope scope own) (hvs : ∀ i ∈ vs1, i ∈ own.map (·.2)) (B : Blk2 X scope tg tg1 iter1 ifs1 elt t gt is wi1 fi1 t1 gt1 is1 tt1 ft1 te fe) (hv : ∀ i ∈ is, i ∈ own.map (·.2)) (hv1 : ∀ i ∈ is1, i ∈ vs1)
    (hs : ∀ x, foldedSetIterable iter X.env x = pure x := by intro _; rfl) (hs1 : ∀ env x, foldedSetIterable iter1 env x = pure x := by intro _ _; rfl) :
    SE X W (.ListComp elt [⟨tg, iter, [], 0⟩, ⟨tg1, iter1, ifs1, 0⟩] scope pos) (tLc2 wi t tYes wi1 t1 tt1 te (own.map (·.2)) vs1) (fLc2 fi gt fi1 gt1 ft1 fe (own.map (·.2)) vs1) :=
  ⟨pe_lc2 hc hN hi.pi ok hvs (fun s H C cl fp => (B.g s H C cl fp).pg) (fun _ _ _ _ _ => pts_nil) (fun s H C cl fp => (B.i1 s H C cl fp).pi) (fun s H C cl fp => (B.g1 s H C cl fp).pg) (fun s H C cl fp => (B.t1 s H C cl fp).pt) (fun s H C cl fp => (B.e s H C cl fp).pe) hs hs1, sn_lc2 hi B hv hv1⟩
theorem ss_setLc2 {i : Nat} {y : Str} {py spos : Pos} (hc : X.calm = true) (hN : X.N.Nodup) (hy : X.N[i]? = some y) (hyl : X.env.scope.names.lookup y = some .local)
    (hsw : swapsWith (.ListComp elt [⟨tg, iter, [], 0⟩, ⟨tg1, iter1, ifs1, 0⟩] scope pos) (some (.Name y py)) spos.line X.env = pure true) (hi : SI X W tg iter wi fi) (ok : BlkOk X.N X.env.scope scope own) (hvs : ∀ i ∈ vs1, i ∈ own.map (·.2)) (B : Blk2 X scope tg tg1 iter1 ifs1 elt t gt is wi1 fi1 t1 gt1 is1 tt1 ft1 te fe)
    (hv : ∀ i ∈ is, i ∈ own.map (·.2)) (hv1 : ∀ i ∈ is1, i ∈ vs1) (hs : ∀ x, foldedSetIterable iter X.env x = pure x := by intro _; rfl) (hs1 : ∀ env x, foldedSetIterable iter1 env x = pure x := by intro _ _; rfl) :
    SS X W (.Assign [.Name y py] (.ListComp elt [⟨tg, iter, [], 0⟩, ⟨tg1, iter1, ifs1, 0⟩] scope pos) spos) (tAsg (tLc2 wi t tYes wi1 t1 tt1 te (own.map (·.2)) vs1) (gName i)) (gSet i (fLc2 fi gt fi1 gt1 ft1 fe (own.map (·.2)) vs1)) :=
  ⟨ps_setLc2 hc hN hy hyl hsw hi.pi ok hvs (fun s H C cl fp => (B.g s H C cl fp).pg) (fun _ _ _ _ _ => pts_nil) (fun s H C cl fp => (B.i1 s H C cl fp).pi) (fun s H C cl fp => (B.g1 s H C cl fp).pg) (fun s H C cl fp => (B.t1 s H C cl fp).pt) (fun s H C cl fp => (B.e s H C cl fp).pe) hs hs1, sn_set (sn_lc2 hi B hv hv1)⟩
end
end Pv
set_option maxRecDepth 100000
/-! PvM: sorted(list); a dict display with one tuple key. -/
namespace Pv
open PySem PySem.Spec L2

/-! ### a stable sort -/
def insD (d : PyData) : List PyData → List PyData
  | [] => [d]
  | e :: es => if PySem.W.dataLt e d then e :: insD d es else d :: e :: es
def isortD : List PyData → List PyData
  | [] => []
  | d :: ds => insD d (isortD ds)
abbrev leD : PyData → PyData → Bool := PySem.W.dataLe false fun d => d
theorem leD_total : PySem.W.TotalLe leD := PySem.W.sortLe_total _ _ _
theorem leD_eq (x y : PyData) : leD x y = !PySem.W.dataLt y x := rfl
theorem insD_mem {d x : PyData} : ∀ {es : List PyData}, x ∈ insD d es → x = d ∨ x ∈ es
  | [], h => by simp [insD] at h; exact .inl h
  | e :: es, h => by
    unfold insD at h
    split at h
    · rcases List.mem_cons.mp h with h | h
      · exact .inr (h ▸ List.mem_cons_self)
      · rcases insD_mem h with h | h
        · exact .inl h
        · exact .inr (List.mem_cons_of_mem _ h)
    · rcases List.mem_cons.mp h with h | h
      · exact .inl h
      · exact .inr h
theorem insD_sorted {d : PyData} : ∀ {es : List PyData}, es.Pairwise (fun a b => leD a b = true) → (insD d es).Pairwise (fun a b => leD a b = true)
  | [], _ => by simp [insD]
  | e :: es, h => by
    rw [List.pairwise_cons] at h
    unfold insD
    split
    · rename_i hlt
      refine List.pairwise_cons.mpr ⟨fun x hx => ?_, insD_sorted h.2⟩
      rcases insD_mem hx with q | q
      · subst q
        rcases leD_total.total e x with z | z
        · exact z
        · rw [leD_eq, hlt] at z; cases z
      · exact h.1 x q
    · rename_i hlt
      have hle : leD d e = true := by rw [leD_eq]; simpa using hlt
      refine List.pairwise_cons.mpr ⟨fun x hx => ?_, List.pairwise_cons.mpr h⟩
      rcases List.mem_cons.mp hx with q | q
      · rw [q]; exact hle
      · exact leD_total.trans _ _ _ hle (h.1 x q)
theorem insD_filter {d : PyData} (c : PyData) : ∀ {es : List PyData}, (insD d es).filter (PySem.W.sameRank leD c) = (d :: es).filter (PySem.W.sameRank leD c)
  | [] => rfl
  | e :: es => by
    unfold insD
    split
    · rename_i hlt
      have ih := insD_filter (d := d) c (es := es)
      by_cases h1 : PySem.W.sameRank leD c e = true
      · have h2 : ¬ PySem.W.sameRank leD c d = true := fun h2 => by
          unfold PySem.W.sameRank at h1 h2
          rw [Bool.and_eq_true] at h1 h2
          have z := leD_total.trans _ _ _ h2.2 h1.1
          rw [leD_eq, hlt] at z
          cases z
        rw [List.filter_cons_of_pos h1, ih, List.filter_cons_of_neg h2, List.filter_cons_of_neg h2, List.filter_cons_of_pos h1]
      · rw [List.filter_cons_of_neg h1, ih]
        by_cases h2 : PySem.W.sameRank leD c d = true
        · rw [List.filter_cons_of_pos h2, List.filter_cons_of_pos h2, List.filter_cons_of_neg h1]
        · rw [List.filter_cons_of_neg h2, List.filter_cons_of_neg h2, List.filter_cons_of_neg h1]
    · rfl
theorem isortD_sorted : ∀ (ds : List PyData), (isortD ds).Pairwise (fun a b => leD a b = true)
  | [] => .nil
  | d :: ds => insD_sorted (isortD_sorted ds)
theorem isortD_filter (c : PyData) : ∀ (ds : List PyData), (isortD ds).filter (PySem.W.sameRank leD c) = ds.filter (PySem.W.sameRank leD c)
  | [] => rfl
  | d :: ds => by
    show (insD d (isortD ds)).filter _ = _
    rw [insD_filter c]
    by_cases h : PySem.W.sameRank leD c d = true
    · rw [List.filter_cons_of_pos h, List.filter_cons_of_pos h, isortD_filter c ds]
    · rw [List.filter_cons_of_neg h, List.filter_cons_of_neg h, isortD_filter c ds]
theorem isortD_eq (ds : List PyData) : isortD ds = ds.mergeSort leD := PySem.W.sort_unique leD_total (isortD_sorted ds) fun c => isortD_filter c ds

/-! ### sorted(list) -/
def tup1 : PyData → Bool
  | .tuple (_ :: _) => true
  | _ => false
def plain1 : PyData → Bool
  | .none => false
  | .tuple _ => false
  | _ => true
def alikesD (ds : List PyData) : Bool := ds.all fun x => ds.all fun y => PySem.W.alike x y
def sortOk (ds : List PyData) : Bool := PyData.canLayAll0 ds && (ds.all tup1 || ds.all plain1) && alikesD ds && ds.all (fun d => decide (d.depth ≤ 60)) && decide (ds.length ≤ 16777216)
def gSorted : List PyData → Option R
  | [.list ds] => if sortOk ds then some (.own (.lst (isortD ds))) else none
  | _ => none
def zipSort (xs : List V) (ds : List PyData) : List (V × PyData) := (xs.zip ds).mergeSort (PySem.W.dataLe false (·.2))
def rSortD (K : PySem.W.Frag) : List V → Hp → VK → Prop := fun vs H Q => ∃ (a : Addr) (xs : List V) (ds : List PyData), vs = [.ref a] ∧ SqL K H a xs ∧ DpAll K H xs ds ∧ PySem.W.AllAlike ds ∧ PySem.W.Sortable ds ∧ (∀ d ∈ ds, d.depth ≤ 60) ∧ ds.length ≤ sizeLine ∧
  ∀ p, H p = none → Q (.ref p) (upd H p (.lst ((zipSort xs ds).map (·.1))))
theorem zip_snd : ∀ {xs : List V} {ds : List PyData}, xs.length = ds.length → (xs.zip ds).map (·.2) = ds
  | [], [], _ => rfl
  | _ :: _, [], h => by simp at h
  | [], _ :: _, h => by simp at h
  | x :: xs, d :: ds, h => by
    rw [List.zip_cons_cons, List.map_cons, zip_snd (by simpa using h)]
theorem zipSort_snd {xs : List V} {ds : List PyData} (h : xs.length = ds.length) : (zipSort xs ds).map (·.2) = isortD ds := by
  rw [isortD_eq]
  unfold zipSort
  have z := PySem.W.sort_maps (r := PySem.W.dataLe false (fun p : V × PyData => p.2)) (s := leD) (l := xs.zip ds) (fun p : V × PyData => p.2) (fun a _ b _ => rfl)
  rw [zip_snd h] at z
  exact z
theorem dpAll_len {K : PySem.W.Frag} {H : Hp} : ∀ {xs : List V} {ds : List PyData}, DpAll K H xs ds → xs.length = ds.length
  | _, _, .nil => rfl
  | _, _, .cons _ h => by rw [List.length_cons, List.length_cons, dpAll_len h]
theorem zip_vals {X : Cx} {pins : List (Addr × Obj)} {σ : St} {H : Hp} {s : Shared} (I : Inv X pins σ H s) : ∀ {xs : List V} {ds : List PyData} {its : List Value}, Vals xs its → DpAll X.K H xs ds →
    PySem.W.EachIs (fun v (p : V × PyData) => RelV p.1 v) its (xs.zip ds) ∧ PySem.W.EachIs (fun v (p : V × PyData) => ∃ as, Reads s.heap v p.2 as) its (xs.zip ds)
  | _, _, _, .nil, .nil => ⟨.nil, .nil⟩
  | _, _, _, .cons r rs, .cons h hs => by
    obtain ⟨e1, e2⟩ := zip_vals I rs hs
    exact ⟨.cons r e1, .cons (Dp.reads I _ _ _ h r) e2⟩
theorem each_vals : ∀ {out : List Value} {ps : List (V × PyData)}, PySem.W.EachIs (fun v (p : V × PyData) => RelV p.1 v) out ps → Vals (ps.map (·.1)) out
  | _, _, .nil => .nil
  | _, _, .cons h hs => .cons h (each_vals hs)
theorem call_sortD {X : Cx} (hu : X.A.units + 65 < cLine) : CallR X (.builtin "sorted") (rSortD X.K) := by
  intro pins s σ H vs us Q I r h
  obtain ⟨a, xs, ds, rfl, hs, hd, hal, hso, hdp, hln, q⟩ := h
  obtain ⟨its, rv, hl, _⟩ := I.list hs
  rw [Vals.ref1 r]
  have el := dpAll_len hd
  obtain ⟨e1, e2⟩ := zip_vals I rv hd
  have ezip := zip_snd el
  have lz : (xs.zip ds).length = ds.length := by rw [List.length_zip, el, Nat.min_self]
  refine PySem.W.sorted_data (enc := fun p : V × PyData => p.2) (vs := its) hl.isList e1 e2 (by rw [ezip]; exact hal) (by rw [ezip]; exact hso) (by rw [lz]; exact hln) (fun b hb => ?_) fun out h1 h2 => ?_
  · have hm : b.2 ∈ ds := by rw [← ezip]; exact List.mem_map_of_mem hb
    have := hdp _ hm
    omega
  · obtain ⟨ep, he'⟩ := PyProof.Rows.sortedAll_at s.heap its out.toArray
    have hlen : ((zipSort xs ds).map (·.1)).length ≤ sizeLine := by
      unfold zipSort
      rw [List.length_map, List.length_mergeSort, lz]; exact hln
    exact ⟨.ref _, upd H (s.heap.objs.size + 1) (.lst ((zipSort xs ds).map (·.1))), I.laid (t' := s.toks) (fun _ _ => PyProof.Rows.sortedAll_old) (Nat.le_succ _) ⟨hlen, out, ep, each_vals h2, he'⟩, rfl, q _ (I.hok.fresh (Nat.le_succ _))⟩
theorem rpA_pairs {K : PySem.W.Frag} {S : AS} {H : Hp} : ∀ (l : List (V × PyData)), (∀ p ∈ l, Rp K S H p.1 p.2) → RpA K S H (l.map (·.1)) (l.map (·.2))
  | [], _ => .nil
  | p :: l, h => .cons (h p List.mem_cons_self) (rpA_pairs l fun q hq => h q (List.mem_cons_of_mem _ hq))
theorem rpA_zip {K : PySem.W.Frag} {S : AS} {H : Hp} : ∀ {xs : List V} {ds : List PyData}, RpA K S H xs ds → ∀ p ∈ xs.zip ds, Rp K S H p.1 p.2
  | _, _, .nil, p, hp => by cases hp
  | _, _, .cons h hs, p, hp => by
    rw [List.zip_cons_cons] at hp
    rcases List.mem_cons.mp hp with q | q
    · rw [q]; exact h
    · exact rpA_zip hs p q
theorem cg_sorted {K : PySem.W.Frag} : CallG K (rSortD K) gSorted := by
  intro S H vs ds res Q dom hs e q
  unfold gSorted at e
  split at e
  · rename_i ds
    split at e
    · rename_i ok
      obtain ⟨v, rfl, rt⟩ := hs.one
      obtain ⟨a, xs, rfl, ha, h⟩ := rt.list
      cases e
      unfold sortOk alikesD at ok
      simp only [Bool.and_eq_true, decide_eq_true_eq, List.all_eq_true, Bool.or_eq_true] at ok
      obtain ⟨⟨⟨⟨o1, o2⟩, o3⟩, o4⟩, o5⟩ := ok
      refine ⟨a, xs, ds, rfl, ha, h.dp o1, fun d hd d' hd' => o3 d hd d' hd', ?_, o4, by rw [sizeLine_eq]; exact o5, fun p hp => ?_⟩
      · rcases o2 with o2 | o2
        · refine .inl fun d hd => ?_
          have := o2 d hd
          unfold tup1 at this
          split at this
          · exact ⟨_, _, rfl⟩
          · cases this
        · refine .inr fun d hd => ?_
          have := o2 d hd
          refine ⟨fun z => ?_, fun xs z => ?_⟩ <;> (rw [z] at this; cases this)
      · refine q _ _ _ (.lst hp ?_)
        rw [← zipSort_snd h.length]
        refine rpA_pairs _ fun p hp => ?_
        unfold zipSort at hp
        rw [List.mem_mergeSort] at hp
        exact rpA_zip h p hp
    · cases e
  · cases e

/-! ### {k: v} with k a tuple -/
def tDisp1 (tk tv : TE) : TE := fun σ H Q => ∀ p, H p = none → tk σ (upd H p (.dT [])) fun x H1 => tv σ H1 fun y H2 => ∃ (b : Addr) (ks : List Key), H2 p = some (.dT []) ∧ x = .ref b ∧ H2 b = some (.tup (ks.map kV)) ∧ Q (.ref p) (upd H2 p (.dT [(ks, y)]))
theorem pe_disp1 {X : Cx} {pos : Pos} {k v : Expr} {tk tv : TE} (hu : X.A.units + 1 < cLine) (hk : PE X k tk) (hv : PE X v tv) : PE X (.Dict [some k] [v] pos) (tDisp1 tk tv) := by
  refine ⟨fun pins s σ H Q I q => ?_⟩
  have hn := I.hok.fresh (Nat.le_refl s.heap.objs.size)
  have I1 := I.laid (a := s.heap.objs.size) (o := .dT []) (h' := s.heap.push { cls := .type "dict", data := .dict #[] }) (t' := s.toks) (fun _ _ q => Heap.get?_push_of_some _ q) (Nat.le_refl _) (dt_empty s.heap I.big)
  rw [arm_eval_Dict, zip_pairTrees [some k] [v] X.env pos rfl rfl, dictDisplay_pairs (pairTrees [some k] [v] X.env pos) (by simp [pairTrees]) (by simp [pairTrees])]
  refine wpAny_bind (wpAny_standAt (wpAny_bind (wpAny_subDictH (knd := tupleKind (mixKind X.prog X.w)) (show X.A.units < cLine by omega) (by simp [pairTrees]) ?_)))
  refine pairTrees_cons_walk (thn (hk.run pins _ σ _ _ I1 (q _ hn)) fun u s1 ⟨x, H1, I2, rx, q1⟩ => thn (hv.run pins s1 σ H1 _ I2 q1) fun w2 s2 ⟨y, H2, I3, ry, q2⟩ => pairTrees_nil_walk ?_)
  obtain ⟨b, ks, e, ex, eb, q3⟩ := q2
  subst ex
  cases (show u = Value.ref b from rx)
  obtain ⟨z, hd, xs, rel, dd⟩ := dt_of I3.hok e
  cases rel
  refine ⟨[(ks, b, w2)], ⟨rfl, rfl, key_of I3.hok eb, trivial⟩, dd, fun h' tk' dd' hs => wpAny_pure ⟨.ref s.heap.objs.size, _, ?_, rfl, q3⟩⟩
  obtain ⟨o, es, ep, hq, h2, h3, h4, _, h5⟩ := dd'
  have rel' : KT H2 [(ks, y)] [(ks, b, w2)] := .cons ⟨rfl, eb, ry⟩ .nil
  refine d_write I3 (by rw [e]; exact True.intro) hs ⟨o, hq⟩ ⟨by show 1 ≤ sizeLine; decide, hd, _, rel'.keeps fun c ys ec => ?_, o, es, ep, hq, h2, h3, h4, h5⟩
  rw [upd_ne (ne_of ec e (fun z => nomatch z))]
  exact ec
def fDisp1 (fk fv : EF) : EF := fun ρ => (fk ρ).bind fun rk ρ1 => (fv ρ1).bind fun rv ρ2 => match rk, rv with
  | .val (.tuple xs), .val d => (match keysOf xs with
    | some ks => .ok (.own (.dT [(ks, d)])) ρ2
    | none => .bad)
  | _, _ => .bad
theorem se_disp1 {X : Cx} {W : WX} {pos : Pos} {k v : Expr} {tk tv : TE} {fk fv : EF} (hu : X.A.units + 1 < cLine) (hk : SE X W k tk fk) (hv : SE X W v tv fv) : SE X W (.Dict [some k] [v] pos) (tDisp1 tk tv) (fDisp1 fk fv) := by
  refine ⟨pe_disp1 hu hk.pe hv.pe, fun F S H σ ρ Q hK fok er hp p hpn => ?_⟩
  obtain ⟨t0, er0, rr0, fr0⟩ := (Grow.dT0 (K := F.K) (S := S) hpn).step er fok
  refine hk.sn F _ _ σ ρ _ hK fok er0 ?_
  unfold fDisp1 at hp
  cases q1 : fk ρ with
  | ex x ρ1 => rw [q1] at hp; exact PostE.shift (o := .ex x ρ1) (Q := Q) er t0 hp
  | bad => rw [q1] at hp; exact hp
  | ok rk ρ1 =>
    rw [q1] at hp
    intro x S1 H1 t1 er1 rr1 _
    refine hv.sn F _ _ σ ρ1 _ hK fok er1 ?_
    simp only [Out.bind] at hp
    cases q2 : fv ρ1 with
    | ex x ρ2 => rw [q2] at hp; exact PostE.shift (o := .ex x ρ2) (Q := Q) er (t0.trans er t1) hp
    | bad => rw [q2] at hp; exact hp
    | ok rv ρ2 =>
      rw [q2] at hp
      intro y S2 H2 t2 er2 rr2 _
      have rr1' := rr1.tr er1 t2 (er2.len.trans er1.len.symm)
      have rr0' := (rr0.tr er0 t1 (er1.len.trans er0.len.symm)).tr er1 t2 (er2.len.trans er1.len.symm)
      match rk, rv, rr1', rr2, hp with
      | .val (.tuple xs), .val d, rr1', rr2, hp2 =>
        have hp3 : PostE F W S H σ ρ (match keysOf xs with
          | some ks => .ok (.own (.dT [(ks, d)])) ρ2
          | none => .bad) Q := hp2
        clear hp2
        cases qk : keysOf xs with
        | none => simp only [qk] at hp3; exact hp3.elim
        | some ks =>
          simp only [qk] at hp3
          have hp4 : PostE F W S H σ ρ (.ok (.own (.dT [(ks, d)])) ρ2) Q := hp3
          obtain ⟨rfl, b, rfl, hb⟩ := (show RT F.K S2 H2 x (.tuple xs) from .inl rr1').keyT qk
          obtain ⟨a, ea, sa, fa, ok, nm⟩ := rr0'
          cases ea
          obtain ⟨kvs, e1, e2, e3⟩ := ok
          have ek : kvs = [] := by cases kvs with
            | nil => rfl
            | cons _ _ => simp at e2
          subst ek
          have off : ∀ c o, H2 c = some o → ¬ S2 c → upd H2 p (.dT [(ks, y)]) c = some o := fun c o e n => by
            rw [upd_ne fun z => n (by rw [z]; exact sa)]
            exact e
          have T := (t0.trans er t1).trans er t2
          refine ⟨b, ks, e1, rfl, hb, ?_⟩
          refine hp4 (.ref p) S2 _ ⟨fun c o e n => ?_, T.new, T.old, T.mu, fun c e => ?_⟩ (er2.wTemp sa fa nm) ⟨p, rfl, sa, fa, ⟨_, upd_same, rfl, .cons ?_ .nil⟩, nm⟩ (fun a e => by cases e; exact hpn)
          · rw [upd_ne (ne_of_none e hpn)]; exact T.off c o e n
          · unfold upd
            split
            · exact fun z => nomatch z
            · exact T.stay c e
          · exact Rp.mono off (fun _ z => .inl z) rr2
      | .val (.tuple xs), .own _, _, _, hp2 => exact hp2.elim
      | .val (.tuple xs), .slot _, _, _, hp2 => exact hp2.elim
      | .val .none, _, _, _, hp2 => exact hp2.elim
      | .val (.bool _), _, _, _, hp2 => exact hp2.elim
      | .val (.int _), _, _, _, hp2 => exact hp2.elim
      | .val (.str _), _, _, _, hp2 => exact hp2.elim
      | .val (.list _), _, _, _, hp2 => exact hp2.elim
      | .val (.dict _), _, _, _, hp2 => exact hp2.elim
      | .own _, _, _, _, hp2 => exact hp2.elim
      | .slot _, _, _, _, hp2 => exact hp2.elim
end Pv
set_option maxRecDepth 100000
/-! PvN: a def that can be called, small change. -/
namespace Pv
open PySem PySem.Spec L2

/-- a def of the text, as a caller needs it -/
structure Cal (P : Program) (w : World) (K : PySem.W.Frag) (mg : Str → Option Value) (base : Heap) (x : Str) (k : Nat) (ps : List Str) (Fn : FN) (f : Addr) (fd : FuncData) : Prop where
  ok : FnOk P w K mg base (L2.CX P w) k f fd ps (spF K ps.length Fn)
  mg : mg x = some (.ref f)
  kp : PySem.W.keepIn K (.ref f) = true
  bi : Binds K fd ps []
section
variable {X : Cx} {W : WX} {e : Expr} {es : List Expr} {t : TA} {fr : RF} {k : Nat} {f : Addr} {fd : FuncData} {ps : List Str} {Fn : FN} {x : Str} {p pos : Pos} {ta : TE} {fa : EF} {a : Expr}
theorem se_callC (C : Cal X.prog X.w X.K X.mg X.base x k ps Fn f fd) (hr : Room k X.A) (tk : Takes X W) (hg : Gl X x) (ha : SAc X W (e :: es) t fr) (hn : (e :: es).length = ps.length := by rfl) (hdb : (x == ("__debug__" : Str)) = false := by decide)
    (he : starEach (e :: es) X.env = (false, eval e X.env) :: starEach es X.env := by rfl) (hpl : (backTo pos (starEach es X.env)).any (·.1) = false := by rfl) :
    SE X W (.Call (.Name x p) (e :: es) [] pos) (tCallS (spF X.K ps.length Fn) (WE W) t) (fCall Fn fr) :=
  se_call C.ok hr tk hg C.mg C.kp C.bi ha hn hdb he hpl
/-- an argument given away -/
def cConsF (fa : EF) (fr : RF) : RF := fun ρ => bindF (fa ρ) fun d ρ1 => (fr ρ1).bind fun rs ρ2 => .ok (.val d :: rs) ρ2
theorem sc_consF (ha : SE X W e ta fa) (hr : SAc X W es t fr) (hs : starEach (e :: es) X.env = (false, eval e X.env) :: starEach es X.env := by rfl) : SAc X W (e :: es) (tCons ta t) (cConsF fa fr) := by
  refine ⟨pa_cons ha.pe hr.pa hs, fun F S H σ ρ Q hK fok er hp => ?_, fun ρ rs ρ' eq => ?_⟩
  · refine ha.goF hK fok er (wR F W σ Q) hp fun d ρ1 v S1 H1 t1 er1 rp1 hp1 => ?_
    refine hr.sn F S1 H1 σ ρ1 _ hK fok er1 ?_
    have hp1 : PostR F W S1 H1 σ ρ1 ((fr ρ1).bind fun rs ρ2 => .ok (.val d :: rs) ρ2) Q := hp1
    cases q : fr ρ1 with
    | ok rs ρ2 =>
      rw [q] at hp1
      exact fun vs S2 H2 t2 er2 rr2 => hp1 (v :: vs) S2 H2 t2 er2 (.cons (rp1.tr er1 t2) rr2)
    | ex x ρ2 => rw [q] at hp1; exact hp1
    | bad => rw [q] at hp1; exact hp1
  · unfold cConsF bindF at eq
    cases q : fa ρ with
    | ex x ρ1 => rw [q] at eq; cases eq
    | bad => rw [q] at eq; cases eq
    | ok r0 ρ1 =>
      rw [q] at eq
      simp only at eq
      cases z : freeze ρ1 r0 with
      | none => simp only [z] at eq; cases eq
      | some p =>
        obtain ⟨d, ρ2⟩ := p
        simp only [z] at eq
        cases q2 : fr ρ2 with
        | ex x ρ3 => rw [q2] at eq; cases eq
        | bad => rw [q2] at eq; cases eq
        | ok rs2 ρ3 =>
          rw [q2] at eq
          cases eq
          rw [List.length_cons, List.length_cons, hr.ln _ _ _ q2]
/-- -a -/
def gNeg : PyData → Option R
  | .int i => some (.val (.int (-i)))
  | _ => none
def outU (g : PyData → Option R) (r : R) (ρ : Rho) : Out R := match deref ρ r with
  | some d => (match g d with
    | some r => .ok r ρ
    | none => .bad)
  | none => .bad
def fNeg (fa : EF) : EF := fun ρ => (fa ρ).bind (outU gNeg)
theorem se_neg (ha : SE X W a ta fa) : SE X W (.UnaryOp .USub a pos) (tUn (rU fun i => .int (-i)) ta) (fNeg fa) := by
  refine ⟨pe_un un_neg ha.pe, fun F S H σ ρ Q hK fok er hp => ?_⟩
  refine ha.go hK fok er (wE F W σ Q) hp fun r ρ1 v1 S1 H1 t1 er1 rr1 _ hp1 => ?_
  have hp1 : PostE F W S1 H1 σ ρ1 (outU gNeg r ρ1) Q := hp1
  unfold outU at hp1
  cases qa : deref ρ1 r with
  | none => simp only [qa] at hp1; exact hp1.elim
  | some d =>
    simp only [qa] at hp1
    have rt := rr1.rt er1 qa
    cases d with
    | int i =>
      cases rt.int
      exact ⟨i, rfl, hp1 _ S1 H1 .refl er1 (.int _) trivial⟩
    | _ => exact hp1.elim
end
/-- a def that isn't reached -/
theorem fnF_never {n : Nat} {ss : List Slot} : fnF n gNever ss = .bad := rfl
/-- the law's own def, handed the script -/
theorem spF_law {K : PySem.W.Frag} {Fn : FN} {m : Option MO} {H : Hp} {a : Addr} {ns : List Int} (h : Fn [.val (.list (ns.map PyData.int))] = .ok (.val (.bool true)) m) (hS : SqL K H a (ns.map V.int)) :
    spF K 1 Fn [.ref a] H (fun v _ => v = .bl true) fun _ _ _ => False := by
  have hl : LAt K (fun _ => False) H a (ns.map V.int) := by
    rcases hS with hS | hS
    · exact .inl ⟨fun z => z, hS⟩
    · exact .inr hS
  have hr : ∀ ns : List Int, RpA K (fun _ => False) H (ns.map V.int) (ns.map PyData.int) := fun ns => by
    induction ns with
    | nil => exact .nil
    | cons n ns ih => exact .cons (.int n) ih
  refine ⟨fun _ => False, [.val (.list (ns.map PyData.int))], rfl, .cons (.lst hl (hr ns)) .nil, rfl, fun _ z => z.elim, ?_⟩
  rw [h]
  intro v S' H' _ _ rr
  cases (show Rp K S' H' v (.bool true) from rr)
  rfl
theorem cx_end {P : Program} {w : World} {H : Hp} {s : Shared} {e : Value} {s' : Shared} (h : L2.CX P w [] H s (fun _ _ _ => False) e s') : False := by
  obtain ⟨_, _, _, _, _, _, _, _, _, _, _, _, z⟩ := h
  exact z
theorem hu1 {A : Around} {k : Nat} (h : Room k A) : A.units + 1 < cLine := by have := h.un; omega
theorem hu64 {A : Around} {k : Nat} (h : Room k A) : A.units + 64 < cLine := by have := h.un; omega
theorem hu65 {A : Around} {k : Nat} (h : Room k A) : A.units + 65 < cLine := by have := h.un; omega

/-! ### x, y = a, b where a name is shared with a block -/
section
variable {X : Cx} {W : WX} {ta : TA} {fr : RF}
theorem par2_go {es : List Expr} {i j : Nat} (ha : SAo X W es ta fr) : ∀ (F : Fx) (S : AS) (H : Hp) (σ : St) (ρ : Rho) (D : Ends), F.K = X.K → F.Ok → ER F S H σ ρ → PostS F W S H (gPar2 i j fr ρ) D → ∀ Qf : List V → Hp → Prop, (∀ v w H1, D.nx ((σ.set i (some v)).set j (some w)) H1 → Qf [v, w] H1) → ta σ H Qf := by
  intro F S H σ ρ D hK fok er hp Qf hf
  refine ha.sn F S H σ ρ _ hK fok er ?_
  unfold gPar2 at hp
  cases q : fr ρ with
  | ex x ρ1 => rw [q] at hp; exact fun cls dx S1 H1 t1 er1 xr => hp cls dx σ S1 H1 (t1.s er) er1 xr
  | bad => rw [q] at hp; exact hp
  | ok rs ρ1 =>
    rw [q] at hp
    intro vs S1 H1 t1 er1 rr1 fd
    match rs, rr1, fd, hp with
    | [r, u], .cons (v := v) h1 (.cons (v := w) h2 .nil), ⟨f1, f2, f3⟩, hp =>
      have hp1 := PostS.shift (t1.s er) hp
      simp only [toS] at hp1
      by_cases pl : (plainR r && plainR u) = true
      · rw [if_pos pl] at hp1
        rw [Bool.and_eq_true] at pl
        cases q1 : storeP i r ρ1 with
        | none => simp only [q1] at hp1; exact hp1.elim
        | some ρ2 =>
          simp only [q1] at hp1
          obtain ⟨er2, l2, mu2⟩ := storeP_ok er1 h1 q1
          have h2' : RR F S1 H1 (σ.set i (some v)) ρ2 w u := h2.past pl.2 mu2 fun a m m' e1 e2 e3 e4 => f3 a m e1 e2 0 m' (by rw [e3]; rfl) (by rw [e4]; rfl)
          cases q2 : storeP j u ρ2 with
          | none => simp only [q2] at hp1; exact hp1.elim
          | some ρ3 =>
            simp only [q2] at hp1
            obtain ⟨er3, _, _⟩ := storeP_ok er2 h2' q2
            exact hf v w H1 (hp1 _ S1 H1 .refl er3)
      · rw [if_neg pl] at hp1
        exact hp1.elim
    | [], .nil, _, hp => exact hp.elim
    | [_], .cons _ .nil, _, hp => exact hp.elim
    | _ :: _ :: _ :: _, .cons _ (.cons _ (.cons _ _)), _, hp => exact hp.elim
theorem par3_go {es : List Expr} {i j l : Nat} (ha : SAo X W es ta fr) : ∀ (F : Fx) (S : AS) (H : Hp) (σ : St) (ρ : Rho) (D : Ends), F.K = X.K → F.Ok → ER F S H σ ρ → PostS F W S H (gPar3 i j l fr ρ) D → ∀ Qf : List V → Hp → Prop, (∀ v w z H1, D.nx (((σ.set i (some v)).set j (some w)).set l (some z)) H1 → Qf [v, w, z] H1) → ta σ H Qf := by
  intro F S H σ ρ D hK fok er hp Qf hf
  refine ha.sn F S H σ ρ _ hK fok er ?_
  unfold gPar3 at hp
  cases q : fr ρ with
  | ex x ρ1 => rw [q] at hp; exact fun cls dx S1 H1 t1 er1 xr => hp cls dx σ S1 H1 (t1.s er) er1 xr
  | bad => rw [q] at hp; exact hp
  | ok rs ρ1 =>
    rw [q] at hp
    intro vs S1 H1 t1 er1 rr1 fd
    match rs, rr1, fd, hp with
    | [r, u, y], .cons (v := v) h1 (.cons (v := w) h2 (.cons (v := z) h3 .nil)), ⟨f1, ⟨g1, g2, g3⟩, f3⟩, hp =>
      have hp1 := PostS.shift (t1.s er) hp
      simp only [toS] at hp1
      by_cases pl : (plainR r && plainR u && plainR y) = true
      · rw [if_pos pl] at hp1
        rw [Bool.and_eq_true, Bool.and_eq_true] at pl
        cases q1 : storeP i r ρ1 with
        | none => simp only [q1] at hp1; exact hp1.elim
        | some ρ2 =>
          simp only [q1] at hp1
          obtain ⟨er2, l2, mu2⟩ := storeP_ok er1 h1 q1
          have h2' : RR F S1 H1 (σ.set i (some v)) ρ2 w u := h2.past pl.1.2 mu2 fun a m m' e1 e2 e3 e4 => f3 a m e1 e2 0 m' (by rw [e3]; rfl) (by rw [e4]; rfl)
          have h3' : RR F S1 H1 (σ.set i (some v)) ρ2 z y := h3.past pl.2 mu2 fun a m m' e1 e2 e3 e4 => f3 a m e1 e2 1 m' (by rw [e3]; rfl) (by rw [e4]; rfl)
          cases q2 : storeP j u ρ2 with
          | none => simp only [q2] at hp1; exact hp1.elim
          | some ρ3 =>
            simp only [q2] at hp1
            obtain ⟨er3, _, mu3⟩ := storeP_ok er2 h2' q2
            have h3'' : RR F S1 H1 ((σ.set i (some v)).set j (some w)) ρ3 z y := h3'.past pl.2 mu3 fun a m m' e1 e2 e3 e4 => g3 a m e1 e2 0 m' (by rw [e3]; rfl) (by rw [e4]; rfl)
            cases q3 : storeP l y ρ3 with
            | none => simp only [q3] at hp1; exact hp1.elim
            | some ρ4 =>
              simp only [q3] at hp1
              obtain ⟨er4, _, _⟩ := storeP_ok er3 h3'' q3
              exact hf v w z H1 (hp1 _ S1 H1 .refl er4)
      · rw [if_neg pl] at hp1
        exact hp1.elim
    | [], .nil, _, hp => exact hp.elim
    | [_], .cons _ .nil, _, hp => exact hp.elim
    | [_, _], .cons _ (.cons _ .nil), _, hp => exact hp.elim
    | _ :: _ :: _ :: _ :: _, .cons _ (.cons _ (.cons _ (.cons _ _))), _, hp => exact hp.elim
/-- one thing more at the end -/
def Ends.more (D : Ends) : Ends := { D with nx := fun σ' H' => ∀ p xs, H' p = none → D.nx σ' (upd H' p (.tup xs)) }
theorem PostS.more {F : Fx} {S : AS} {H : Hp} {D : Ends} {o : SO} (h : PostS F W S H o D) : PostS F W S H o (Ends.more D) := by
  cases o with
  | nx ρ' =>
    intro σ' S' H' t er p xs hp
    exact h σ' S' _ (t.trans (Tr.s er (Tr.alloc hp))) (er.alloc hp)
  | rt r ρ' => exact h
  | bk ρ' => exact h
  | ct ρ' => exact h
  | ex x ρ' => exact h
  | bad => exact h
theorem ss_parc2 {i j : Nat} {x y : Str} {a b : Expr} {px py pt pos : Pos} {kt k2 pt2} (hc : X.calm = true) (hN : X.N.Nodup) (hi : X.N[i]? = some x) (hj : X.N[j]? = some y) (hx : Loc X.env.scope x) (hy : Loc X.env.scope y)
    (ha : SAo X W [a, b] ta fr) (hf : X.fn x = true ∨ X.env.scope.names.lookup x = some .local := by first | exact .inl rfl | exact .inr rfl) (hg : X.fn y = true ∨ X.env.scope.names.lookup y = some .local := by first | exact .inl rfl | exact .inr rfl)
    (hs : swapsWithSole [.Tuple [.Name x px, .Name y py] kt pt] (.Tuple [a, b] k2 pt2) pos.line X.env = pure false := by rfl) (hw : swappedStores [.Tuple [.Name x px, .Name y py] kt pt] (.Tuple [a, b] k2 pt2) X.env = pure none := by rfl) :
    SS X W (.Assign [.Tuple [.Name x px, .Name y py] kt pt] (.Tuple [a, b] k2 pt2) pos) (tAsg (tTup ta) (gTup X.K 2 (gCons (gName i) (gCons (gName j) gNil)))) (gPar2 i j fr) := by
  refine ⟨ps_asg (pe_tup ha.pa) (pg_tup hc (pgs_cons (pg_name hN hi hx hf) (pgs_cons (pg_name hN hj hy hg) pgs_nil))) hs hw, fun F S H σ ρ D hK fok er hp => ?_⟩
  refine par2_go ha F S H σ ρ (Ends.more D) hK fok er hp.more _ fun v w H1 q => ⟨by show 2 ≤ sizeLine; decide, fun p hp => ?_⟩
  exact ⟨p, [v, w], rfl, SqT.of upd_same, rfl, v, [w], rfl, w, [], rfl, rfl, q p [v, w] hp⟩
theorem ss_parc3 {i j l : Nat} {x y z : Str} {a b c : Expr} {px py pz pt pos : Pos} {kt k2 pt2} (hc : X.calm = true) (hN : X.N.Nodup) (hi : X.N[i]? = some x) (hj : X.N[j]? = some y) (hl : X.N[l]? = some z) (hx : Loc X.env.scope x) (hy : Loc X.env.scope y) (hz : Loc X.env.scope z)
    (ha : SAo X W [a, b, c] ta fr) (hf : X.fn x = true ∨ X.env.scope.names.lookup x = some .local := by first | exact .inl rfl | exact .inr rfl) (hg : X.fn y = true ∨ X.env.scope.names.lookup y = some .local := by first | exact .inl rfl | exact .inr rfl) (hh : X.fn z = true ∨ X.env.scope.names.lookup z = some .local := by first | exact .inl rfl | exact .inr rfl)
    (hs : swapsWithSole [.Tuple [.Name x px, .Name y py, .Name z pz] kt pt] (.Tuple [a, b, c] k2 pt2) pos.line X.env = pure false := by rfl) (hw : swappedStores [.Tuple [.Name x px, .Name y py, .Name z pz] kt pt] (.Tuple [a, b, c] k2 pt2) X.env = pure none := by rfl) :
    SS X W (.Assign [.Tuple [.Name x px, .Name y py, .Name z pz] kt pt] (.Tuple [a, b, c] k2 pt2) pos) (tAsg (tTup ta) (gTup X.K 3 (gCons (gName i) (gCons (gName j) (gCons (gName l) gNil))))) (gPar3 i j l fr) := by
  refine ⟨ps_asg (pe_tup ha.pa) (pg_tup hc (pgs_cons (pg_name hN hi hx hf) (pgs_cons (pg_name hN hj hy hg) (pgs_cons (pg_name hN hl hz hh) pgs_nil)))) hs hw, fun F S H σ ρ D hK fok er hp => ?_⟩
  refine par3_go ha F S H σ ρ (Ends.more D) hK fok er hp.more _ fun v w z H1 q => ⟨by show 3 ≤ sizeLine; decide, fun p hp => ?_⟩
  exact ⟨p, [v, w, z], rfl, SqT.of upd_same, rfl, v, [w, z], rfl, w, [z], rfl, z, [], rfl, rfl, q p [v, w, z] hp⟩
end

/-! ### the rules with K said, for blocks -/
section
variable {X : Cx} {W : WX} {a b c e l o : Expr} {ta tb tc te tl to : TE} {fa fb fc f fl fo : EF} {pos p p2 p3 apos cpos : Pos} (K : PySem.W.Frag) (hK : X.K = K)
include hK
theorem ok_mul : OpR X (binaryOp .Mult) (rMulA K) := by subst hK; exact op_mulA
theorem ok_add : OpR X (binaryOp .Add) (rAddA K) := by subst hK; exact op_addA
theorem ok_eq (hu : X.A.units + 64 < cLine) : OpR X (compareOp .Eq) (rEqD K) := by subst hK; exact op_eqD hu
theorem ok_ne (hu : X.A.units + 64 < cLine) : OpR X (compareOp .NotEq) (rNeD K) := by subst hK; exact op_neD hu
theorem ok_in (hu : X.A.units + 65 < cLine) : OpR X (compareOp .In) (rInA K false) := by subst hK; exact op_inA hu
theorem ok_notIn (hu : X.A.units + 65 < cLine) : OpR X (compareOp .NotIn) (rInA K true) := by subst hK; exact op_notInA hu
theorem se_ixk (ha : SE X W a ta fa) (hb : SE X W b tb fb) (hs : PlainIx b := by exact fun _ _ => rfl) : SE X W (.Subscript a b pos) (tOp (rIx K) ta tb) (fOp gIx fa fb) := by subst hK; exact se_ix ha hb hs
theorem se_slk {lo hi : Option Expr} {tl th : TO} {fl fh : PF} {p2 : Pos} (he : SE X W e te f) (hl : SPo X W lo tl fl) (hu : SPo X W hi th fh) : SE X W (.Subscript e (.Slice lo hi none p2) pos) (tSl (rSlX K) te tl th) (fSl f fl fh) := by subst hK; exact se_sl he hl hu
theorem ck_len : CallR X (.builtin "len") (rLenA K) := by subst hK; exact call_lenA
theorem ck_sorted (hu : X.A.units + 65 < cLine) : CallR X (.builtin "sorted") (rSortD K) := by subst hK; exact call_sortD hu
def rTupK (K : PySem.W.Frag) : List V → Hp → VK → Prop := fun xs H Q => ∃ p ys, xs = [.ref p] ∧ ((SqL K H p ys ∧ ∀ l, H l = none → Q (.ref l) (upd H l (.tup ys))) ∨ (SqT K H p ys ∧ Q (.ref p) H))
def rLstK (K : PySem.W.Frag) : List V → Hp → VK → Prop := fun xs H Q => ∃ p ys, xs = [.ref p] ∧ (SqL K H p ys ∨ SqT K H p ys) ∧ ∀ l, H l = none → Q (.ref l) (upd H l (.lst ys))
theorem ck_tuple : CallR X (.type "tuple") (rTupK K) := by subst hK; exact call_tuple_of
theorem ck_list : CallR X (.type "list") (rLstK K) := by subst hK; exact call_list_of
theorem ck_sum (hc : X.calm = true) : CallR X (.builtin "sum") (rSum K) := by subst hK; exact cr_sum hc
omit hK in
theorem cgk_tuple : CallG K (rTupK K) gTuple := cg_tuple
omit hK in
theorem cgk_list : CallG K (rLstK K) gList := cg_list
theorem se_isik {y : Str} {T : String} (he : SE X W e te f) (hT : okT T = true) (hg : Gl X "isinstance") (hm : X.mg "isinstance" = none) (hgT : Gl X y) (hmT : X.mg y = none) (hvT : bootBuiltins y = some (.type T)) (hn : y ≠ "__name__" := by decide) (hd : (y == ("__debug__" : Str)) = false := by decide)
    (hs1 : starEach [e, .Name y p2] X.env = (false, eval e X.env) :: starEach [.Name y p2] X.env := by rfl) (hs2 : starEach [.Name y p2] X.env = (false, eval (.Name y p2) X.env) :: starEach [] X.env := by rfl)
    (hpl : (backTo pos (starEach [.Name y p2] X.env)).any (·.1) = false := by rfl) :
    SE X W (.Call (.Name "isinstance" p) [e, .Name y p2] [] pos) (tCB (rIsi K) (tCons te (tCons (tC (.ty T)) tNil))) (fIsi f T) := by subst hK; exact se_isi he hT hg hm hgT hmT hvT hn hd hs1 hs2 hpl
theorem se_callK {es : List Expr} {t : TA} {fr : RF} {k : Nat} {g : Addr} {fd : FuncData} {ps : List Str} {Fn : FN} {x : Str} (C : Cal X.prog X.w X.K X.mg X.base x k ps Fn g fd) (hr : Room k X.A) (tk : Takes X W) (hg : Gl X x) (ha : SAc X W (e :: es) t fr) (hn : (e :: es).length = ps.length := by rfl) (hdb : (x == ("__debug__" : Str)) = false := by decide)
    (he : starEach (e :: es) X.env = (false, eval e X.env) :: starEach es X.env := by rfl) (hpl : (backTo pos (starEach es X.env)).any (·.1) = false := by rfl) :
    SE X W (.Call (.Name x p) (e :: es) [] pos) (tCallS (spF K ps.length Fn) (WE W) t) (fCall Fn fr) := by subst hK; exact se_callC C hr tk hg ha hn hdb he hpl
theorem si_seqk {tg : Expr} (hl : SE X W l tl fl) : SI X W tg l (iSeq K tl) (fISeq fl) := by subst hK; exact si_seq hl
theorem sg_tupk {es : List Expr} {u : TGs} {gs : GsF} {is : List Nat} {k n : Nat} (hc : X.calm = true) (h : SGs X es u gs is) (hn : (assignEach es X.env).length = n := by rfl) (hst : (assignEach es X.env).findIdx? (·.1) = none := by rfl) : SG X (.Tuple es k pos) (gTup K n u) (gtTup n gs) is := by subst hK; exact sg_tup hc h hn hst
theorem st_truthk (ha : SE X W a ta fa) (he : ∀ whole, isTrue a X.env whole = (do let v ← whole; standAt a.pos; holding [v] (truthy v)) := by intro _; rfl) :
    ST X W a (fun σ H Q => ta σ H fun x H1 => ∃ k, TruV K x H1 k ∧ Q k H1) (fT fa) := by subst hK; exact st_truth ha he
end
end Pv
set_option maxRecDepth 100000
/-! PvO: evaluating pure functions; points. -/
namespace Pv
open PySem PySem.Spec L2

section
variable {α β : Type} {ρ ρ1 ρ2 : Rho} {r : R} {d : PyData} {m : MO} {x : XV} {i j k : Nat} {f fa fb fc : EF} {fr : RF} {g h : SF} {n : Nat} {ss : List Slot}
@[simp] theorem s_fnF : fnF n g ss = outFn (g (ss ++ List.replicate (n - ss.length) .no)) := rfl
@[simp] theorem s_outFn1 : outFn (.nx ρ) = .ok (.val .none) (lentM ρ) := rfl
@[simp] theorem s_outFn2 : outFn (.rt r ρ) = (match resolve r ρ with | some r' => .ok r' (lentM ρ) | none => .bad) := rfl
@[simp] theorem s_outFn3 : outFn (.ex x ρ) = .ex x (lentM ρ) := rfl
@[simp] theorem s_outFn4 : outFn .bad = .bad := rfl
@[simp] theorem s_res1 : resolve (.val d) ρ = some (.val d) := rfl
@[simp] theorem s_res2 : resolve (.own m) ρ = some (.own m) := rfl
@[simp] theorem s_res3 : resolve (.slot i) ρ = (match ρ[i]? with | some (.val d) => some (.val d) | some (.own m) => some (.own m) | _ => none) := rfl
@[simp] theorem s_lentM0 : lentM [] = none := rfl
@[simp] theorem s_lentM1 : lentM (.lent m :: ρ) = some m := rfl
@[simp] theorem s_lentM2 : lentM (.val d :: ρ) = lentM ρ := rfl
@[simp] theorem s_lentM3 : lentM (.own m :: ρ) = lentM ρ := rfl
@[simp] theorem s_lentM4 : lentM (.no :: ρ) = lentM ρ := rfl
@[simp] theorem s_gSeq : gSeq g h ρ = (match g ρ with | .nx ρ1 => h ρ1 | o => o) := rfl
@[simp] theorem s_gSkip : gSkip ρ = .nx ρ := rfl
@[simp] theorem s_gNever : gNever ρ = .bad := rfl
@[simp] theorem s_gRet : gRet f ρ = toS (f ρ) (fun r ρ1 => .rt r ρ1) := rfl
@[simp] theorem s_gRetN : gRetN ρ = .rt (.val .none) ρ := rfl
@[simp] theorem s_gExpr : gExpr f ρ = toS (f ρ) (fun _ ρ1 => .nx ρ1) := rfl
@[simp] theorem s_gIf {t : TF} : gIf t g h ρ = toS (t ρ) (fun b ρ1 => if b = true then g ρ1 else h ρ1) := rfl
@[simp] theorem s_gSet : gSet i f ρ = toS (f ρ) (fun r ρ1 => match storeR i r ρ1 with | some ρ2 => .nx ρ2 | none => .bad) := rfl
@[simp] theorem s_gAsg {t : GF} : gAsg f t ρ = toSF (f ρ) (fun d ρ1 => match t d ρ1 with | some ρ2 => .nx ρ2 | none => .bad) := rfl
@[simp] theorem s_gFor {fi : IF} {tg : GF} : gFor fi tg g ρ = toS (fi ρ) (fun ds ρ1 => forL tg g ds ρ1) := rfl
@[simp] theorem s_toS1 {a : α} {K : α → Rho → SO} : toS (.ok a ρ) K = K a ρ := rfl
@[simp] theorem s_toS2 {K : α → Rho → SO} : toS (.ex x ρ) K = .ex x ρ := rfl
@[simp] theorem s_toS3 {K : α → Rho → SO} : toS .bad K = .bad := rfl
@[simp] theorem s_toSF1 {K : PyData → Rho → SO} : toSF (.ok r ρ) K = (match freeze ρ r with | some (d, ρ') => K d ρ' | none => .bad) := rfl
@[simp] theorem s_toSF2 {K : PyData → Rho → SO} : toSF (.ex x ρ) K = .ex x ρ := rfl
@[simp] theorem s_toSF3 {K : PyData → Rho → SO} : toSF .bad K = .bad := rfl
@[simp] theorem s_bind1 {a : α} {K : α → Rho → Out β} : (Out.ok a ρ).bind K = K a ρ := rfl
@[simp] theorem s_bind2 {K : α → Rho → Out β} : (Out.ex x ρ).bind K = .ex x ρ := rfl
@[simp] theorem s_bind3 {K : α → Rho → Out β} : (Out.bad).bind K = .bad := rfl
@[simp] theorem s_bindF1 {K : PyData → Rho → Out β} : bindF (.ok r ρ) K = (match freeze ρ r with | some (d, ρ') => K d ρ' | none => .bad) := rfl
@[simp] theorem s_bindF2 {K : PyData → Rho → Out β} : bindF (.ex x ρ) K = .ex x ρ := rfl
@[simp] theorem s_bindF3 {K : PyData → Rho → Out β} : bindF .bad K = .bad := rfl
@[simp] theorem s_noEx1 {a : α} : noEx (.ok a ρ) = .ok a ρ := rfl
@[simp] theorem s_noEx3 : noEx (.bad : Out α) = .bad := rfl
@[simp] theorem s_fr1 : freeze ρ (.val d) = some (d, ρ) := rfl
@[simp] theorem s_fr2 : freeze ρ (.own m) = some (m.data, ρ) := rfl
@[simp] theorem s_fr3 : freeze ρ (.slot i) = (match ρ[i]? with | some (.val d) => some (d, ρ) | some (.own m) => some (m.data, ρ.set i (.val m.data)) | _ => none) := rfl
@[simp] theorem s_de1 : deref ρ (.val d) = some d := rfl
@[simp] theorem s_de2 : deref ρ (.own m) = some m.data := rfl
@[simp] theorem s_de3 : deref ρ (.slot i) = (match ρ[i]? with | some (.val d) => some d | some (.own m) => some m.data | some (.lent m) => some m.data | _ => none) := rfl
@[simp] theorem s_md {ds : List PyData} : MO.data (.lst ds) = .list ds := rfl
@[simp] theorem s_mdT {es : List (List Key × PyData)} : MO.data (.dT es) = .dict (dTd es) := rfl
@[simp] theorem s_mdK {es : List (Key × PyData)} : MO.data (.dK es) = .dict (dKd es) := rfl
@[simp] theorem s_fVar : fVar i ρ = (match ρ[i]? with | some (.val d) => .ok (.val d) ρ | some (.own _) => .ok (.slot i) ρ | some (.lent _) => .ok (.slot i) ρ | _ => .bad) := rfl
@[simp] theorem s_fC : fC d ρ = .ok (.val d) ρ := rfl
@[simp] theorem s_fOp {q : PyData → PyData → Option R} : fOp q fa fb ρ = (fa ρ).bind (fun ra ρ1 => (fb ρ1).bind fun rb ρ2 => res2 q ra rb ρ2) := rfl
@[simp] theorem s_res2b {q : PyData → PyData → Option R} {ra rb : R} : res2 q ra rb ρ = (match deref ρ ra, deref ρ rb with | some da, some db => (match q da db with | some r => .ok r ρ | none => .bad) | _, _ => .bad) := rfl
@[simp] theorem s_fB : fB f ρ = (f ρ).bind outB := rfl
@[simp] theorem s_outB {b : Bool} : outB (.val (.bool b)) ρ = .ok b ρ := rfl
@[simp] theorem s_fT : fT f ρ = (f ρ).bind outT := rfl
@[simp] theorem s_outT : outT r ρ = (match deref ρ r with | some d => (match truth d with | some b => .ok b ρ | none => .bad) | none => .bad) := rfl
@[simp] theorem s_tr1 : truth .none = some false := rfl
@[simp] theorem s_tr2 {b : Bool} : truth (.bool b) = some b := rfl
@[simp] theorem s_tr3 {i : Int} : truth (.int i) = some (i != 0) := rfl
@[simp] theorem s_tr4 {ds : List PyData} : truth (.list ds) = some (!ds.isEmpty) := rfl
@[simp] theorem s_tr5 {ds : List PyData} : truth (.tuple ds) = some (!ds.isEmpty) := rfl
@[simp] theorem s_fNot {t : TF} : fNot t ρ = (t ρ).bind (fun b ρ1 => .ok (!b) ρ1) := rfl
@[simp] theorem s_fAnd {t u : TF} : fAnd t u ρ = (t ρ).bind (fun b ρ1 => if b = true then u ρ1 else .ok false ρ1) := rfl
@[simp] theorem s_fOr {t u : TF} : fOr t u ρ = (t ρ).bind (fun b ρ1 => if b = true then .ok true ρ1 else u ρ1) := rfl
@[simp] theorem s_fYes : fYes ρ = .ok true ρ := rfl
@[simp] theorem s_fAndV : fAndV fa fb ρ = (fa ρ).bind (fun r ρ1 => match r with | .val (.bool true) => fb ρ1 | .val (.bool false) => .ok (.val (.bool false)) ρ1 | _ => .bad) := rfl
@[simp] theorem s_fOrV : fOrV fa fb ρ = (fa ρ).bind (fun r ρ1 => match r with | .val (.bool true) => .ok (.val (.bool true)) ρ1 | .val (.bool false) => fb ρ1 | _ => .bad) := rfl
@[simp] theorem s_fNotV : fNotV fa ρ = (fa ρ).bind (fun r ρ1 => match r with | .val (.bool b) => .ok (.val (.bool (!b))) ρ1 | _ => .bad) := rfl
@[simp] theorem s_fIf {t : TF} : fIf t fa fb ρ = (t ρ).bind (fun k ρ1 => if k = true then fa ρ1 else fb ρ1) := rfl
@[simp] theorem s_fChain {p q : PyData → PyData → Option R} : fChain p q fa fb fc ρ = (fa ρ).bind (fun ra ρ1 => (fb ρ1).bind fun rb ρ2 => (res2 p ra rb ρ2).bind fun r ρ3 => match r with
  | .val (.bool true) => (fc ρ3).bind fun rc ρ4 => res2 q rb rc ρ4
  | .val (.bool false) => .ok (.val (.bool false)) ρ3
  | _ => .bad) := rfl
@[simp] theorem s_fNil : fNil ρ = .ok [] ρ := rfl
@[simp] theorem s_fCons {fr : AF} : fCons fa fr ρ = bindF (fa ρ) (fun d ρ1 => (fr ρ1).bind fun ds ρ2 => .ok (d :: ds) ρ2) := rfl
@[simp] theorem s_fTup {fr : AF} : fTup fr ρ = (fr ρ).bind (fun ds ρ1 => if ds.length ≤ 16777216 then .ok (.val (.tuple ds)) ρ1 else .bad) := rfl
@[simp] theorem s_fLst {fr : AF} : fLst fr ρ = (fr ρ).bind (fun ds ρ1 => if ds.length ≤ 16777216 then .ok (.own (.lst ds)) ρ1 else .bad) := rfl
@[simp] theorem s_fDT : fDT ρ = .ok (.own (.dT [])) ρ := rfl
@[simp] theorem s_fDK : fDK ρ = .ok (.own (.dK [])) ρ := rfl
@[simp] theorem s_rNil : rNil ρ = .ok [] ρ := rfl
@[simp] theorem s_rCons : rCons fa fr ρ = (fa ρ).bind (fun r ρ1 => (fr ρ1).bind fun rs ρ2 => .ok (r :: rs) ρ2) := rfl
@[simp] theorem s_cCons : cCons fa fr ρ = (fa ρ).bind (fun r ρ1 => match argOf r ρ1 with | some (r', ρ1) => (fr ρ1).bind fun rs ρ2 => .ok (r' :: rs) ρ2 | none => .bad) := rfl
@[simp] theorem s_cConsF : cConsF fa fr ρ = bindF (fa ρ) (fun d ρ1 => (fr ρ1).bind fun rs ρ2 => .ok (.val d :: rs) ρ2) := rfl
@[simp] theorem s_arg1 : argOf (.val d) ρ = some (.val d, ρ) := rfl
@[simp] theorem s_arg2 : argOf (.own m) ρ = some (.val m.data, ρ) := rfl
@[simp] theorem s_arg3 : argOf (.slot i) ρ = some (.slot i, ρ) := rfl
@[simp] theorem s_fCB {q : List PyData → Option R} : fCB q fr ρ = (fr ρ).bind (outC q) := rfl
@[simp] theorem s_outC {q : List PyData → Option R} {rs : List R} : outC q rs ρ = (match derefs ρ rs with | some ds => (match q ds with | some r => .ok r ρ | none => .bad) | none => .bad) := rfl
@[simp] theorem s_der0 : derefs ρ [] = some [] := rfl
@[simp] theorem s_der1 {rs : List R} : derefs ρ (r :: rs) = (match deref ρ r, derefs ρ rs with | some d, some ds => some (d :: ds) | _, _ => none) := rfl
@[simp] theorem s_fCall {Fn : FN} : fCall Fn fr ρ = (fr ρ).bind (outF Fn) := rfl
@[simp] theorem s_outF {Fn : FN} {rs : List R} : outF Fn rs ρ = (match callSlots ρ rs with
  | some ss => if oneLent ss = true then (match Fn ss with
    | .ok r m => (match backSlots ρ rs ss m with
      | some ρ' => (match r with
        | .slot _ => .bad
        | r => .ok r ρ')
      | none => .bad)
    | .ex x m => (match backSlots ρ rs ss m with
      | some ρ' => .ex x ρ'
      | none => .bad)
    | .bad => .bad) else .bad
  | none => .bad) := rfl
@[simp] theorem s_cs0 : callSlots ρ [] = some [] := rfl
@[simp] theorem s_cs1 {rs : List R} : callSlots ρ (r :: rs) = (match slotOf ρ r, callSlots ρ rs with | some s, some ss => some (s :: ss) | _, _ => none) := rfl
@[simp] theorem s_so1 : slotOf ρ (.val d) = some (.val d) := rfl
@[simp] theorem s_so3 : slotOf ρ (.slot i) = (match ρ[i]? with | some (.val d) => some (.val d) | some (.own m) => some (.lent m) | some (.lent m) => some (.lent m) | _ => none) := rfl
@[simp] theorem s_ol0 : oneLent [] = true := rfl
@[simp] theorem s_ol1 : oneLent (.val d :: ss) = oneLent ss := rfl
@[simp] theorem s_ol2 : oneLent (.lent m :: ss) = ss.all (fun s => match s with | .lent _ => false | _ => true) := rfl
@[simp] theorem s_bs {rs : List R} {mm : Option MO} : backSlots ρ rs ss mm = (match lentIx rs ss with | none => some ρ | some j => match mm, ρ[j]? with | some m, some s => some (ρ.set j (s.put m)) | _, _ => none) := rfl
@[simp] theorem s_li0 : lentIx [] ss = none := by cases ss <;> rfl
@[simp] theorem s_li1 {rs : List R} {s : Slot} : lentIx (.val d :: rs) (s :: ss) = lentIx rs ss := rfl
@[simp] theorem s_li2 {rs : List R} : lentIx (.slot i :: rs) (.lent m :: ss) = some i := rfl
@[simp] theorem s_li3 {rs : List R} : lentIx (.slot i :: rs) (.val d :: ss) = lentIx rs ss := rfl
@[simp] theorem s_put1 {m' : MO} : Slot.put (.own m) m' = .own m' := rfl
@[simp] theorem s_put2 {m' : MO} : Slot.put (.lent m) m' = .lent m' := rfl
@[simp] theorem s_mo1 : Slot.mo (.own m) = some m := rfl
@[simp] theorem s_mo2 : Slot.mo (.lent m) = some m := rfl
@[simp] theorem s_fIsi {T : String} : fIsi f T ρ = (f ρ).bind (outI T) := rfl
@[simp] theorem s_outI {T : String} : outI T r ρ = (match deref ρ r with | some d => .ok (.val (.bool (isiD d T))) ρ | none => .bad) := rfl
@[simp] theorem s_fIsi2 {T U : String} : fIsi2 f T U ρ = (f ρ).bind (outI2 T U) := rfl
@[simp] theorem s_outI2 {T U : String} : outI2 T U r ρ = (match deref ρ r with | some d => .ok (.val (.bool (isiD d T || isiD d U))) ρ | none => .bad) := rfl
@[simp] theorem s_storeR : storeR i r ρ = (match ρ[i]? with
  | none => none
  | some s => if isLent s then none else (match r with
    | .val d => some (ρ.set i (.val d))
    | .own m => some (ρ.set i (.own m))
    | .slot j => (match freeze ρ (.slot j) with
      | some (d, ρ') => some (ρ'.set i (.val d))
      | none => none))) := rfl
@[simp] theorem s_isL1 : isLent .no = false := rfl
@[simp] theorem s_isL2 : isLent (.val d) = false := rfl
@[simp] theorem s_isL3 : isLent (.own m) = false := rfl
@[simp] theorem s_isL4 : isLent (.lent m) = true := rfl
@[simp] theorem s_gtName : gtName i d ρ = (match ρ[i]? with | none => none | some s => if isLent s then none else some (ρ.set i (.val d))) := rfl
@[simp] theorem s_gtTup {gs : GsF} {ds : List PyData} : gtTup n gs (.tuple ds) ρ = (if ds.length = n then gs ds ρ else none) := rfl
@[simp] theorem s_gtNil : gtNil [] ρ = some ρ := rfl
@[simp] theorem s_gtCons {t : GF} {gs : GsF} {ds : List PyData} : gtCons t gs (d :: ds) ρ = (match t d ρ with | some ρ1 => gs ds ρ1 | none => none) := rfl
@[simp] theorem s_par2 : gPar2 i j fr ρ = toS (fr ρ) (fun rs ρ1 => match rs with
  | [r, q] => if plainR r && plainR q then (match storeP i r ρ1 with
    | some ρ2 => (match storeP j q ρ2 with
      | some ρ3 => .nx ρ3
      | none => .bad)
    | none => .bad) else .bad
  | _ => .bad) := rfl
@[simp] theorem s_par3 : gPar3 i j k fr ρ = toS (fr ρ) (fun rs ρ1 => match rs with
  | [r, q, u] => if plainR r && plainR q && plainR u then (match storeP i r ρ1 with
    | some ρ2 => (match storeP j q ρ2 with
      | some ρ3 => (match storeP k u ρ3 with
        | some ρ4 => .nx ρ4
        | none => .bad)
      | none => .bad)
    | none => .bad) else .bad
  | _ => .bad) := rfl
@[simp] theorem s_oCons : oCons fa fr ρ = (fa ρ).bind (fun r ρ1 => if plainR r = true then ((fr ρ1).bind fun rs ρ2 => .ok (r :: rs) ρ2) else (match freeze ρ1 r with
  | some (d, ρ2) => (fr ρ2).bind fun rs ρ3 => .ok (.val d :: rs) ρ3
  | none => .bad)) := rfl
@[simp] theorem s_pl1 : plainR (.val d) = true := rfl
@[simp] theorem s_pl2 : plainR (.own m) = true := rfl
@[simp] theorem s_pl3 : plainR (.slot i) = false := rfl
@[simp] theorem s_storeP1 : storeP i (.val d) ρ = (match ρ[i]? with | some s0 => if isLent s0 then none else some (ρ.set i (.val d)) | none => none) := by
  unfold storeP
  cases ρ[i]? <;> rfl
@[simp] theorem s_storeP2 : storeP i (.own m) ρ = (match ρ[i]? with | some s0 => if isLent s0 then none else some (ρ.set i (.own m)) | none => none) := by
  unfold storeP
  cases ρ[i]? <;> rfl
@[simp] theorem s_fAppend : fAppend fa fb ρ = (fa ρ).bind (fun r ρ1 => if isLst ρ1 r = true then bindF (fb ρ1) fun d ρ2 => (match withSlot ρ2 r fun j s m => appD j s d m ρ2 with
  | some ρ3 => .ok (.val .none) ρ3
  | none => .bad) else .bad) := rfl
@[simp] theorem s_isLst : isLst ρ r = (match deref ρ r with | some (.list _) => true | _ => false) := rfl
@[simp] theorem s_withSlot {K : Nat → Slot → MO → Option Rho} : withSlot ρ (.slot i) K = (match ρ[i]? with | some s => (match s.mo with | some m => K i s m | none => none) | none => none) := rfl
@[simp] theorem s_appD {s : Slot} {ds : List PyData} : appD i s d (.lst ds) ρ = (if ds.length < 16777216 then some (ρ.set i (s.put (.lst (ds ++ [d])))) else none) := rfl
@[simp] theorem s_fPop : fPop fa ρ = (fa ρ).bind (fun r ρ1 => match r with
  | .slot j => (match ρ1[j]? with
    | some s => (match s.mo with
      | some m => (match popD j s ρ1 m with
        | some (d, ρ2) => .ok (.val d) ρ2
        | none => .bad)
      | none => .bad)
    | none => .bad)
  | _ => .bad) := rfl
@[simp] theorem s_popD {s : Slot} {ds : List PyData} : popD i s ρ (.lst ds) = (match ds[ds.length - 1]? with | some d => some (d, ρ.set i (s.put (.lst ds.dropLast))) | none => none) := rfl
@[simp] theorem s_gSetIx {fo fi fe : EF} : gSetIx fo fi fe ρ = toSF (fe ρ) (fun d ρ1 => toS (fo ρ1) fun r ρ2 => toS (fi ρ2) fun ri ρ3 => match ri with
  | .val i => (match withSlot ρ3 r fun j s m => setD j s i d ρ3 m with
    | some ρ4 => .nx ρ4
    | none => .bad)
  | _ => .bad) := rfl
@[simp] theorem s_setD {s : Slot} {ds : List PyData} {z : Int} : setD j s (.int z) d ρ (.lst ds) = (match ixN ds.length z with | some n => some (ρ.set j (s.put (.lst (ds.set n d)))) | none => none) := rfl
@[simp] theorem s_gSetK {fo fi fe : EF} : gSetK fo fi fe ρ = toSF (fe ρ) (fun d ρ1 => toS (fo ρ1) fun r ρ2 => toS (fi ρ2) fun ri ρ3 => match deref ρ3 ri with
  | some i => (match withSlot ρ3 r fun j s m => setK j s i d ρ3 m with
    | some ρ4 => .nx ρ4
    | none => .bad)
  | none => .bad) := rfl
@[simp] theorem s_fISeq : fISeq f ρ = bindF (f ρ) (fun d ρ1 => match seqD d with | some ds => .ok ds ρ1 | none => .bad) := rfl
@[simp] theorem s_seq1 {ds : List PyData} : seqD (.list ds) = some ds := rfl
@[simp] theorem s_seq2 {ds : List PyData} : seqD (.tuple ds) = some ds := rfl
@[simp] theorem s_rng1 : fIRng1 fr ρ = (fr ρ).bind (fun rs ρ1 => match int1? rs with | some j => if okR j = true then .ok (rangeD 0 j.toNat) ρ1 else .bad | none => .bad) := rfl
@[simp] theorem s_rng2 : fIRng2 fr ρ = (fr ρ).bind (fun rs ρ1 => match int2? rs with | some (i, j) => if okR i && okR j then .ok (rangeD i (j - i).toNat) ρ1 else .bad | none => .bad) := rfl
@[simp] theorem s_int1 {z : Int} : int1? [.val (.int z)] = some z := rfl
@[simp] theorem s_int2 {z u : Int} : int2? [.val (.int z), .val (.int u)] = some (z, u) := rfl
@[simp] theorem s_fLc {fi : IF} {tg : GF} {tt : TF} {vs : List Nat} : fLc fi tg tt f vs ρ = (fi ρ).bind (fun ds ρ1 => if ds.length ≤ 16777216 then (match wipeR vs ρ1 with
  | some ρ2 => (lcL tg tt f vs ds ρ2).bind fun ys ρ3 => .ok (.own (.lst ys)) ρ3
  | none => .bad) else .bad) := rfl
@[simp] theorem s_fLc2 {fi fi1 : IF} {tg tg1 : GF} {tt1 : TF} {vs vs1 : List Nat} : fLc2 fi tg fi1 tg1 tt1 f vs vs1 ρ = (fi ρ).bind (fun ds ρ1 => match wipeR vs ρ1 with
  | some ρ2 => (lc2L tg fi1 tg1 tt1 f vs vs1 0 ds ρ2).bind fun ys ρ3 => .ok (.own (.lst ys)) ρ3
  | none => .bad) := rfl
@[simp] theorem s_fDisp1 : fDisp1 fa fb ρ = (fa ρ).bind (fun rk ρ1 => (fb ρ1).bind fun rv ρ2 => match rk, rv with
  | .val (.tuple xs), .val d => (match keysOf xs with
    | some ks => .ok (.own (.dT [(ks, d)])) ρ2
    | none => .bad)
  | _, _ => .bad) := rfl
@[simp] theorem s_fSl {fl fh : PF} : fSl f fl fh ρ = (f ρ).bind (fun r ρ1 => (fl ρ1).bind fun lo ρ2 => (fh ρ2).bind fun hi ρ3 => outSl r lo hi ρ3) := rfl
@[simp] theorem s_fNoPart : fNoPart ρ = .ok none ρ := rfl
@[simp] theorem s_fPart : fPart f ρ = (f ρ).bind outP := rfl
@[simp] theorem s_outP {z : Int} : outP (.val (.int z)) ρ = .ok (some z) ρ := rfl
@[simp] theorem s_outSl {lo hi : Option Int} : outSl r lo hi ρ = (match deref ρ r with | some d => (match gSl d lo hi with | some r => .ok r ρ | none => .bad) | none => .bad) := rfl
@[simp] theorem s_gSl1 {ds : List PyData} {lo hi : Option Int} : gSl (.list ds) lo hi = some (.own (.lst (cutD ds lo hi))) := rfl
@[simp] theorem s_gSl2 {ds : List PyData} {lo hi : Option Int} : gSl (.tuple ds) lo hi = some (.val (.tuple (cutD ds lo hi))) := rfl
@[simp] theorem s_wipe0 : wipeR [] ρ = some ρ := rfl
@[simp] theorem s_gSub {x y : Int} : Pv.gSub (.int x) (.int y) = some (.val (.int (x - y))) := rfl
@[simp] theorem s_gAdd {x y : Int} : gAdd (.int x) (.int y) = some (.val (.int (x + y))) := rfl
@[simp] theorem s_gAddL {x y : List PyData} : gAdd (.list x) (.list y) = (if x.length + y.length ≤ 16777216 then some (.own (.lst (x ++ y))) else none) := rfl
@[simp] theorem s_gMul {x y : Int} : gMul (.int x) (.int y) = (if small64 x || small64 y then some (.val (.int (x * y))) else none) := rfl
@[simp] theorem s_gFdiv {x y : Int} : gFdiv (.int x) (.int y) = (if y ≠ 0 ∧ y.natAbs < 1073741824 then some (.val (.int (x.fdiv y))) else none) := rfl
@[simp] theorem s_gMod {x y : Int} : gMod (.int x) (.int y) = (if y ≠ 0 then some (.val (.int (x.fmod y))) else none) := rfl
@[simp] theorem s_gPow {x y : Int} : gPow (.int x) (.int y) = (if 0 ≤ y ∧ y ≤ 1000000 ∧ x.natAbs < 2 ^ 64 then some (.val (.int (x ^ y.toNat))) else none) := rfl
@[simp] theorem s_gShl {x y : Int} : gShl (.int x) (.int y) = (if 0 ≤ y ∧ y ≤ 1000000 ∧ x.natAbs < 2 ^ 64 then some (.val (.int (x * 2 ^ y.toNat))) else none) := rfl
@[simp] theorem s_gCmp {p : Int → Int → Bool} {x y : Int} : gCmp p (.int x) (.int y) = some (.val (.bool (p x y))) := rfl
@[simp] theorem s_gIxL {ds : List PyData} {z : Int} : gIx (.list ds) (.int z) = (atI ds z).map .val := rfl
@[simp] theorem s_gIxT {ds : List PyData} {z : Int} : gIx (.tuple ds) (.int z) = (atI ds z).map .val := rfl
@[simp] theorem s_gIsN : gIs d .none = some (.val (.bool (isNoneD d))) := by cases d <;> rfl
@[simp] theorem s_gIsB {a b : Bool} : gIs (.bool a) (.bool b) = some (.val (.bool (decide (a = b)))) := rfl
@[simp] theorem s_gIsNotN : gIsNot d .none = some (.val (.bool (!isNoneD d))) := by cases d <;> rfl
@[simp] theorem s_gIsNotB {a b : Bool} : gIsNot (.bool a) (.bool b) = some (.val (.bool (!decide (a = b)))) := rfl
@[simp] theorem s_gLenL {ds : List PyData} : gLen [.list ds] = some (.val (.int ds.length)) := rfl
@[simp] theorem s_gLenT {ds : List PyData} : gLen [.tuple ds] = some (.val (.int ds.length)) := rfl
@[simp] theorem s_gLenD {ds : List (PyData × PyData)} : gLen [.dict ds] = some (.val (.int (dlen ds))) := rfl
@[simp] theorem s_gMin2 {x y : Int} : gMin2 [.int x, .int y] = some (.val (.int (if y < x then y else x))) := rfl
@[simp] theorem s_gMax2 {x y : Int} : gMax2 [.int x, .int y] = some (.val (.int (if y > x then y else x))) := rfl
@[simp] theorem s_gInt1 {x : Int} : gInt1 [.int x] = some (.val (.int x)) := rfl
@[simp] theorem s_gTupL {ds : List PyData} : gTuple [.list ds] = some (.val (.tuple ds)) := rfl
@[simp] theorem s_gTupT {ds : List PyData} : gTuple [.tuple ds] = some (.val (.tuple ds)) := rfl
@[simp] theorem s_gSorted {ds : List PyData} : gSorted [.list ds] = (if sortOk ds then some (.own (.lst (isortD ds))) else none) := rfl
@[simp] theorem s_fNeg : fNeg fa ρ = (fa ρ).bind (outU gNeg) := rfl
@[simp] theorem s_outU {q : PyData → Option R} : outU q r ρ = (match deref ρ r with | some d => (match q d with | some r => .ok r ρ | none => .bad) | none => .bad) := rfl
@[simp] theorem s_gNeg {x : Int} : gNeg (.int x) = some (.val (.int (-x))) := rfl
end
@[simp] theorem isi_non {T : String} : isiD .none T = ("NoneType" == T || (T == "int" && "NoneType" == "bool")) := rfl
@[simp] theorem isi_bool {b : Bool} {T : String} : isiD (.bool b) T = ("bool" == T || (T == "int" && "bool" == "bool")) := rfl
@[simp] theorem isi_int {b : Int} {T : String} : isiD (.int b) T = ("int" == T || (T == "int" && "int" == "bool")) := rfl
@[simp] theorem isi_str {b : Str} {T : String} : isiD (.str b) T = ("str" == T || (T == "int" && "str" == "bool")) := rfl
@[simp] theorem isi_list {b : List PyData} {T : String} : isiD (.list b) T = ("list" == T || (T == "int" && "list" == "bool")) := rfl
@[simp] theorem isi_tuple {b : List PyData} {T : String} : isiD (.tuple b) T = ("tuple" == T || (T == "int" && "tuple" == "bool")) := rfl
@[simp] theorem isNone1 : isNoneD .none = true := rfl
@[simp] theorem isNone2 {b : Bool} : isNoneD (.bool b) = false := rfl
@[simp] theorem isNone3 {b : Int} : isNoneD (.int b) = false := rfl
@[simp] theorem isNone4 {b : Str} : isNoneD (.str b) = false := rfl
@[simp] theorem isNone5 {b : List PyData} : isNoneD (.list b) = false := rfl
@[simp] theorem isNone6 {b : List PyData} : isNoneD (.tuple b) = false := rfl

@[simp] theorem s_wipe1 {v : Nat} {vs : List Nat} {ρ : Rho} : wipeR (v :: vs) ρ = (match wipeR vs ρ with | some ρ' => (match ρ'[v]? with | some s => if isLent s then none else some (ρ'.set v .no) | none => none) | none => none) := rfl
/-- what a part gives, given away -/
def outV (o : Out R) : Out PyData := bindF o fun d ρ => .ok d ρ
theorem bindF_outV {β : Type} {o : Out R} {k : PyData → Rho → Out β} {d : PyData} {ρ : Rho} (h : outV o = .ok d ρ) : bindF o k = k d ρ := by
  unfold outV at h
  cases o with
  | ok r ρ1 =>
    simp only [s_bindF1] at h ⊢
    cases q : freeze ρ1 r with
    | none => simp [q] at h
    | some p =>
      obtain ⟨d', ρ'⟩ := p
      simp only [q, Out.ok.injEq] at h ⊢
      obtain ⟨rfl, rfl⟩ := h
      rfl
  | ex x ρ1 => cases h
  | bad => cases h
@[simp] theorem s_outV1 {d : PyData} {ρ : Rho} : outV (.ok (.val d) ρ) = .ok d ρ := rfl
@[simp] theorem s_outV2 {m : MO} {ρ : Rho} : outV (.ok (.own m) ρ) = .ok m.data ρ := rfl
theorem lcL_pure {α : Type} {tg : GF} {tt : TF} {el : EF} {vs : List Nat} {ρ : Rho} (enc : α → PyData) (ρd : α → Rho) (b : α → Bool) (y : α → PyData) : ∀ (l : List α),
    (∀ a ∈ l, tg (enc a) ρ = some (ρd a) ∧ tt (ρd a) = .ok (b a) (ρd a) ∧ (b a = true → outV (el (ρd a)) = .ok (y a) (ρd a)) ∧ wipeR vs (ρd a) = some ρ) → lcL tg tt el vs (l.map enc) ρ = .ok ((l.filter b).map y) ρ
  | [], _ => rfl
  | a :: l, h => by
    obtain ⟨h1, h2, h3, h4⟩ := h a List.mem_cons_self
    have ih := lcL_pure enc ρd b y l fun x hx => h x (List.mem_cons_of_mem _ hx)
    show lcL tg tt el vs (enc a :: l.map enc) ρ = _
    unfold lcL
    simp only [h1, h2, s_noEx1, s_bind1]
    cases q : b a with
    | true =>
      have h5 : outV (noEx (el (ρd a))) = .ok (y a) (ρd a) := by
        have := h3 q
        cases z : el (ρd a) with
        | ok r ρ1 => rw [z] at this; exact this
        | ex x ρ1 => rw [z] at this; cases this
        | bad => rw [z] at this; cases this
      rw [if_pos rfl, bindF_outV h5]
      simp only [h4, ih, s_bind1, List.filter_cons_of_pos q, List.map_cons]
    | false =>
      rw [if_neg (by simp)]
      have q' : ¬ b a = true := by rw [q]; simp
      simp only [h4, ih, List.filter_cons_of_neg q']
theorem lc2L_pure {α β : Type} {tg tg1 : GF} {fi1 : IF} {tt1 : TF} {el : EF} {vs vs1 : List Nat} {ρ : Rho} (enc : α → PyData) (enc1 : β → PyData) (ρd ρw : α → Rho) (l1 : α → List β) (ρe : α → β → Rho) (b : α → β → Bool) (y : α → β → PyData) : ∀ (l : List α) (n : Nat),
    n + (l.flatMap l1).length ≤ 16777216 →
    (∀ a ∈ l, tg (enc a) ρ = some (ρd a) ∧ fi1 (ρd a) = .ok ((l1 a).map enc1) (ρd a) ∧ wipeR vs1 (ρd a) = some (ρw a) ∧ wipeR vs (ρw a) = some ρ ∧ ∀ c ∈ l1 a, tg1 (enc1 c) (ρw a) = some (ρe a c) ∧ tt1 (ρe a c) = .ok (b a c) (ρe a c) ∧ (b a c = true → outV (el (ρe a c)) = .ok (y a c) (ρe a c)) ∧ wipeR vs1 (ρe a c) = some (ρw a)) →
    lc2L tg fi1 tg1 tt1 el vs vs1 n (l.map enc) ρ = .ok (l.flatMap fun a => ((l1 a).filter (b a)).map (y a)) ρ
  | [], _, _, _ => rfl
  | a :: l, n, hn, h => by
    obtain ⟨h1, h2, h3, h4, h5⟩ := h a List.mem_cons_self
    rw [List.flatMap_cons, List.length_append] at hn
    have e := lcL_pure (vs := vs1) enc1 (ρe a) (b a) (y a) (l1 a) h5
    have hf : (((l1 a).filter (b a)).map (y a)).length ≤ (l1 a).length := by rw [List.length_map]; exact List.length_filter_le _ _
    have ih := lc2L_pure (tg := tg) (tg1 := tg1) (fi1 := fi1) (tt1 := tt1) (el := el) (vs := vs) (vs1 := vs1) (ρ := ρ) enc enc1 ρd ρw l1 ρe b y l (n + (((l1 a).filter (b a)).map (y a)).length) (by omega) fun x hx => h x (List.mem_cons_of_mem _ hx)
    show lc2L tg fi1 tg1 tt1 el vs vs1 n (enc a :: l.map enc) ρ = _
    unfold lc2L
    simp only [h1, h2, s_noEx1, s_bind1]
    rw [if_pos (by rw [List.length_map]; omega)]
    simp only [h3, e, s_noEx1, s_bind1, h4, ih, List.flatMap_cons]
theorem forL_fold {α β : Type} {tg : GF} {body : SF} (enc : α → PyData) (R : β → Rho) (P : β → Prop) (step : β → α → β) : ∀ (l : List α) (b : β), P b →
    (∀ b a, P b → a ∈ l → P (step b a) ∧ ∃ ρ1, tg (enc a) (R b) = some ρ1 ∧ (body ρ1 = .nx (R (step b a)) ∨ body ρ1 = .ct (R (step b a)))) → forL tg body (l.map enc) (R b) = .nx (R (l.foldl step b)) ∧ P (l.foldl step b)
  | [], b, hp, _ => ⟨rfl, hp⟩
  | a :: l, b, hp, h => by
    obtain ⟨p1, ρ1, h1, h2⟩ := h b a hp List.mem_cons_self
    have ih := forL_fold (tg := tg) (body := body) enc R P step l (step b a) p1 fun b' a' hb ha => h b' a' hb (List.mem_cons_of_mem _ ha)
    refine ⟨?_, ih.2⟩
    show forL tg body (enc a :: l.map enc) (R b) = _
    unfold forL
    simp only [h1]
    rcases h2 with h2 | h2
    · simp only [h2]; exact ih.1
    · simp only [h2]; exact ih.1
/-- a while loop, turn by turn -/
theorem whileL_step {t : TF} {body : SF} {n : Nat} {ρ ρ1 ρ2 : Rho} (h1 : t ρ = .ok true ρ1) (h2 : body ρ1 = .nx ρ2) : whileL t body (n + 1) ρ = whileL t body n ρ2 := by
  show (match t ρ with | .ok true ρ1 => _ | .ok false ρ1 => _ | .ex x ρ1 => _ | .bad => _) = _
  simp only [h1, h2]
theorem whileL_stop {t : TF} {body : SF} {n : Nat} {ρ ρ1 : Rho} (h1 : t ρ = .ok false ρ1) : whileL t body (n + 1) ρ = .nx ρ1 := by
  show (match t ρ with | .ok true ρ1 => _ | .ok false ρ1 => _ | .ex x ρ1 => _ | .bad => _) = _
  simp only [h1]
theorem repeat_succ' {β : Type} (step : β → β) : ∀ (k : Nat) (b : β), Nat.repeat step (k + 1) b = Nat.repeat step k (step b)
  | 0, _ => rfl
  | k + 1, b => by
    show step (Nat.repeat step (k + 1) b) = step (Nat.repeat step k (step b))
    rw [repeat_succ' step k b]
/-- a loop that runs in step with a plain one: it counts down -/
theorem whileL_run {β : Type} {t : TF} {body : SF} (R : β → Rho) (go : β → Bool) (step : β → β) (P : β → Prop) (m : β → Nat) (ht : ∀ b, P b → t (R b) = .ok (go b) (R b)) (hb : ∀ b, P b → go b = true → body (R b) = .nx (R (step b)) ∧ P (step b) ∧ m (step b) < m b) : ∀ (n : Nat) (b : β), P b → m b < n →
    ∃ k, whileL t body n (R b) = .nx (R (Nat.repeat step k b)) ∧ go (Nat.repeat step k b) = false ∧ P (Nat.repeat step k b) ∧ ∀ j < k, go (Nat.repeat step j b) = true
  | 0, b, _, h => absurd h (Nat.not_lt_zero _)
  | n + 1, b, hp, h => by
    cases q : go b with
    | false =>
      refine ⟨0, ?_, q, hp, fun j hj => absurd hj (Nat.not_lt_zero _)⟩
      exact whileL_stop (by rw [ht b hp, q]; rfl)
    | true =>
      obtain ⟨h1, h2, h3⟩ := hb b hp q
      obtain ⟨k, e, g, p, hk⟩ := whileL_run R go step P m ht hb n (step b) h2 (by omega)
      refine ⟨k + 1, ?_, by rw [repeat_succ']; exact g, by rw [repeat_succ']; exact p, fun j hj => ?_⟩
      · rw [whileL_step (by rw [ht b hp, q]) h1, e, repeat_succ']
      · cases j with
        | zero => exact q
        | succ j => rw [repeat_succ']; exact hk j (by omega)
/-- the first time is one -/
theorem first_time {g : Nat → Bool} {j k : Nat} (h1 : g j = false) (h2 : ∀ i < j, g i = true) (h3 : g k = false) (h4 : ∀ i < k, g i = true) : j = k := by
  rcases Nat.lt_trichotomy j k with h | h | h
  · rw [h4 j h] at h1; cases h1
  · exact h
  · rw [h2 k h] at h3; cases h3
/-- a loop by its turns' numbers -/
theorem whileL_count {t : TF} {body : SF} (R : Nat → Rho) (n : Nat) {ρe : Rho} (h : ∀ k < n, ∃ ρ1, t (R k) = .ok true ρ1 ∧ body ρ1 = .nx (R (k + 1))) (he : t (R n) = .ok false ρe) {fu : Nat} (hf : n < fu) : whileL t body fu (R 0) = .nx ρe := by
  have key : ∀ (m k fu : Nat), m + k = n → m < fu → whileL t body fu (R k) = .nx ρe := by
    intro m
    induction m with
    | zero =>
      intro k fu hk hfu
      have e : k = n := by omega
      subst e
      cases fu with
      | zero => omega
      | succ fu => exact whileL_stop he
    | succ m ih =>
      intro k fu hk hfu
      cases fu with
      | zero => omega
      | succ fu =>
        obtain ⟨ρ1, h1, h2⟩ := h k (by omega)
        rw [whileL_step h1 h2]
        exact ih (k + 1) fu (by omega) (by omega)
  exact key n 0 fu (by omega) hf
theorem nodup_len {α : Type} [DecidableEq α] : ∀ {l m : List α}, l.Nodup → (∀ x ∈ l, x ∈ m) → l.length ≤ m.length
  | [], _, _, _ => Nat.zero_le _
  | a :: l, m, hn, hs => by
    rw [List.nodup_cons] at hn
    have ha : a ∈ m := hs a List.mem_cons_self
    have ih := nodup_len (l := l) (m := m.erase a) hn.2 fun x hx => by
      have hxa : x ≠ a := fun z => hn.1 (by rw [← z]; exact hx)
      exact (List.mem_erase_of_ne hxa).mpr (hs x (List.mem_cons_of_mem _ hx))
    rw [List.length_erase_of_mem ha] at ih
    have : 0 < m.length := List.length_pos_of_mem ha
    rw [List.length_cons]
    omega
/-- the least number of a kind -/
theorem least {p : Nat → Prop} [DecidablePred p] : ∀ (n : Nat), p n → ∃ k, k ≤ n ∧ p k ∧ ∀ j < k, ¬ p j := by
  intro n
  induction n using Nat.strongRecOn with
  | ind n ih =>
    intro hn
    by_cases q : ∃ j, j < n ∧ p j
    · obtain ⟨j, hj, hp⟩ := q
      obtain ⟨k, hk, r⟩ := ih j hj hp
      exact ⟨k, by omega, r⟩
    · exact ⟨n, Nat.le_refl _, hn, fun j hj hp => q ⟨j, hj, hp⟩⟩
theorem gWhile_eq {t : TF} {body : SF} {ρ : Rho} : gWhile t body ρ = whileL t body 1000 ρ := rfl
@[simp] theorem sm_48271 : Pv.small64 48271 = true := rfl
theorem sm_nat (n : Nat) (h : n ≤ 1000000) : Pv.small64 (n : Int) = true := decide_eq_true (show n < 18446744073709551616 by omega)
theorem okR_nat (n : Nat) (h : n ≤ 1000000) : okR (n : Int) = true := decide_eq_true (show n < 4611686018427387904 by omega)
/-- a loop by its turns' numbers -/
theorem forL_idx {tg : GF} {body : SF} (l : List PyData) (R : Nat → Rho) (h : ∀ i (hi : i < l.length), ∃ ρ1, tg l[i] (R i) = some ρ1 ∧ (body ρ1 = .nx (R (i + 1)) ∨ body ρ1 = .ct (R (i + 1)))) : forL tg body l (R 0) = .nx (R l.length) := by
  have key : ∀ (m k : Nat), m + k = l.length → forL tg body (l.drop k) (R k) = .nx (R l.length) := by
    intro m
    induction m with
    | zero =>
      intro k hk
      have e : k = l.length := by omega
      subst e
      rw [List.drop_length]
      rfl
    | succ m ih =>
      intro k hk
      have hl : k < l.length := by omega
      obtain ⟨ρ1, h1, h2⟩ := h k hl
      rw [List.drop_eq_getElem_cons hl]
      unfold forL
      simp only [h1]
      rcases h2 with h2 | h2
      · simp only [h2]; exact ih (k + 1) (by omega)
      · simp only [h2]; exact ih (k + 1) (by omega)
  have := key l.length 0 (by omega)
  rwa [List.drop_zero] at this
/-- what a loop's name holds behind i turns -/
def lv (l : List PyData) (i : Nat) : Slot := match i with
  | 0 => .no
  | j + 1 => .val (l.getD j .none)
@[simp] theorem isL_lv {l : List PyData} {i : Nat} : isLent (lv l i) = false := by cases i <;> rfl
@[simp] theorem lentM_lv {l : List PyData} {i : Nat} {ρ : Rho} : lentM (lv l i :: ρ) = lentM ρ := by cases i <;> rfl
theorem lv_succ {l : List PyData} {i : Nat} (hi : i < l.length) : lv l (i + 1) = .val l[i] := by
  show Slot.val (l.getD i .none) = _
  simp [hi]
/-! ### indices -/
theorem atI_nat' {α : Type} (xs : List α) (n : Nat) : atI xs (n : Int) = xs[n]? := by
  unfold atI ixN
  by_cases h : n < xs.length
  · simp [h]
  · simp [h]
@[simp] theorem ixN_41 : ixN 4 1 = some 1 := rfl
@[simp] theorem ixN_42 : ixN 4 2 = some 2 := rfl
@[simp] theorem ixN_43 : ixN 4 3 = some 3 := rfl
@[simp] theorem atI_0 {α : Type} (x : α) (xs : List α) : atI (x :: xs) 0 = some x := atI_nat' (x :: xs) 0
@[simp] theorem atI_1 {α : Type} (x y : α) (xs : List α) : atI (x :: y :: xs) 1 = some y := atI_nat' (x :: y :: xs) 1
@[simp] theorem atI_2 {α : Type} (x y z : α) (xs : List α) : atI (x :: y :: z :: xs) 2 = some z := atI_nat' (x :: y :: z :: xs) 2
@[simp] theorem atI_3 {α : Type} (x y z u : α) (xs : List α) : atI (x :: y :: z :: u :: xs) 3 = some u := atI_nat' (x :: y :: z :: u :: xs) 3
end Pv
set_option maxRecDepth 100000
set_option maxHeartbeats 4000000
namespace Pw
open PySem PySem.Spec L2 Pv
/-! the text by places -/
def topS (i : Nat) : Stmt := PySem.Challenge.pw_roundstreets_k01_whole_towns.main.body.getD i (.Pass ⟨0, 0, 0, 0⟩)
structure Bn (mg : Str → Option Value) : Prop where
  int : mg "int" = none
  len : mg "len" = none
  range : mg "range" = none
  min : mg "min" = none
  isinstance : mg "isinstance" = none
  bool : mg "bool" = none
  tuple : mg "tuple" = none
  list : mg "list" = none
  str : mg "str" = none
  sorted : mg "sorted" = none
/-! ### law_taken -/
theorem sc_law_taken : FnScope ["_law_row_here", "_law_many", "_law_found", "_law_cell"] ["_law_row_here", "_law_many"] (defScope (topS 26)) := ⟨rfl, rfl, rfl, by decide +kernel, rfl, by decide +kernel, by decide +kernel⟩
def g_law_taken : SF := (gSeq (gIf (fB (fOp gGt (fOp gIx (fVar 0) (fC (.int 3))) (fC (.int 0)))) (gSeq (gSet 2 (fOp gMod (fCB gInt1 (rCons (fOp gIx (fVar 0) (fC (.int 3))) rNil)) (fVar 1)))
    (gSeq (gSetIx (fVar 0) (fC (.int 3)) (fOp gFdiv (fOp gIx (fVar 0) (fC (.int 3))) (fVar 1)))
    (gRet (fVar 2)))) gSkip)
    (gSeq (gSetIx (fVar 0) (fC (.int 1)) (fOp gAdd (fOp gIx (fVar 0) (fC (.int 1))) (fC (.int 1))))
    (gSeq (gIf (fB (fOp gGt (fOp gIx (fVar 0) (fC (.int 1))) (fCB gLen (rCons (fOp gIx (fVar 0) (fC (.int 0))) rNil)))) (gSeq (gSetIx (fVar 0) (fC (.int 2)) (fOp gMod (fCB gInt1 (rCons (fOp gAdd (fOp gMul (fOp gIx (fVar 0) (fC (.int 2))) (fC (.int 48271))) (fC (.int 11))) rNil)) (fC (.int 2147483647))))
    (gRet (fOp gMod (fCB gInt1 (rCons (fOp gFdiv (fOp gIx (fVar 0) (fC (.int 2))) (fC (.int 7))) rNil)) (fVar 1)))) gSkip)
    (gSeq (gSet 3 (fOp gIx (fOp gIx (fVar 0) (fC (.int 0))) (fOp gSub (fOp gIx (fVar 0) (fC (.int 1))) (fC (.int 1)))))
    (gSeq (gSetIx (fVar 0) (fC (.int 2)) (fOp gMod (fCB gInt1 (rCons (fOp gAdd (fOp gAdd (fOp gMul (fOp gIx (fVar 0) (fC (.int 2))) (fC (.int 48271))) (fVar 3)) (fC (.int 11))) rNil)) (fC (.int 2147483647))))
    (gSeq (gIf (fB (fOp gGe (fVar 3) (fOp gPow (fC (.int 10)) (fC (.int 18))))) (gSetIx (fVar 0) (fC (.int 3)) (fOp gFdiv (fVar 3) (fVar 1))) gSkip)
    (gRet (fOp gMod (fCB gInt1 (rCons (fVar 3) rNil)) (fVar 1)))))))))
def F_law_taken : FN := fnF 4 g_law_taken
/-! ### law_crossings -/
theorem sc_law_crossings : FnScope ["_law_town_here", "_law_found", "_law_east", "_law_north"] ["_law_town_here"] (defScope (topS 30)) := ⟨rfl, rfl, rfl, by decide +kernel, rfl, by decide +kernel, by decide +kernel⟩
def g_law_crossings : SF := (gSeq (gSet 1 (fLst fNil))
    (gSeq (gFor (fIRng1 (rCons (fOp gIx (fVar 0) (fC (.int 0))) rNil)) (gtName 2) (gSet 1 (fOp gAdd (fVar 1) (fLc (fIRng1 (rCons (fOp gIx (fVar 0) (fC (.int 1))) rNil)) (gtName 3) fYes (fTup (fCons (fVar 2) (fCons (fVar 3) fNil))) [3]))))
    (gRet (fVar 1))))
def F_law_crossings : FN := fnF 4 g_law_crossings
/-! ### law_pick -/
theorem sc_law_pick : FnScope ["_law_row_here", "_law_things"] ["_law_row_here", "_law_things"] (defScope (topS 27)) := ⟨rfl, rfl, rfl, by decide +kernel, rfl, by decide +kernel, by decide +kernel⟩
def g_law_pick : SF := (gRet (fOp gIx (fVar 1) (fCall F_law_taken (cCons (fVar 0) (cCons (fCB gLen (rCons (fVar 1) rNil)) rNil)))))
def F_law_pick : FN := fnF 2 g_law_pick
/-! ### law_town -/
theorem sc_law_town : FnScope ["_law_row_here", "_law_side", "_law_most", "_law_width", "_law_height", "_law_places", "_law_first", "_law_place"] ["_law_row_here", "_law_side", "_law_most"] (defScope (topS 29)) := ⟨rfl, rfl, rfl, by decide +kernel, rfl, by decide +kernel, by decide +kernel⟩
def g_law_town : SF := (gSeq (gSet 3 (fOp gAdd (fC (.int 1)) (fCall F_law_taken (cCons (fVar 0) (cCons (fCB gMin2 (rCons (fVar 1) (rCons (fVar 2) rNil))) rNil)))))
    (gSeq (gSet 4 (fOp gAdd (fC (.int 1)) (fCall F_law_taken (cCons (fVar 0) (cCons (fCB gMin2 (rCons (fVar 1) (rCons (fOp gFdiv (fVar 2) (fVar 3)) rNil))) rNil)))))
    (gSeq (gSet 3 (fIf (fB (fOp gLt (fOp gMul (fVar 3) (fVar 4)) (fC (.int 2)))) (fC (.int 2)) (fVar 3)))
    (gSeq (gSet 5 (fCall F_law_crossings (cCons (fTup (fCons (fVar 3) (fCons (fVar 4) fNil))) rNil)))
    (gSeq (gSet 6 (fCall F_law_pick (cCons (fVar 0) (cConsF (fVar 5) rNil))))
    (gRet (fTup (fCons (fVar 3) (fCons (fVar 4) (fCons (fVar 6) (fCons (fCall F_law_pick (cCons (fVar 0) (cCons (fLc (fISeq (fVar 5)) (gtName 7) (fB (fOp gNe (fVar 7) (fVar 6))) (fVar 7) [7]) rNil))) fNil)))))))))))
def F_law_town : FN := fnF 8 g_law_town
/-! ### is_number -/
theorem sc_is_number : FnScope ["value", "low", "high"] ["value", "low", "high"] (defScope (topS 6)) := ⟨rfl, rfl, rfl, by decide +kernel, rfl, by decide +kernel, by decide +kernel⟩
def g_is_number : SF := (gRet (fAndV (fIsi (fVar 0) "int") (fAndV (fNotV (fIsi (fVar 0) "bool")) (fChain gLe gLe (fVar 1) (fVar 0) (fVar 2)))))
def F_is_number : FN := fnF 3 g_is_number
/-! ### is_spot -/
theorem sc_is_spot : FnScope ["width", "height", "value"] ["width", "height", "value"] (defScope (topS 7)) := ⟨rfl, rfl, rfl, by decide +kernel, rfl, by decide +kernel, by decide +kernel⟩
def g_is_spot : SF := (gSeq (gIf (fOr (fNot (fT (fIsi (fVar 2) "tuple"))) (fB (fOp gNe (fCB gLen (rCons (fVar 2) rNil)) (fC (.int 2))))) (gRet (fC (.bool false))) gSkip)
    (gRet (fAndV (fCall F_is_number (cCons (fOp gIx (fVar 2) (fC (.int 0))) (cCons (fC (.int 0)) (cCons (fOp gSub (fVar 0) (fC (.int 1))) rNil)))) (fCall F_is_number (cCons (fOp gIx (fVar 2) (fC (.int 1))) (cCons (fC (.int 0)) (cCons (fOp gSub (fVar 1) (fC (.int 1))) rNil)))))))
def F_is_spot : FN := fnF 3 g_is_spot
/-! ### wrong_town -/
theorem sc_wrong_town : FnScope ["value", "width", "height", "first", "second"] ["value"] (defScope (topS 8)) := ⟨rfl, rfl, rfl, by decide +kernel, rfl, by decide +kernel, by decide +kernel⟩
def g_wrong_town : SF := (gSeq (gIf (fOr (fNot (fT (fIsi (fVar 0) "tuple"))) (fB (fOp gNe (fCB gLen (rCons (fVar 0) rNil)) (fC (.int 4))))) (gRet (fC (.str "whole"))) gSkip)
    (gSeq (gAsg (fVar 0) (gtTup 4 (gtCons (gtName 1) (gtCons (gtName 2) (gtCons (gtName 3) (gtCons (gtName 4) gtNil))))))
    (gSeq (gIf (fOr (fNot (fT (fCall F_is_number (cConsF (fVar 1) (cCons (fC (.int 1)) (cConsF (fC (.int 12)) rNil)))))) (fOr (fNot (fT (fCall F_is_number (cConsF (fVar 2) (cCons (fC (.int 1)) (cConsF (fC (.int 12)) rNil)))))) (fB (fOp gLt (fOp gMul (fVar 1) (fVar 2)) (fC (.int 2)))))) (gRet (fC (.str "sides"))) gSkip)
    (gSeq (gIf (fOr (fNot (fT (fCall F_is_spot (cConsF (fVar 1) (cConsF (fVar 2) (cConsF (fVar 3) rNil)))))) (fOr (fNot (fT (fCall F_is_spot (cConsF (fVar 1) (cConsF (fVar 2) (cConsF (fVar 4) rNil)))))) (fB (fOp gEq (fVar 3) (fVar 4))))) (gRet (fC (.str "steps"))) gSkip)
    (gRet (fC .none))))))
def F_wrong_town : FN := fnF 5 g_wrong_town
/-! ### is_town -/
theorem sc_is_town : FnScope ["value"] ["value"] (defScope (topS 9)) := ⟨rfl, rfl, rfl, by decide +kernel, rfl, by decide +kernel, by decide +kernel⟩
def g_is_town : SF := (gRet (fOp gIs (fCall F_wrong_town (cConsF (fVar 0) rNil)) (fC .none)))
def F_is_town : FN := fnF 1 g_is_town
/-! ### law_led -/
theorem sc_law_led : FnScope ["_law_town_here", "_law_place", "_law_step"] ["_law_town_here", "_law_place", "_law_step"] (defScope (topS 31)) := ⟨rfl, rfl, rfl, by decide +kernel, rfl, by decide +kernel, by decide +kernel⟩
def g_law_led : SF := (gRet (fTup (fCons (fOp gMod (fOp gAdd (fOp gIx (fVar 1) (fC (.int 0))) (fOp gIx (fVar 2) (fC (.int 0)))) (fOp gIx (fVar 0) (fC (.int 0)))) (fCons (fOp gMod (fOp gAdd (fOp gIx (fVar 1) (fC (.int 1))) (fOp gIx (fVar 2) (fC (.int 1)))) (fOp gIx (fVar 0) (fC (.int 1)))) fNil))))
def F_law_led : FN := fnF 3 g_law_led
/-! ### law_is_whole -/
theorem sc_law_is_whole : FnScope ["_law_town_here", "_law_found", "_law_left", "_law_place", "_law_step", "_law_there"] ["_law_town_here"] (defScope (topS 35)) := ⟨rfl, rfl, rfl, by decide +kernel, rfl, by decide +kernel, by decide +kernel⟩
def g_law_is_whole : SF := (gSeq (gPar2 1 2 (oCons (fLst (fCons (fTup (fCons (fC (.int 0)) (fCons (fC (.int 0)) fNil))) fNil)) (oCons (fLst (fCons (fTup (fCons (fC (.int 0)) (fCons (fC (.int 0)) fNil))) fNil)) rNil)))
    (gSeq (gWhile (fB (fOp gNe (fVar 2) (fLst fNil))) (gSeq (gSet 3 (fPop (fVar 2)))
    (gFor (fISeq (fSl (fVar 0) (fPart (fC (.int 2))) fNoPart)) (gtName 4) (gSeq (gSet 5 (fCall F_law_led (cConsF (fVar 0) (cConsF (fVar 3) (cConsF (fVar 4) rNil)))))
    (gIf (fB (fOp gNotIn (fVar 5) (fVar 1))) (gSeq (gExpr (fAppend (fVar 1) (fVar 5)))
    (gExpr (fAppend (fVar 2) (fVar 5)))) gSkip)))))
    (gRet (fOp gEq (fCB gLen (rCons (fVar 1) rNil)) (fOp gMul (fOp gIx (fVar 0) (fC (.int 0))) (fOp gIx (fVar 0) (fC (.int 1))))))))
def F_law_is_whole : FN := fnF 6 g_law_is_whole
/-! ### need_town -/
theorem sc_need_town : FnScope ["value", "word"] ["value"] (defScope (topS 10)) := ⟨rfl, rfl, rfl, by decide +kernel, rfl, by decide +kernel, by decide +kernel⟩
def g_need_town : SF := (gSeq (gSet 1 (fCall F_wrong_town (cConsF (fVar 0) rNil)))
    (gIf (fB (fOp gIsNot (fVar 1) (fC .none))) gNever gSkip))
def F_need_town : FN := fnF 2 g_need_town
/-! ### added -/
theorem sc_added : FnScope ["town", "one", "other"] ["town", "one", "other"] (defScope (topS 13)) := ⟨rfl, rfl, rfl, by decide +kernel, rfl, by decide +kernel, by decide +kernel⟩
def g_added : SF := (gRet (fTup (fCons (fOp gMod (fOp gAdd (fOp gIx (fVar 1) (fC (.int 0))) (fOp gIx (fVar 2) (fC (.int 0)))) (fOp gIx (fVar 0) (fC (.int 0)))) (fCons (fOp gMod (fOp gAdd (fOp gIx (fVar 1) (fC (.int 1))) (fOp gIx (fVar 2) (fC (.int 1)))) (fOp gIx (fVar 0) (fC (.int 1)))) fNil))))
def F_added : FN := fnF 3 g_added
/-! ### reached_of -/
theorem sc_reached_of : FnScope ["town", "found", "here", "one", "step", "there"] ["town"] (defScope (topS 20)) := ⟨rfl, rfl, rfl, by decide +kernel, rfl, by decide +kernel, by decide +kernel⟩
def g_reached_of : SF := (gSeq (gPar2 1 2 (oCons (fDisp1 (fTup (fCons (fC (.int 0)) (fCons (fC (.int 0)) fNil))) (fC (.bool true))) (oCons (fLst (fCons (fTup (fCons (fC (.int 0)) (fCons (fC (.int 0)) fNil))) fNil)) rNil)))
    (gSeq (gWhile (fT (fVar 2)) (gSeq (gSet 3 (fPop (fVar 2)))
    (gFor (fISeq (fSl (fVar 0) (fPart (fC (.int 2))) fNoPart)) (gtName 4) (gSeq (gSet 5 (fCall F_added (cConsF (fVar 0) (cConsF (fVar 3) (cConsF (fVar 4) rNil)))))
    (gIf (fB (fOp gNotIn (fVar 5) (fVar 1))) (gSeq (gSetK (fVar 1) (fVar 5) (fC (.bool true)))
    (gExpr (fAppend (fVar 2) (fVar 5)))) gSkip)))))
    (gRet (fVar 1))))
def F_reached_of : FN := fnF 6 g_reached_of
/-! ### is_whole_of -/
theorem sc_is_whole_of : FnScope ["town"] ["town"] (defScope (topS 21)) := ⟨rfl, rfl, rfl, by decide +kernel, rfl, by decide +kernel, by decide +kernel⟩
def g_is_whole_of : SF := (gRet (fOp gEq (fCB gLen (rCons (fCall F_reached_of (cConsF (fVar 0) rNil)) rNil)) (fOp gMul (fOp gIx (fVar 0) (fC (.int 0))) (fOp gIx (fVar 0) (fC (.int 1))))))
def F_is_whole_of : FN := fnF 1 g_is_whole_of
/-! ### is_whole -/
theorem sc_is_whole : FnScope ["town"] ["town"] (defScope (topS 22)) := ⟨rfl, rfl, rfl, by decide +kernel, rfl, by decide +kernel, by decide +kernel⟩
def g_is_whole : SF := (gSeq (gExpr (fCall F_need_town (cConsF (fVar 0) rNil)))
    (gRet (fCall F_is_whole_of (cConsF (fVar 0) rNil))))
def F_is_whole : FN := fnF 1 g_is_whole
/-! ### law_alike -/
theorem sc_law_alike : FnScope ["_law_found", "_law_due", "_law_k"] ["_law_found", "_law_due"] (defScope (topS 28)) := ⟨rfl, rfl, rfl, by decide +kernel, rfl, by decide +kernel, by decide +kernel⟩
def g_law_alike (Fr : FN) : SF := (gSeq (gIf (fT (fIsi2 (fVar 1) "tuple" "list")) (gSeq (gIf (fOr (fNot (fT (fIsi2 (fVar 0) "tuple" "list"))) (fB (fOp gNe (fIsi (fVar 0) "list") (fIsi (fVar 1) "list")))) (gRet (fC (.bool false))) gSkip)
    (gSeq (gIf (fB (fOp gNe (fCB gLen (rCons (fVar 0) rNil)) (fCB gLen (rCons (fVar 1) rNil)))) (gRet (fC (.bool false))) gSkip)
    (gRet (fOp gEq (fLc (fIRng1 (rCons (fCB gLen (rCons (fVar 1) rNil)) rNil)) (gtName 2) (fNot (fT (fCall Fr (cCons (fOp gIx (fVar 0) (fVar 2)) (cCons (fOp gIx (fVar 1) (fVar 2)) rNil))))) (fVar 2) [2]) (fLst fNil))))) gSkip)
    (gSeq (gIf (fOr (fB (fOp gIs (fVar 1) (fC .none))) (fT (fIsi (fVar 1) "str"))) (gRet (fAndV (fOp gEq (fVar 0) (fVar 1)) (fOp gEq (fIsi (fVar 0) "str") (fIsi (fVar 1) "str")))) gSkip)
    (gRet (fAndV (fIsi (fVar 0) "int") (fAndV (fOp gEq (fIsi (fVar 0) "bool") (fIsi (fVar 1) "bool")) (fOp gEq (fVar 0) (fVar 1)))))))
def F_law_alike : Nat → FN
  | 0 => fnF 3 gNever
  | n + 1 => fnF 3 (g_law_alike (F_law_alike n))
/-! ### law_row -/
theorem sc_law_row : FnScope ["_law_town_here", "_law_step", "_law_found", "_law_here"] ["_law_town_here", "_law_step"] (defScope (topS 32)) := ⟨rfl, rfl, rfl, by decide +kernel, rfl, by decide +kernel, by decide +kernel⟩
def g_law_row : SF := (gSeq (gPar2 2 3 (oCons (fLst (fCons (fTup (fCons (fC (.int 0)) (fCons (fC (.int 0)) fNil))) fNil)) (oCons (fCall F_law_led (cConsF (fVar 0) (cCons (fTup (fCons (fC (.int 0)) (fCons (fC (.int 0)) fNil))) (cConsF (fVar 1) rNil)))) rNil)))
    (gSeq (gWhile (fB (fOp gNe (fVar 3) (fTup (fCons (fC (.int 0)) (fCons (fC (.int 0)) fNil))))) (gSeq (gExpr (fAppend (fVar 2) (fVar 3)))
    (gSet 3 (fCall F_law_led (cConsF (fVar 0) (cConsF (fVar 3) (cConsF (fVar 1) rNil)))))))
    (gRet (fVar 2))))
def F_law_row : FN := fnF 4 g_law_row
/-! ### need_crossing -/
theorem sc_need_crossing : FnScope ["town", "value"] ["town", "value"] (defScope (topS 11)) := ⟨rfl, rfl, rfl, by decide +kernel, rfl, by decide +kernel, by decide +kernel⟩
def g_need_crossing : SF := (gIf (fNot (fT (fCall F_is_spot (cCons (fOp gIx (fVar 0) (fC (.int 0))) (cCons (fOp gIx (fVar 0) (fC (.int 1))) (cConsF (fVar 1) rNil)))))) gNever gSkip)
def F_need_crossing : FN := fnF 2 g_need_crossing
/-! ### ends -/
theorem sc_ends : FnScope ["town", "crossing"] ["town", "crossing"] (defScope (topS 17)) := ⟨rfl, rfl, rfl, by decide +kernel, rfl, by decide +kernel, by decide +kernel⟩
def g_ends : SF := (gSeq (gExpr (fCall F_need_town (cConsF (fVar 0) rNil)))
    (gSeq (gExpr (fCall F_need_crossing (cConsF (fVar 0) (cConsF (fVar 1) rNil))))
    (gRet (fTup (fCons (fCall F_added (cConsF (fVar 0) (cConsF (fVar 1) (cCons (fOp gIx (fVar 0) (fC (.int 2))) rNil)))) (fCons (fCall F_added (cConsF (fVar 0) (cConsF (fVar 1) (cCons (fOp gIx (fVar 0) (fC (.int 3))) rNil)))) fNil))))))
def F_ends : FN := fnF 2 g_ends
/-! ### order_of -/
theorem sc_order_of : FnScope ["town", "one", "many", "here"] ["town", "one"] (defScope (topS 15)) := ⟨rfl, rfl, rfl, by decide +kernel, rfl, by decide +kernel, by decide +kernel⟩
def g_order_of : SF := (gSeq (gPar2 2 3 (oCons (fC (.int 1)) (oCons (fVar 1) rNil)))
    (gSeq (gWhile (fB (fOp gNe (fVar 3) (fTup (fCons (fC (.int 0)) (fCons (fC (.int 0)) fNil))))) (gPar2 2 3 (oCons (fOp gAdd (fVar 2) (fC (.int 1))) (oCons (fCall F_added (cConsF (fVar 0) (cConsF (fVar 3) (cConsF (fVar 1) rNil)))) rNil))))
    (gRet (fVar 2))))
def F_order_of : FN := fnF 4 g_order_of
/-! ### order -/
theorem sc_order : FnScope ["town", "crossing"] ["town", "crossing"] (defScope (topS 16)) := ⟨rfl, rfl, rfl, by decide +kernel, rfl, by decide +kernel, by decide +kernel⟩
def g_order : SF := (gSeq (gExpr (fCall F_need_town (cConsF (fVar 0) rNil)))
    (gSeq (gExpr (fCall F_need_crossing (cConsF (fVar 0) (cConsF (fVar 1) rNil))))
    (gRet (fCall F_order_of (cConsF (fVar 0) (cConsF (fVar 1) rNil))))))
def F_order : FN := fnF 2 g_order
/-! ### law_gap -/
theorem sc_law_gap : FnScope ["_law_town_here"] ["_law_town_here"] (defScope (topS 33)) := ⟨rfl, rfl, rfl, by decide +kernel, rfl, by decide +kernel, by decide +kernel⟩
def g_law_gap : SF := (gRet (fTup (fCons (fOp gMod (fOp gSub (fOp gIx (fOp gIx (fVar 0) (fC (.int 2))) (fC (.int 0))) (fOp gIx (fOp gIx (fVar 0) (fC (.int 3))) (fC (.int 0)))) (fOp gIx (fVar 0) (fC (.int 0)))) (fCons (fOp gMod (fOp gSub (fOp gIx (fOp gIx (fVar 0) (fC (.int 2))) (fC (.int 1))) (fOp gIx (fOp gIx (fVar 0) (fC (.int 3))) (fC (.int 1)))) (fOp gIx (fVar 0) (fC (.int 1)))) fNil))))
def F_law_gap : FN := fnF 1 g_law_gap
/-! ### law_lots -/
theorem sc_law_lots : FnScope ["_law_town_here", "_law_row_here", "_law_found", "_law_place", "_law_lot", "_law_step"] ["_law_town_here"] (defScope (topS 34)) := ⟨rfl, rfl, rfl, by decide +kernel, rfl, by decide +kernel, by decide +kernel⟩
def g_law_lots : SF := (gSeq (gPar2 1 2 (oCons (fCall F_law_row (cConsF (fVar 0) (cCons (fCall F_law_gap (cConsF (fVar 0) rNil)) rNil))) (oCons (fLst fNil) rNil)))
    (gSeq (gFor (fISeq (fCall F_law_crossings (cConsF (fVar 0) rNil))) (gtName 3) (gSeq (gSet 4 (fCB gTuple (rCons (fCB gSorted (rCons (fLc (fISeq (fVar 1)) (gtName 5) fYes (fCall F_law_led (cConsF (fVar 0) (cConsF (fVar 3) (cConsF (fVar 5) rNil)))) [5]) rNil)) rNil)))
    (gIf (fB (fOp gNotIn (fVar 4) (fVar 2))) (gExpr (fAppend (fVar 2) (fVar 4))) gSkip)))
    (gRet (fVar 2))))
def F_law_lots : FN := fnF 6 g_law_lots
/-! ### taken -/
theorem sc_taken : FnScope ["town", "one", "other"] ["town", "one", "other"] (defScope (topS 14)) := ⟨rfl, rfl, rfl, by decide +kernel, rfl, by decide +kernel, by decide +kernel⟩
def g_taken : SF := (gRet (fTup (fCons (fOp gMod (fOp gSub (fOp gIx (fVar 1) (fC (.int 0))) (fOp gIx (fVar 2) (fC (.int 0)))) (fOp gIx (fVar 0) (fC (.int 0)))) (fCons (fOp gMod (fOp gSub (fOp gIx (fVar 1) (fC (.int 1))) (fOp gIx (fVar 2) (fC (.int 1)))) (fOp gIx (fVar 0) (fC (.int 1)))) fNil))))
def F_taken : FN := fnF 3 g_taken
/-! ### crossings_of -/
theorem sc_crossings_of : FnScope ["town", "east", "north"] ["town"] (defScope (topS 12)) := ⟨rfl, rfl, rfl, by decide +kernel, rfl, by decide +kernel, by decide +kernel⟩
def g_crossings_of : SF := (gRet (fLc2 (fIRng1 (rCons (fOp gIx (fVar 0) (fC (.int 0))) rNil)) (gtName 1) (fIRng1 (rCons (fOp gIx (fVar 0) (fC (.int 1))) rNil)) (gtName 2) fYes (fTup (fCons (fVar 1) (fCons (fVar 2) fNil))) [1, 2] [2]))
def F_crossings_of : FN := fnF 3 g_crossings_of
/-! ### lots_of -/
theorem sc_lots_of : FnScope ["town", "step", "left", "found", "here", "lot", "one"] ["town"] (defScope (topS 18)) := ⟨rfl, rfl, rfl, by decide +kernel, rfl, by decide +kernel, by decide +kernel⟩
def g_lots_of : SF := (gSeq (gPar3 1 2 3 (oCons (fCall F_taken (cConsF (fVar 0) (cCons (fOp gIx (fVar 0) (fC (.int 2))) (cCons (fOp gIx (fVar 0) (fC (.int 3))) rNil)))) (oCons (fCall F_crossings_of (cConsF (fVar 0) rNil)) (oCons (fLst fNil) rNil))))
    (gSeq (gWhile (fT (fVar 2)) (gSeq (gPar2 4 5 (oCons (fOp gIx (fVar 2) (fC (.int 0))) (oCons (fLst fNil) rNil)))
    (gSeq (gWhile (fB (fOp gNotIn (fVar 4) (fVar 5))) (gSeq (gExpr (fAppend (fVar 5) (fVar 4)))
    (gSet 4 (fCall F_added (cConsF (fVar 0) (cConsF (fVar 4) (cConsF (fVar 1) rNil)))))))
    (gSeq (gExpr (fAppend (fVar 3) (fCB gTuple (rCons (fCB gSorted (rCons (fVar 5) rNil)) rNil))))
    (gSet 2 (fLc (fISeq (fVar 2)) (gtName 6) (fB (fOp gNotIn (fVar 6) (fVar 5))) (fVar 6) [6]))))))
    (gRet (fVar 3))))
def F_lots_of : FN := fnF 7 g_lots_of
/-! ### lots -/
theorem sc_lots : FnScope ["town"] ["town"] (defScope (topS 19)) := ⟨rfl, rfl, rfl, by decide +kernel, rfl, by decide +kernel, by decide +kernel⟩
def g_lots : SF := (gSeq (gExpr (fCall F_need_town (cConsF (fVar 0) rNil)))
    (gRet (fCB gTuple (rCons (fCall F_lots_of (cConsF (fVar 0) rNil)) rNil))))
def F_lots : FN := fnF 1 g_lots
/-! ### count_plans -/
theorem sc_count_plans : FnScope ["town"] ["town"] (defScope (topS 24)) := ⟨rfl, rfl, rfl, by decide +kernel, rfl, by decide +kernel, by decide +kernel⟩
def g_count_plans : SF := (gSeq (gExpr (fCall F_need_town (cConsF (fVar 0) rNil)))
    (gRet (fOp gShl (fC (.int 1)) (fCB gLen (rCons (fCall F_lots_of (cConsF (fVar 0) rNil)) rNil)))))
def F_count_plans : FN := fnF 1 g_count_plans
/-! ### law -/
theorem sc_law : FnScope ["_law_script", "_law_row_here", "_law_town_here", "_law_turn", "_law_place", "_law_due", "_law_some"] ["_law_script"] (defScope (topS 36)) := ⟨rfl, rfl, rfl, by decide +kernel, rfl, by decide +kernel, by decide +kernel⟩
def g_law : SF := (gSeq (gSet 1 (fLst (fCons (fVar 0) (fCons (fC (.int 0)) (fCons (fC (.int 6101)) (fCons (fC (.int 0)) fNil))))))
    (gSeq (gSet 2 (fCall F_law_town (cCons (fVar 1) (cCons (fC (.int 12)) (cCons (fC (.int 48)) rNil)))))
    (gSeq (gIf (fOr (fB (fOp gIsNot (fCall F_is_town (cConsF (fVar 2) rNil)) (fC (.bool true)))) (fNot (fT (fCall (F_law_alike 6) (cCons (fCall F_is_whole (cConsF (fVar 2) rNil)) (cCons (fCall F_law_is_whole (cConsF (fVar 2) rNil)) rNil)))))) (gRet (fC (.bool false))) gSkip)
    (gSeq (gFor (fIRng1 (rCons (fC (.int 4)) rNil)) (gtName 3) (gSeq (gSet 4 (fCall F_law_pick (cCons (fVar 1) (cCons (fCall F_law_crossings (cConsF (fVar 2) rNil)) rNil))))
    (gSeq (gSet 5 (fTup (fCons (fCall F_law_led (cConsF (fVar 2) (cConsF (fVar 4) (cCons (fOp gIx (fVar 2) (fC (.int 2))) rNil)))) (fCons (fCall F_law_led (cConsF (fVar 2) (cConsF (fVar 4) (cCons (fOp gIx (fVar 2) (fC (.int 3))) rNil)))) fNil))))
    (gIf (fNot (fT (fCall (F_law_alike 6) (cCons (fLst (fCons (fCall F_ends (cConsF (fVar 2) (cConsF (fVar 4) rNil))) (fCons (fCall F_order (cConsF (fVar 2) (cConsF (fVar 4) rNil))) fNil))) (cCons (fLst (fCons (fVar 5) (fCons (fCB gLen (rCons (fCall F_law_row (cConsF (fVar 2) (cConsF (fVar 4) rNil))) rNil)) fNil))) rNil))))) (gRet (fC (.bool false))) gSkip))))
    (gSeq (gSet 6 (fCall F_law_lots (cConsF (fVar 2) rNil)))
    (gRet (fCall (F_law_alike 6) (cCons (fLst (fCons (fCall F_lots (cConsF (fVar 2) rNil)) (fCons (fCall F_count_plans (cConsF (fVar 2) rNil)) fNil))) (cCons (fLst (fCons (fCB gTuple (rCons (fVar 6) rNil)) (fCons (fOp gShl (fC (.int 1)) (fCB gLen (rCons (fVar 6) rNil))) fNil))) rNil)))))))))
def F_law : FN := fnF 7 g_law
section
variable {P : Program} {w : World} {K : PySem.W.Frag} {mg : Str → Option Value} {base : Heap}
theorem ok_law_taken {f : Addr} {fd : FuncData} (F : Fun K "_law_taken" "_law_taken" (topS 26) f fd) (B : Bn mg) : FnOk P w K mg base (L2.CX P w) 1 f fd ["_law_row_here", "_law_many"] (spF K 2 F_law_taken) := by
  refine fn_pv (k := 0) F sc_law_taken fun cdv A outer s H E hr => ?_
  have u1 := hu1 hr
  have u64 := hu64 hr
  have u65 := hu65 hr
  have po : PassesOwn (model P w) (A.deeper (PyProof.Rows.envOfC "_law_taken" (defScope (topS 26)) s.heap.objs.size f cdv)) (PyProof.Rows.envOfC "_law_taken" (defScope (topS 26)) s.heap.objs.size f cdv) (cxOf (L2.CX P w) P w K mg base ["_law_row_here", "_law_many", "_law_found", "_law_cell"] "_law_taken" (defScope (topS 26)) f cdv A outer s H E).xe := passes_of (X := cxOf (L2.CX P w) P w K mg base ["_law_row_here", "_law_many", "_law_found", "_law_cell"] "_law_taken" (defScope (topS 26)) f cdv A outer s H E) rfl
  have tk : Takes (cxOf (L2.CX P w) P w K mg base ["_law_row_here", "_law_many", "_law_found", "_law_cell"] "_law_taken" (defScope (topS 26)) f cdv A outer s H E) (fun cls d _ H => E cls d H) := takes_of rfl rfl rfl rfl
  exact ⟨_, (ss_cons (ss_if (st_cmp op_gt (og_cmp _) (se_ixk K rfl (se_var 0) se_int) se_int (nomark _)) (ss_cons (ss_set (i := 2) sc_law_taken.nd rfl (by first | exact .inl rfl | exact .inr rfl) (se_op op_modN og_mod (se_ct (call_intA rfl) cg_int1 (by rfl) B.int (by rfl) (sr_cons (se_ixk K rfl (se_var 0) se_int) sr_nil)) (se_var 1)))
      (ss_cons (ss_setIx (se_op op_fdivN og_fdiv (se_ixk K rfl (se_var 0) se_int) (se_var 1)) (se_var 0) se_int)
      (ss_one (ss_ret (se_var 2))))) ss_nil)
      (ss_cons (ss_setIx (se_op (ok_add K rfl) og_add (se_ixk K rfl (se_var 0) se_int) se_int) (se_var 0) se_int)
      (ss_cons (ss_if (st_cmp op_gt (og_cmp _) (se_ixk K rfl (se_var 0) se_int) (se_cb (ck_len K rfl) cg_len (by rfl) B.len PySem.boot_len (sr_cons (se_ixk K rfl (se_var 0) se_int) sr_nil)) (nomark _)) (ss_cons (ss_setIx (se_op op_modN og_mod (se_ct (call_intA rfl) cg_int1 (by rfl) B.int (by rfl) (sr_cons (se_op (ok_add K rfl) og_add (se_op (ok_mul K rfl) og_mul (se_ixk K rfl (se_var 0) se_int) se_int) se_int) sr_nil)) se_int) (se_var 0) se_int)
      (ss_one (ss_ret (se_op op_modN og_mod (se_ct (call_intA rfl) cg_int1 (by rfl) B.int (by rfl) (sr_cons (se_op op_fdivN og_fdiv (se_ixk K rfl (se_var 0) se_int) se_int) sr_nil)) (se_var 1))))) ss_nil)
      (ss_cons (ss_set (i := 3) sc_law_taken.nd rfl (by first | exact .inl rfl | exact .inr rfl) (se_ixk K rfl (se_ixk K rfl (se_var 0) se_int) (se_op op_sub og_sub (se_ixk K rfl (se_var 0) se_int) se_int)))
      (ss_cons (ss_setIx (se_op op_modN og_mod (se_ct (call_intA rfl) cg_int1 (by rfl) B.int (by rfl) (sr_cons (se_op (ok_add K rfl) og_add (se_op (ok_add K rfl) og_add (se_op (ok_mul K rfl) og_mul (se_ixk K rfl (se_var 0) se_int) se_int) (se_var 3)) se_int) sr_nil)) se_int) (se_var 0) se_int)
      (ss_cons (ss_if (st_cmp op_ge (og_cmp _) (se_var 3) (se_op op_pow og_pow se_int se_int) (nomark _)) (ss_one (ss_setIx (se_op op_fdivN og_fdiv (se_var 3) (se_var 1)) (se_var 0) se_int)) ss_nil)
      (ss_one (ss_ret (se_op op_modN og_mod (se_ct (call_intA rfl) cg_int1 (by rfl) B.int (by rfl) (sr_cons (se_var 3) sr_nil)) (se_var 1))))))))))⟩
theorem ok_law_crossings {f : Addr} {fd : FuncData} (F : Fun K "_law_crossings" "_law_crossings" (topS 30) f fd) (B : Bn mg) : FnOk P w K mg base (L2.CX P w) 1 f fd ["_law_town_here"] (spF K 1 F_law_crossings) := by
  refine fn_pv (k := 0) F sc_law_crossings fun cdv A outer s H E hr => ?_
  have u1 := hu1 hr
  have u64 := hu64 hr
  have u65 := hu65 hr
  have po : PassesOwn (model P w) (A.deeper (PyProof.Rows.envOfC "_law_crossings" (defScope (topS 30)) s.heap.objs.size f cdv)) (PyProof.Rows.envOfC "_law_crossings" (defScope (topS 30)) s.heap.objs.size f cdv) (cxOf (L2.CX P w) P w K mg base ["_law_town_here", "_law_found", "_law_east", "_law_north"] "_law_crossings" (defScope (topS 30)) f cdv A outer s H E).xe := passes_of (X := cxOf (L2.CX P w) P w K mg base ["_law_town_here", "_law_found", "_law_east", "_law_north"] "_law_crossings" (defScope (topS 30)) f cdv A outer s H E) rfl
  have tk : Takes (cxOf (L2.CX P w) P w K mg base ["_law_town_here", "_law_found", "_law_east", "_law_north"] "_law_crossings" (defScope (topS 30)) f cdv A outer s H E) (fun cls d _ H => E cls d H) := takes_of rfl rfl rfl rfl
  exact ⟨_, (ss_cons (ss_set (i := 1) sc_law_crossings.nd rfl (by first | exact .inl rfl | exact .inr rfl) (se_lst sa_nil))
      (ss_cons (ss_for po rfl (si_range1 (by rfl) B.range (sr_cons (se_ixk K rfl (se_var 0) se_int) sr_nil)) (sg_name (i := 2) sc_law_crossings.nd rfl (by first | exact .inl rfl | exact .inr rfl)) (ss_one (ss_set (i := 1) sc_law_crossings.nd rfl (by first | exact .inl rfl | exact .inr rfl) (se_op (ok_add K rfl) og_add (se_var 1) (se_lc (own := [("_law_north", 3)]) rfl sc_law_crossings.nd (si_range1 (by rfl) B.range (sr_cons (se_ixk K rfl (se_var 0) se_int) sr_nil)) (blkOk_by (N := ["_law_town_here", "_law_found", "_law_east", "_law_north"]) (sc := defScope (topS 30)) (by decide +kernel)) ⟨fun _ _ _ _ _ => (sg_name (i := 3) sc_law_crossings.nd rfl (by first | exact .inl rfl | exact .inr rfl)), fun _ _ _ _ _ => sts_nil, fun _ _ _ _ _ => (se_tup (sa_cons (se_var 2) (sa_cons (se_var 3) sa_nil)))⟩ (by decide))))))
      (ss_one (ss_ret (se_var 1)))))⟩
theorem ok_law_pick {f : Addr} {fd : FuncData} {f0 : Addr} {fd0 : FuncData} (F : Fun K "_law_pick" "_law_pick" (topS 27) f fd) (B : Bn mg) (C__law_taken : Cal P w K mg base "_law_taken" 1 ["_law_row_here", "_law_many"] F_law_taken f0 fd0) : FnOk P w K mg base (L2.CX P w) 2 f fd ["_law_row_here", "_law_things"] (spF K 2 F_law_pick) := by
  refine fn_pv (k := 1) F sc_law_pick fun cdv A outer s H E hr => ?_
  have u1 := hu1 hr
  have u64 := hu64 hr
  have u65 := hu65 hr
  have po : PassesOwn (model P w) (A.deeper (PyProof.Rows.envOfC "_law_pick" (defScope (topS 27)) s.heap.objs.size f cdv)) (PyProof.Rows.envOfC "_law_pick" (defScope (topS 27)) s.heap.objs.size f cdv) (cxOf (L2.CX P w) P w K mg base ["_law_row_here", "_law_things"] "_law_pick" (defScope (topS 27)) f cdv A outer s H E).xe := passes_of (X := cxOf (L2.CX P w) P w K mg base ["_law_row_here", "_law_things"] "_law_pick" (defScope (topS 27)) f cdv A outer s H E) rfl
  have tk : Takes (cxOf (L2.CX P w) P w K mg base ["_law_row_here", "_law_things"] "_law_pick" (defScope (topS 27)) f cdv A outer s H E) (fun cls d _ H => E cls d H) := takes_of rfl rfl rfl rfl
  exact ⟨_, (ss_one (ss_ret (se_ixk K rfl (se_var 1) (se_callK K rfl C__law_taken (hr.mono (by decide)) tk (by rfl) (sc_cons (se_var 0) (sc_cons (se_cb (ck_len K rfl) cg_len (by rfl) B.len PySem.boot_len (sr_cons (se_var 1) sr_nil)) sc_nil))))))⟩
theorem ok_law_town {f : Addr} {fd : FuncData} {f0 : Addr} {fd0 : FuncData} {f1 : Addr} {fd1 : FuncData} {f2 : Addr} {fd2 : FuncData} (F : Fun K "_law_town" "_law_town" (topS 29) f fd) (B : Bn mg) (C__law_taken : Cal P w K mg base "_law_taken" 1 ["_law_row_here", "_law_many"] F_law_taken f0 fd0) (C__law_crossings : Cal P w K mg base "_law_crossings" 1 ["_law_town_here"] F_law_crossings f1 fd1) (C__law_pick : Cal P w K mg base "_law_pick" 2 ["_law_row_here", "_law_things"] F_law_pick f2 fd2) : FnOk P w K mg base (L2.CX P w) 3 f fd ["_law_row_here", "_law_side", "_law_most"] (spF K 3 F_law_town) := by
  refine fn_pv (k := 2) F sc_law_town fun cdv A outer s H E hr => ?_
  have u1 := hu1 hr
  have u64 := hu64 hr
  have u65 := hu65 hr
  have po : PassesOwn (model P w) (A.deeper (PyProof.Rows.envOfC "_law_town" (defScope (topS 29)) s.heap.objs.size f cdv)) (PyProof.Rows.envOfC "_law_town" (defScope (topS 29)) s.heap.objs.size f cdv) (cxOf (L2.CX P w) P w K mg base ["_law_row_here", "_law_side", "_law_most", "_law_width", "_law_height", "_law_places", "_law_first", "_law_place"] "_law_town" (defScope (topS 29)) f cdv A outer s H E).xe := passes_of (X := cxOf (L2.CX P w) P w K mg base ["_law_row_here", "_law_side", "_law_most", "_law_width", "_law_height", "_law_places", "_law_first", "_law_place"] "_law_town" (defScope (topS 29)) f cdv A outer s H E) rfl
  have tk : Takes (cxOf (L2.CX P w) P w K mg base ["_law_row_here", "_law_side", "_law_most", "_law_width", "_law_height", "_law_places", "_law_first", "_law_place"] "_law_town" (defScope (topS 29)) f cdv A outer s H E) (fun cls d _ H => E cls d H) := takes_of rfl rfl rfl rfl
  exact ⟨_, (ss_cons (ss_set (i := 3) sc_law_town.nd rfl (by first | exact .inl rfl | exact .inr rfl) (se_op (ok_add K rfl) og_add se_int (se_callK K rfl C__law_taken (hr.mono (by decide)) tk (by rfl) (sc_cons (se_var 0) (sc_cons (se_cb (call_min2 rfl) cg_min2 (by rfl) B.min (by rfl) (sr_cons (se_var 1) (sr_cons (se_var 2) sr_nil))) sc_nil)))))
      (ss_cons (ss_set (i := 4) sc_law_town.nd rfl (by first | exact .inl rfl | exact .inr rfl) (se_op (ok_add K rfl) og_add se_int (se_callK K rfl C__law_taken (hr.mono (by decide)) tk (by rfl) (sc_cons (se_var 0) (sc_cons (se_cb (call_min2 rfl) cg_min2 (by rfl) B.min (by rfl) (sr_cons (se_var 1) (sr_cons (se_op op_fdivN og_fdiv (se_var 2) (se_var 3)) sr_nil))) sc_nil)))))
      (ss_cons (ss_set (i := 3) sc_law_town.nd rfl (by first | exact .inl rfl | exact .inr rfl) (se_if (st_cmp op_lt (og_cmp _) (se_op (ok_mul K rfl) og_mul (se_var 3) (se_var 4)) se_int (nomark _)) se_int (se_var 3)))
      (ss_cons (ss_set (i := 5) sc_law_town.nd rfl (by first | exact .inl rfl | exact .inr rfl) (se_callK K rfl C__law_crossings (hr.mono (by decide)) tk (by rfl) (sc_cons (se_tup (sa_cons (se_var 3) (sa_cons (se_var 4) sa_nil))) sc_nil)))
      (ss_cons (ss_set (i := 6) sc_law_town.nd rfl (by first | exact .inl rfl | exact .inr rfl) (se_callK K rfl C__law_pick (hr.mono (by decide)) tk (by rfl) (sc_cons (se_var 0) (sc_consF (se_var 5) sc_nil))))
      (ss_one (ss_ret (se_tup (sa_cons (se_var 3) (sa_cons (se_var 4) (sa_cons (se_var 6) (sa_cons (se_callK K rfl C__law_pick (hr.mono (by decide)) tk (by rfl) (sc_cons (se_var 0) (sc_cons (se_lc (own := [("_law_place", 7)]) rfl sc_law_town.nd (si_seqk K rfl (se_var 5)) (blkOk_by (N := ["_law_row_here", "_law_side", "_law_most", "_law_width", "_law_height", "_law_places", "_law_first", "_law_place"]) (sc := defScope (topS 29)) (by decide +kernel)) ⟨fun _ _ _ _ _ => (sg_name (i := 7) sc_law_town.nd rfl (by first | exact .inl rfl | exact .inr rfl)), fun _ _ _ _ _ => (sts_one (st_cmp (ok_ne K rfl u64) og_ne (se_var 7) (se_var 6) (nomark _))), fun _ _ _ _ _ => (se_var 7)⟩ (by decide)) sc_nil))) sa_nil))))))))))))⟩
theorem ok_is_number {f : Addr} {fd : FuncData} (F : Fun K "is_number" "is_number" (topS 6) f fd) (B : Bn mg) : FnOk P w K mg base (L2.CX P w) 1 f fd ["value", "low", "high"] (spF K 3 F_is_number) := by
  refine fn_pv (k := 0) F sc_is_number fun cdv A outer s H E hr => ?_
  have u1 := hu1 hr
  have u64 := hu64 hr
  have u65 := hu65 hr
  have po : PassesOwn (model P w) (A.deeper (PyProof.Rows.envOfC "is_number" (defScope (topS 6)) s.heap.objs.size f cdv)) (PyProof.Rows.envOfC "is_number" (defScope (topS 6)) s.heap.objs.size f cdv) (cxOf (L2.CX P w) P w K mg base ["value", "low", "high"] "is_number" (defScope (topS 6)) f cdv A outer s H E).xe := passes_of (X := cxOf (L2.CX P w) P w K mg base ["value", "low", "high"] "is_number" (defScope (topS 6)) f cdv A outer s H E) rfl
  have tk : Takes (cxOf (L2.CX P w) P w K mg base ["value", "low", "high"] "is_number" (defScope (topS 6)) f cdv A outer s H E) (fun cls d _ H => E cls d H) := takes_of rfl rfl rfl rfl
  exact ⟨_, (ss_one (ss_ret (se_and (se_isik K rfl (se_var 0) (T := "int") (by rfl) (by rfl) B.isinstance (by rfl) B.int (by rfl)) (se_and (se_notV (se_isik K rfl (se_var 0) (T := "bool") (by rfl) (by rfl) B.isinstance (by rfl) B.bool (by rfl))) (se_one (se_chain op_le op_le (og_cmp _) (og_cmp _) (se_var 1) (se_var 0) (se_var 2)))))))⟩
theorem ok_is_spot {f : Addr} {fd : FuncData} {f0 : Addr} {fd0 : FuncData} (F : Fun K "is_spot" "is_spot" (topS 7) f fd) (B : Bn mg) (C_is_number : Cal P w K mg base "is_number" 1 ["value", "low", "high"] F_is_number f0 fd0) : FnOk P w K mg base (L2.CX P w) 2 f fd ["width", "height", "value"] (spF K 3 F_is_spot) := by
  refine fn_pv (k := 1) F sc_is_spot fun cdv A outer s H E hr => ?_
  have u1 := hu1 hr
  have u64 := hu64 hr
  have u65 := hu65 hr
  have po : PassesOwn (model P w) (A.deeper (PyProof.Rows.envOfC "is_spot" (defScope (topS 7)) s.heap.objs.size f cdv)) (PyProof.Rows.envOfC "is_spot" (defScope (topS 7)) s.heap.objs.size f cdv) (cxOf (L2.CX P w) P w K mg base ["width", "height", "value"] "is_spot" (defScope (topS 7)) f cdv A outer s H E).xe := passes_of (X := cxOf (L2.CX P w) P w K mg base ["width", "height", "value"] "is_spot" (defScope (topS 7)) f cdv A outer s H E) rfl
  have tk : Takes (cxOf (L2.CX P w) P w K mg base ["width", "height", "value"] "is_spot" (defScope (topS 7)) f cdv A outer s H E) (fun cls d _ H => E cls d H) := takes_of rfl rfl rfl rfl
  exact ⟨_, (ss_cons (ss_if (SW.st (sw_or (st_not (st_truthk K rfl (se_isik K rfl (se_var 2) (T := "tuple") (by rfl) (by rfl) B.isinstance (by rfl) B.tuple (by rfl)))) (sw_or1 (st_cmp (ok_ne K rfl u64) og_ne (se_cb (ck_len K rfl) cg_len (by rfl) B.len PySem.boot_len (sr_cons (se_var 2) sr_nil)) se_int (nomark _))))) (ss_one (ss_ret se_bl)) ss_nil)
      (ss_one (ss_ret (se_and (se_callK K rfl C_is_number (hr.mono (by decide)) tk (by rfl) (sc_cons (se_ixk K rfl (se_var 2) se_int) (sc_cons se_int (sc_cons (se_op op_sub og_sub (se_var 0) se_int) sc_nil)))) (se_one (se_callK K rfl C_is_number (hr.mono (by decide)) tk (by rfl) (sc_cons (se_ixk K rfl (se_var 2) se_int) (sc_cons se_int (sc_cons (se_op op_sub og_sub (se_var 1) se_int) sc_nil)))))))))⟩
theorem ok_wrong_town {f : Addr} {fd : FuncData} {f0 : Addr} {fd0 : FuncData} {f1 : Addr} {fd1 : FuncData} {t_MOST_SIDE : Tok} (F : Fun K "wrong_town" "wrong_town" (topS 8) f fd) (B : Bn mg) (C_is_number : Cal P w K mg base "is_number" 1 ["value", "low", "high"] F_is_number f0 fd0) (C_is_spot : Cal P w K mg base "is_spot" 2 ["width", "height", "value"] F_is_spot f1 fd1) (m_MOST_SIDE : mg "MOST_SIDE" = some (.int 12 t_MOST_SIDE)) : FnOk P w K mg base (L2.CX P w) 3 f fd ["value"] (spF K 1 F_wrong_town) := by
  refine fn_pv (k := 2) F sc_wrong_town fun cdv A outer s H E hr => ?_
  have u1 := hu1 hr
  have u64 := hu64 hr
  have u65 := hu65 hr
  have po : PassesOwn (model P w) (A.deeper (PyProof.Rows.envOfC "wrong_town" (defScope (topS 8)) s.heap.objs.size f cdv)) (PyProof.Rows.envOfC "wrong_town" (defScope (topS 8)) s.heap.objs.size f cdv) (cxOf (L2.CX P w) P w K mg base ["value", "width", "height", "first", "second"] "wrong_town" (defScope (topS 8)) f cdv A outer s H E).xe := passes_of (X := cxOf (L2.CX P w) P w K mg base ["value", "width", "height", "first", "second"] "wrong_town" (defScope (topS 8)) f cdv A outer s H E) rfl
  have tk : Takes (cxOf (L2.CX P w) P w K mg base ["value", "width", "height", "first", "second"] "wrong_town" (defScope (topS 8)) f cdv A outer s H E) (fun cls d _ H => E cls d H) := takes_of rfl rfl rfl rfl
  exact ⟨_, (ss_cons (ss_if (SW.st (sw_or (st_not (st_truthk K rfl (se_isik K rfl (se_var 0) (T := "tuple") (by rfl) (by rfl) B.isinstance (by rfl) B.tuple (by rfl)))) (sw_or1 (st_cmp (ok_ne K rfl u64) og_ne (se_cb (ck_len K rfl) cg_len (by rfl) B.len PySem.boot_len (sr_cons (se_var 0) sr_nil)) se_int (nomark _))))) (ss_one (ss_ret se_str)) ss_nil)
      (ss_cons (ss_asg (se_var 0) (sg_tupk K rfl (n := 4) rfl (sgs_cons (sg_name (i := 1) sc_wrong_town.nd rfl (by first | exact .inl rfl | exact .inr rfl)) (sgs_cons (sg_name (i := 2) sc_wrong_town.nd rfl (by first | exact .inl rfl | exact .inr rfl)) (sgs_cons (sg_name (i := 3) sc_wrong_town.nd rfl (by first | exact .inl rfl | exact .inr rfl)) (sgs_cons (sg_name (i := 4) sc_wrong_town.nd rfl (by first | exact .inl rfl | exact .inr rfl)) sgs_nil))))))
      (ss_cons (ss_if (SW.st (sw_or (st_not (st_truthk K rfl (se_callK K rfl C_is_number (hr.mono (by decide)) tk (by rfl) (sc_consF (se_var 1) (sc_cons se_int (sc_consF (se_globI (by rfl) m_MOST_SIDE) sc_nil)))))) (sw_or (st_not (st_truthk K rfl (se_callK K rfl C_is_number (hr.mono (by decide)) tk (by rfl) (sc_consF (se_var 2) (sc_cons se_int (sc_consF (se_globI (by rfl) m_MOST_SIDE) sc_nil)))))) (sw_or1 (st_cmp op_lt (og_cmp _) (se_op (ok_mul K rfl) og_mul (se_var 1) (se_var 2)) se_int (nomark _)))))) (ss_one (ss_ret se_str)) ss_nil)
      (ss_cons (ss_if (SW.st (sw_or (st_not (st_truthk K rfl (se_callK K rfl C_is_spot (hr.mono (by decide)) tk (by rfl) (sc_consF (se_var 1) (sc_consF (se_var 2) (sc_consF (se_var 3) sc_nil)))))) (sw_or (st_not (st_truthk K rfl (se_callK K rfl C_is_spot (hr.mono (by decide)) tk (by rfl) (sc_consF (se_var 1) (sc_consF (se_var 2) (sc_consF (se_var 4) sc_nil)))))) (sw_or1 (st_cmp (ok_eq K rfl u64) og_eq (se_var 3) (se_var 4) (nomark _)))))) (ss_one (ss_ret se_str)) ss_nil)
      (ss_one (ss_ret se_non))))))⟩
theorem ok_is_town {f : Addr} {fd : FuncData} {f0 : Addr} {fd0 : FuncData} (F : Fun K "is_town" "is_town" (topS 9) f fd) (B : Bn mg) (C_wrong_town : Cal P w K mg base "wrong_town" 3 ["value"] F_wrong_town f0 fd0) : FnOk P w K mg base (L2.CX P w) 4 f fd ["value"] (spF K 1 F_is_town) := by
  refine fn_pv (k := 3) F sc_is_town fun cdv A outer s H E hr => ?_
  have u1 := hu1 hr
  have u64 := hu64 hr
  have u65 := hu65 hr
  have po : PassesOwn (model P w) (A.deeper (PyProof.Rows.envOfC "is_town" (defScope (topS 9)) s.heap.objs.size f cdv)) (PyProof.Rows.envOfC "is_town" (defScope (topS 9)) s.heap.objs.size f cdv) (cxOf (L2.CX P w) P w K mg base ["value"] "is_town" (defScope (topS 9)) f cdv A outer s H E).xe := passes_of (X := cxOf (L2.CX P w) P w K mg base ["value"] "is_town" (defScope (topS 9)) f cdv A outer s H E) rfl
  have tk : Takes (cxOf (L2.CX P w) P w K mg base ["value"] "is_town" (defScope (topS 9)) f cdv A outer s H E) (fun cls d _ H => E cls d H) := takes_of rfl rfl rfl rfl
  exact ⟨_, (ss_one (ss_ret (se_cmp op_isA og_is (se_callK K rfl C_wrong_town (hr.mono (by decide)) tk (by rfl) (sc_consF (se_var 0) sc_nil)) se_non (nomark _))))⟩
theorem ok_law_led {f : Addr} {fd : FuncData} (F : Fun K "_law_led" "_law_led" (topS 31) f fd) (B : Bn mg) : FnOk P w K mg base (L2.CX P w) 1 f fd ["_law_town_here", "_law_place", "_law_step"] (spF K 3 F_law_led) := by
  refine fn_pv (k := 0) F sc_law_led fun cdv A outer s H E hr => ?_
  have u1 := hu1 hr
  have u64 := hu64 hr
  have u65 := hu65 hr
  have po : PassesOwn (model P w) (A.deeper (PyProof.Rows.envOfC "_law_led" (defScope (topS 31)) s.heap.objs.size f cdv)) (PyProof.Rows.envOfC "_law_led" (defScope (topS 31)) s.heap.objs.size f cdv) (cxOf (L2.CX P w) P w K mg base ["_law_town_here", "_law_place", "_law_step"] "_law_led" (defScope (topS 31)) f cdv A outer s H E).xe := passes_of (X := cxOf (L2.CX P w) P w K mg base ["_law_town_here", "_law_place", "_law_step"] "_law_led" (defScope (topS 31)) f cdv A outer s H E) rfl
  have tk : Takes (cxOf (L2.CX P w) P w K mg base ["_law_town_here", "_law_place", "_law_step"] "_law_led" (defScope (topS 31)) f cdv A outer s H E) (fun cls d _ H => E cls d H) := takes_of rfl rfl rfl rfl
  exact ⟨_, (ss_one (ss_ret (se_tup (sa_cons (se_op op_modN og_mod (se_op (ok_add K rfl) og_add (se_ixk K rfl (se_var 1) se_int) (se_ixk K rfl (se_var 2) se_int)) (se_ixk K rfl (se_var 0) se_int)) (sa_cons (se_op op_modN og_mod (se_op (ok_add K rfl) og_add (se_ixk K rfl (se_var 1) se_int) (se_ixk K rfl (se_var 2) se_int)) (se_ixk K rfl (se_var 0) se_int)) sa_nil)))))⟩
theorem ok_law_is_whole {f : Addr} {fd : FuncData} {f0 : Addr} {fd0 : FuncData} (F : Fun K "_law_is_whole" "_law_is_whole" (topS 35) f fd) (B : Bn mg) (C__law_led : Cal P w K mg base "_law_led" 1 ["_law_town_here", "_law_place", "_law_step"] F_law_led f0 fd0) : FnOk P w K mg base (L2.CX P w) 2 f fd ["_law_town_here"] (spF K 1 F_law_is_whole) := by
  refine fn_pv (k := 1) F sc_law_is_whole fun cdv A outer s H E hr => ?_
  have u1 := hu1 hr
  have u64 := hu64 hr
  have u65 := hu65 hr
  have po : PassesOwn (model P w) (A.deeper (PyProof.Rows.envOfC "_law_is_whole" (defScope (topS 35)) s.heap.objs.size f cdv)) (PyProof.Rows.envOfC "_law_is_whole" (defScope (topS 35)) s.heap.objs.size f cdv) (cxOf (L2.CX P w) P w K mg base ["_law_town_here", "_law_found", "_law_left", "_law_place", "_law_step", "_law_there"] "_law_is_whole" (defScope (topS 35)) f cdv A outer s H E).xe := passes_of (X := cxOf (L2.CX P w) P w K mg base ["_law_town_here", "_law_found", "_law_left", "_law_place", "_law_step", "_law_there"] "_law_is_whole" (defScope (topS 35)) f cdv A outer s H E) rfl
  have tk : Takes (cxOf (L2.CX P w) P w K mg base ["_law_town_here", "_law_found", "_law_left", "_law_place", "_law_step", "_law_there"] "_law_is_whole" (defScope (topS 35)) f cdv A outer s H E) (fun cls d _ H => E cls d H) := takes_of rfl rfl rfl rfl
  exact ⟨_, (ss_cons (ss_par2 (i := 1) (j := 2) rfl sc_law_is_whole.nd rfl rfl (by decide) rfl rfl (so_cons (se_lst (sa_cons (se_tup (sa_cons se_int (sa_cons se_int sa_nil))) sa_nil)) (so_cons (se_lst (sa_cons (se_tup (sa_cons se_int (sa_cons se_int sa_nil))) sa_nil)) so_nil)) (by rfl))
      (ss_cons (ss_while po (st_cmp (ok_ne K rfl u64) og_ne (se_var 2) (se_lst sa_nil) (nomark _)) (ss_cons (ss_set (i := 3) sc_law_is_whole.nd rfl (by first | exact .inl rfl | exact .inr rfl) (se_pop (se_var 2)))
      (ss_one (ss_for po rfl (si_seqk K rfl (se_slk K rfl (se_var 0) (spo_some se_int) spo_none)) (sg_name (i := 4) sc_law_is_whole.nd rfl (by first | exact .inl rfl | exact .inr rfl)) (ss_cons (ss_set (i := 5) sc_law_is_whole.nd rfl (by first | exact .inl rfl | exact .inr rfl) (se_callK K rfl C__law_led (hr.mono (by decide)) tk (by rfl) (sc_consF (se_var 0) (sc_consF (se_var 3) (sc_consF (se_var 4) sc_nil)))))
      (ss_one (ss_if (st_cmp (ok_notIn K rfl u65) og_notIn (se_var 5) (se_var 1) (by rfl)) (ss_cons (ss_expr (se_append (se_var 1) (se_var 5)))
      (ss_one (ss_expr (se_append (se_var 2) (se_var 5))))) ss_nil)))))))
      (ss_one (ss_ret (se_cmp (ok_eq K rfl u64) og_eq (se_cb (ck_len K rfl) cg_len (by rfl) B.len PySem.boot_len (sr_cons (se_var 1) sr_nil)) (se_op (ok_mul K rfl) og_mul (se_ixk K rfl (se_var 0) se_int) (se_ixk K rfl (se_var 0) se_int)) (nomark _))))))⟩
theorem ok_need_town {f : Addr} {fd : FuncData} {f0 : Addr} {fd0 : FuncData} (F : Fun K "need_town" "need_town" (topS 10) f fd) (B : Bn mg) (C_wrong_town : Cal P w K mg base "wrong_town" 3 ["value"] F_wrong_town f0 fd0) : FnOk P w K mg base (L2.CX P w) 4 f fd ["value"] (spF K 1 F_need_town) := by
  refine fn_pv (k := 3) F sc_need_town fun cdv A outer s H E hr => ?_
  have u1 := hu1 hr
  have u64 := hu64 hr
  have u65 := hu65 hr
  have po : PassesOwn (model P w) (A.deeper (PyProof.Rows.envOfC "need_town" (defScope (topS 10)) s.heap.objs.size f cdv)) (PyProof.Rows.envOfC "need_town" (defScope (topS 10)) s.heap.objs.size f cdv) (cxOf (L2.CX P w) P w K mg base ["value", "word"] "need_town" (defScope (topS 10)) f cdv A outer s H E).xe := passes_of (X := cxOf (L2.CX P w) P w K mg base ["value", "word"] "need_town" (defScope (topS 10)) f cdv A outer s H E) rfl
  have tk : Takes (cxOf (L2.CX P w) P w K mg base ["value", "word"] "need_town" (defScope (topS 10)) f cdv A outer s H E) (fun cls d _ H => E cls d H) := takes_of rfl rfl rfl rfl
  exact ⟨_, (ss_cons (ss_set (i := 1) sc_need_town.nd rfl (by first | exact .inl rfl | exact .inr rfl) (se_callK K rfl C_wrong_town (hr.mono (by decide)) tk (by rfl) (sc_consF (se_var 0) sc_nil)))
      (ss_one (ss_if (st_cmp op_isNotA og_isNot (se_var 1) se_non (nomark _)) (ss_one ss_never) ss_nil)))⟩
theorem ok_added {f : Addr} {fd : FuncData} (F : Fun K "added" "added" (topS 13) f fd) (B : Bn mg) : FnOk P w K mg base (L2.CX P w) 1 f fd ["town", "one", "other"] (spF K 3 F_added) := by
  refine fn_pv (k := 0) F sc_added fun cdv A outer s H E hr => ?_
  have u1 := hu1 hr
  have u64 := hu64 hr
  have u65 := hu65 hr
  have po : PassesOwn (model P w) (A.deeper (PyProof.Rows.envOfC "added" (defScope (topS 13)) s.heap.objs.size f cdv)) (PyProof.Rows.envOfC "added" (defScope (topS 13)) s.heap.objs.size f cdv) (cxOf (L2.CX P w) P w K mg base ["town", "one", "other"] "added" (defScope (topS 13)) f cdv A outer s H E).xe := passes_of (X := cxOf (L2.CX P w) P w K mg base ["town", "one", "other"] "added" (defScope (topS 13)) f cdv A outer s H E) rfl
  have tk : Takes (cxOf (L2.CX P w) P w K mg base ["town", "one", "other"] "added" (defScope (topS 13)) f cdv A outer s H E) (fun cls d _ H => E cls d H) := takes_of rfl rfl rfl rfl
  exact ⟨_, (ss_one (ss_ret (se_tup (sa_cons (se_op op_modN og_mod (se_op (ok_add K rfl) og_add (se_ixk K rfl (se_var 1) se_int) (se_ixk K rfl (se_var 2) se_int)) (se_ixk K rfl (se_var 0) se_int)) (sa_cons (se_op op_modN og_mod (se_op (ok_add K rfl) og_add (se_ixk K rfl (se_var 1) se_int) (se_ixk K rfl (se_var 2) se_int)) (se_ixk K rfl (se_var 0) se_int)) sa_nil)))))⟩
theorem ok_reached_of {f : Addr} {fd : FuncData} {f0 : Addr} {fd0 : FuncData} (F : Fun K "reached_of" "reached_of" (topS 20) f fd) (B : Bn mg) (C_added : Cal P w K mg base "added" 1 ["town", "one", "other"] F_added f0 fd0) : FnOk P w K mg base (L2.CX P w) 2 f fd ["town"] (spF K 1 F_reached_of) := by
  refine fn_pv (k := 1) F sc_reached_of fun cdv A outer s H E hr => ?_
  have u1 := hu1 hr
  have u64 := hu64 hr
  have u65 := hu65 hr
  have po : PassesOwn (model P w) (A.deeper (PyProof.Rows.envOfC "reached_of" (defScope (topS 20)) s.heap.objs.size f cdv)) (PyProof.Rows.envOfC "reached_of" (defScope (topS 20)) s.heap.objs.size f cdv) (cxOf (L2.CX P w) P w K mg base ["town", "found", "here", "one", "step", "there"] "reached_of" (defScope (topS 20)) f cdv A outer s H E).xe := passes_of (X := cxOf (L2.CX P w) P w K mg base ["town", "found", "here", "one", "step", "there"] "reached_of" (defScope (topS 20)) f cdv A outer s H E) rfl
  have tk : Takes (cxOf (L2.CX P w) P w K mg base ["town", "found", "here", "one", "step", "there"] "reached_of" (defScope (topS 20)) f cdv A outer s H E) (fun cls d _ H => E cls d H) := takes_of rfl rfl rfl rfl
  exact ⟨_, (ss_cons (ss_par2 (i := 1) (j := 2) rfl sc_reached_of.nd rfl rfl (by decide) rfl rfl (so_cons (se_disp1 u1 (se_tup (sa_cons se_int (sa_cons se_int sa_nil))) se_bl) (so_cons (se_lst (sa_cons (se_tup (sa_cons se_int (sa_cons se_int sa_nil))) sa_nil)) so_nil)) (by rfl))
      (ss_cons (ss_while po (st_truthk K rfl (se_var 2)) (ss_cons (ss_set (i := 3) sc_reached_of.nd rfl (by first | exact .inl rfl | exact .inr rfl) (se_pop (se_var 2)))
      (ss_one (ss_for po rfl (si_seqk K rfl (se_slk K rfl (se_var 0) (spo_some se_int) spo_none)) (sg_name (i := 4) sc_reached_of.nd rfl (by first | exact .inl rfl | exact .inr rfl)) (ss_cons (ss_set (i := 5) sc_reached_of.nd rfl (by first | exact .inl rfl | exact .inr rfl) (se_callK K rfl C_added (hr.mono (by decide)) tk (by rfl) (sc_consF (se_var 0) (sc_consF (se_var 3) (sc_consF (se_var 4) sc_nil)))))
      (ss_one (ss_if (st_cmp (ok_notIn K rfl u65) og_notIn (se_var 5) (se_var 1) (by rfl)) (ss_cons (ss_setK u1 se_bl (se_var 1) (se_var 5))
      (ss_one (ss_expr (se_append (se_var 2) (se_var 5))))) ss_nil)))))))
      (ss_one (ss_ret (se_var 1)))))⟩
theorem ok_is_whole_of {f : Addr} {fd : FuncData} {f0 : Addr} {fd0 : FuncData} (F : Fun K "is_whole_of" "is_whole_of" (topS 21) f fd) (B : Bn mg) (C_reached_of : Cal P w K mg base "reached_of" 2 ["town"] F_reached_of f0 fd0) : FnOk P w K mg base (L2.CX P w) 3 f fd ["town"] (spF K 1 F_is_whole_of) := by
  refine fn_pv (k := 2) F sc_is_whole_of fun cdv A outer s H E hr => ?_
  have u1 := hu1 hr
  have u64 := hu64 hr
  have u65 := hu65 hr
  have po : PassesOwn (model P w) (A.deeper (PyProof.Rows.envOfC "is_whole_of" (defScope (topS 21)) s.heap.objs.size f cdv)) (PyProof.Rows.envOfC "is_whole_of" (defScope (topS 21)) s.heap.objs.size f cdv) (cxOf (L2.CX P w) P w K mg base ["town"] "is_whole_of" (defScope (topS 21)) f cdv A outer s H E).xe := passes_of (X := cxOf (L2.CX P w) P w K mg base ["town"] "is_whole_of" (defScope (topS 21)) f cdv A outer s H E) rfl
  have tk : Takes (cxOf (L2.CX P w) P w K mg base ["town"] "is_whole_of" (defScope (topS 21)) f cdv A outer s H E) (fun cls d _ H => E cls d H) := takes_of rfl rfl rfl rfl
  exact ⟨_, (ss_one (ss_ret (se_cmp (ok_eq K rfl u64) og_eq (se_cb (ck_len K rfl) cg_len (by rfl) B.len PySem.boot_len (sr_cons (se_callK K rfl C_reached_of (hr.mono (by decide)) tk (by rfl) (sc_consF (se_var 0) sc_nil)) sr_nil)) (se_op (ok_mul K rfl) og_mul (se_ixk K rfl (se_var 0) se_int) (se_ixk K rfl (se_var 0) se_int)) (nomark _))))⟩
theorem ok_is_whole {f : Addr} {fd : FuncData} {f0 : Addr} {fd0 : FuncData} {f1 : Addr} {fd1 : FuncData} (F : Fun K "is_whole" "is_whole" (topS 22) f fd) (B : Bn mg) (C_need_town : Cal P w K mg base "need_town" 4 ["value"] F_need_town f0 fd0) (C_is_whole_of : Cal P w K mg base "is_whole_of" 3 ["town"] F_is_whole_of f1 fd1) : FnOk P w K mg base (L2.CX P w) 5 f fd ["town"] (spF K 1 F_is_whole) := by
  refine fn_pv (k := 4) F sc_is_whole fun cdv A outer s H E hr => ?_
  have u1 := hu1 hr
  have u64 := hu64 hr
  have u65 := hu65 hr
  have po : PassesOwn (model P w) (A.deeper (PyProof.Rows.envOfC "is_whole" (defScope (topS 22)) s.heap.objs.size f cdv)) (PyProof.Rows.envOfC "is_whole" (defScope (topS 22)) s.heap.objs.size f cdv) (cxOf (L2.CX P w) P w K mg base ["town"] "is_whole" (defScope (topS 22)) f cdv A outer s H E).xe := passes_of (X := cxOf (L2.CX P w) P w K mg base ["town"] "is_whole" (defScope (topS 22)) f cdv A outer s H E) rfl
  have tk : Takes (cxOf (L2.CX P w) P w K mg base ["town"] "is_whole" (defScope (topS 22)) f cdv A outer s H E) (fun cls d _ H => E cls d H) := takes_of rfl rfl rfl rfl
  exact ⟨_, (ss_cons (ss_expr (se_callK K rfl C_need_town (hr.mono (by decide)) tk (by rfl) (sc_consF (se_var 0) sc_nil)))
      (ss_one (ss_ret (se_callK K rfl C_is_whole_of (hr.mono (by decide)) tk (by rfl) (sc_consF (se_var 0) sc_nil)))))⟩
theorem ok_law_alike {f : Addr} {fd : FuncData} (F : Fun K "_law_alike" "_law_alike" (topS 28) f fd) (B : Bn mg) (at_ : mg "_law_alike" = some (.ref f)) (bi : Binds K fd ["_law_found", "_law_due"] []) : ∀ n, FnOk P w K mg base (L2.CX P w) (n + 1) f fd ["_law_found", "_law_due"] (spF K 2 (F_law_alike n))
  | 0 => fn_pv (k := 0) F sc_law_alike fun _ _ _ _ _ _ _ => ⟨_, sss_never⟩
  | n + 1 => by
    have Cr : Cal P w K mg base "_law_alike" (n + 1) ["_law_found", "_law_due"] (F_law_alike n) f fd := ⟨ok_law_alike F B   at_ bi n, at_, F.kp, bi⟩
    refine fn_pv (k := n + 1) F sc_law_alike fun cdv A outer s H E hr => ?_
    have u1 := hu1 hr
    have u64 := hu64 hr
    have u65 := hu65 hr
    have po : PassesOwn (model P w) (A.deeper (PyProof.Rows.envOfC "_law_alike" (defScope (topS 28)) s.heap.objs.size f cdv)) (PyProof.Rows.envOfC "_law_alike" (defScope (topS 28)) s.heap.objs.size f cdv) (cxOf (L2.CX P w) P w K mg base ["_law_found", "_law_due", "_law_k"] "_law_alike" (defScope (topS 28)) f cdv A outer s H E).xe := passes_of (X := cxOf (L2.CX P w) P w K mg base ["_law_found", "_law_due", "_law_k"] "_law_alike" (defScope (topS 28)) f cdv A outer s H E) rfl
    have tk : Takes (cxOf (L2.CX P w) P w K mg base ["_law_found", "_law_due", "_law_k"] "_law_alike" (defScope (topS 28)) f cdv A outer s H E) (fun cls d _ H => E cls d H) := takes_of rfl rfl rfl rfl
    exact ⟨_, (ss_cons (ss_if (st_truthk K rfl (se_isi2 (se_var 1) (T := "tuple") (U := "list") (by rfl) (by rfl) (by rfl) B.isinstance (by rfl) B.tuple (by rfl) (by rfl) B.list (by rfl))) (ss_cons (ss_if (SW.st (sw_or (st_not (st_truthk K rfl (se_isi2 (se_var 0) (T := "tuple") (U := "list") (by rfl) (by rfl) (by rfl) B.isinstance (by rfl) B.tuple (by rfl) (by rfl) B.list (by rfl)))) (sw_or1 (st_cmp (ok_ne K rfl u64) og_ne (se_isik K rfl (se_var 0) (T := "list") (by rfl) (by rfl) B.isinstance (by rfl) B.list (by rfl)) (se_isik K rfl (se_var 1) (T := "list") (by rfl) (by rfl) B.isinstance (by rfl) B.list (by rfl)) (nomark _))))) (ss_one (ss_ret se_bl)) ss_nil)
      (ss_cons (ss_if (st_cmp (ok_ne K rfl u64) og_ne (se_cb (ck_len K rfl) cg_len (by rfl) B.len PySem.boot_len (sr_cons (se_var 0) sr_nil)) (se_cb (ck_len K rfl) cg_len (by rfl) B.len PySem.boot_len (sr_cons (se_var 1) sr_nil)) (nomark _)) (ss_one (ss_ret se_bl)) ss_nil)
      (ss_one (ss_ret (se_cmp (ok_eq K rfl u64) og_eq (se_lc (own := [("_law_k", 2)]) rfl sc_law_alike.nd (si_range1 (by rfl) B.range (sr_cons (se_cb (ck_len K rfl) cg_len (by rfl) B.len PySem.boot_len (sr_cons (se_var 1) sr_nil)) sr_nil)) (blkOk_by (N := ["_law_found", "_law_due", "_law_k"]) (sc := defScope (topS 28)) (by decide +kernel)) ⟨fun _ _ _ _ _ => (sg_name (i := 2) sc_law_alike.nd rfl (by first | exact .inl rfl | exact .inr rfl)), fun _ _ _ _ _ => (sts_one (st_not (st_truthk K rfl (se_callK K rfl Cr (hr.mono (Nat.le_refl _)) takes0 (by rfl) (sc_cons (se_ixk K rfl (se_var 0) (se_var 2)) (sc_cons (se_ixk K rfl (se_var 1) (se_var 2)) sc_nil)))))), fun _ _ _ _ _ => (se_var 2)⟩ (by decide)) (se_lst sa_nil) (nomark _)))))) ss_nil)
      (ss_cons (ss_if (SW.st (sw_or (st_cmp op_isA og_is (se_var 1) se_non (nomark _)) (sw_or1 (st_truthk K rfl (se_isik K rfl (se_var 1) (T := "str") (by rfl) (by rfl) B.isinstance (by rfl) B.str (by rfl)))))) (ss_one (ss_ret (se_and (se_cmp (ok_eq K rfl u64) og_eq (se_var 0) (se_var 1) (nomark _)) (se_one (se_cmp (ok_eq K rfl u64) og_eq (se_isik K rfl (se_var 0) (T := "str") (by rfl) (by rfl) B.isinstance (by rfl) B.str (by rfl)) (se_isik K rfl (se_var 1) (T := "str") (by rfl) (by rfl) B.isinstance (by rfl) B.str (by rfl)) (nomark _)))))) ss_nil)
      (ss_one (ss_ret (se_and (se_isik K rfl (se_var 0) (T := "int") (by rfl) (by rfl) B.isinstance (by rfl) B.int (by rfl)) (se_and (se_cmp (ok_eq K rfl u64) og_eq (se_isik K rfl (se_var 0) (T := "bool") (by rfl) (by rfl) B.isinstance (by rfl) B.bool (by rfl)) (se_isik K rfl (se_var 1) (T := "bool") (by rfl) (by rfl) B.isinstance (by rfl) B.bool (by rfl)) (nomark _)) (se_one (se_cmp (ok_eq K rfl u64) og_eq (se_var 0) (se_var 1) (nomark _)))))))))⟩
theorem ok_law_row {f : Addr} {fd : FuncData} {f0 : Addr} {fd0 : FuncData} (F : Fun K "_law_row" "_law_row" (topS 32) f fd) (B : Bn mg) (C__law_led : Cal P w K mg base "_law_led" 1 ["_law_town_here", "_law_place", "_law_step"] F_law_led f0 fd0) : FnOk P w K mg base (L2.CX P w) 2 f fd ["_law_town_here", "_law_step"] (spF K 2 F_law_row) := by
  refine fn_pv (k := 1) F sc_law_row fun cdv A outer s H E hr => ?_
  have u1 := hu1 hr
  have u64 := hu64 hr
  have u65 := hu65 hr
  have po : PassesOwn (model P w) (A.deeper (PyProof.Rows.envOfC "_law_row" (defScope (topS 32)) s.heap.objs.size f cdv)) (PyProof.Rows.envOfC "_law_row" (defScope (topS 32)) s.heap.objs.size f cdv) (cxOf (L2.CX P w) P w K mg base ["_law_town_here", "_law_step", "_law_found", "_law_here"] "_law_row" (defScope (topS 32)) f cdv A outer s H E).xe := passes_of (X := cxOf (L2.CX P w) P w K mg base ["_law_town_here", "_law_step", "_law_found", "_law_here"] "_law_row" (defScope (topS 32)) f cdv A outer s H E) rfl
  have tk : Takes (cxOf (L2.CX P w) P w K mg base ["_law_town_here", "_law_step", "_law_found", "_law_here"] "_law_row" (defScope (topS 32)) f cdv A outer s H E) (fun cls d _ H => E cls d H) := takes_of rfl rfl rfl rfl
  exact ⟨_, (ss_cons (ss_par2 (i := 2) (j := 3) rfl sc_law_row.nd rfl rfl (by decide) rfl rfl (so_cons (se_lst (sa_cons (se_tup (sa_cons se_int (sa_cons se_int sa_nil))) sa_nil)) (so_cons (se_callK K rfl C__law_led (hr.mono (by decide)) tk (by rfl) (sc_consF (se_var 0) (sc_cons (se_tup (sa_cons se_int (sa_cons se_int sa_nil))) (sc_consF (se_var 1) sc_nil)))) so_nil)) (by rfl))
      (ss_cons (ss_while po (st_cmp (ok_ne K rfl u64) og_ne (se_var 3) (se_tup (sa_cons se_int (sa_cons se_int sa_nil))) (nomark _)) (ss_cons (ss_expr (se_append (se_var 2) (se_var 3)))
      (ss_one (ss_set (i := 3) sc_law_row.nd rfl (by first | exact .inl rfl | exact .inr rfl) (se_callK K rfl C__law_led (hr.mono (by decide)) tk (by rfl) (sc_consF (se_var 0) (sc_consF (se_var 3) (sc_consF (se_var 1) sc_nil))))))))
      (ss_one (ss_ret (se_var 2)))))⟩
theorem ok_need_crossing {f : Addr} {fd : FuncData} {f0 : Addr} {fd0 : FuncData} (F : Fun K "need_crossing" "need_crossing" (topS 11) f fd) (B : Bn mg) (C_is_spot : Cal P w K mg base "is_spot" 2 ["width", "height", "value"] F_is_spot f0 fd0) : FnOk P w K mg base (L2.CX P w) 3 f fd ["town", "value"] (spF K 2 F_need_crossing) := by
  refine fn_pv (k := 2) F sc_need_crossing fun cdv A outer s H E hr => ?_
  have u1 := hu1 hr
  have u64 := hu64 hr
  have u65 := hu65 hr
  have po : PassesOwn (model P w) (A.deeper (PyProof.Rows.envOfC "need_crossing" (defScope (topS 11)) s.heap.objs.size f cdv)) (PyProof.Rows.envOfC "need_crossing" (defScope (topS 11)) s.heap.objs.size f cdv) (cxOf (L2.CX P w) P w K mg base ["town", "value"] "need_crossing" (defScope (topS 11)) f cdv A outer s H E).xe := passes_of (X := cxOf (L2.CX P w) P w K mg base ["town", "value"] "need_crossing" (defScope (topS 11)) f cdv A outer s H E) rfl
  have tk : Takes (cxOf (L2.CX P w) P w K mg base ["town", "value"] "need_crossing" (defScope (topS 11)) f cdv A outer s H E) (fun cls d _ H => E cls d H) := takes_of rfl rfl rfl rfl
  exact ⟨_, (ss_one (ss_if (st_not (st_truthk K rfl (se_callK K rfl C_is_spot (hr.mono (by decide)) tk (by rfl) (sc_cons (se_ixk K rfl (se_var 0) se_int) (sc_cons (se_ixk K rfl (se_var 0) se_int) (sc_consF (se_var 1) sc_nil)))))) (ss_one ss_never) ss_nil))⟩
theorem ok_ends {f : Addr} {fd : FuncData} {f0 : Addr} {fd0 : FuncData} {f1 : Addr} {fd1 : FuncData} {f2 : Addr} {fd2 : FuncData} (F : Fun K "ends" "ends" (topS 17) f fd) (B : Bn mg) (C_need_town : Cal P w K mg base "need_town" 4 ["value"] F_need_town f0 fd0) (C_need_crossing : Cal P w K mg base "need_crossing" 3 ["town", "value"] F_need_crossing f1 fd1) (C_added : Cal P w K mg base "added" 1 ["town", "one", "other"] F_added f2 fd2) : FnOk P w K mg base (L2.CX P w) 5 f fd ["town", "crossing"] (spF K 2 F_ends) := by
  refine fn_pv (k := 4) F sc_ends fun cdv A outer s H E hr => ?_
  have u1 := hu1 hr
  have u64 := hu64 hr
  have u65 := hu65 hr
  have po : PassesOwn (model P w) (A.deeper (PyProof.Rows.envOfC "ends" (defScope (topS 17)) s.heap.objs.size f cdv)) (PyProof.Rows.envOfC "ends" (defScope (topS 17)) s.heap.objs.size f cdv) (cxOf (L2.CX P w) P w K mg base ["town", "crossing"] "ends" (defScope (topS 17)) f cdv A outer s H E).xe := passes_of (X := cxOf (L2.CX P w) P w K mg base ["town", "crossing"] "ends" (defScope (topS 17)) f cdv A outer s H E) rfl
  have tk : Takes (cxOf (L2.CX P w) P w K mg base ["town", "crossing"] "ends" (defScope (topS 17)) f cdv A outer s H E) (fun cls d _ H => E cls d H) := takes_of rfl rfl rfl rfl
  exact ⟨_, (ss_cons (ss_expr (se_callK K rfl C_need_town (hr.mono (by decide)) tk (by rfl) (sc_consF (se_var 0) sc_nil)))
      (ss_cons (ss_expr (se_callK K rfl C_need_crossing (hr.mono (by decide)) tk (by rfl) (sc_consF (se_var 0) (sc_consF (se_var 1) sc_nil))))
      (ss_one (ss_ret (se_tup (sa_cons (se_callK K rfl C_added (hr.mono (by decide)) tk (by rfl) (sc_consF (se_var 0) (sc_consF (se_var 1) (sc_cons (se_ixk K rfl (se_var 0) se_int) sc_nil)))) (sa_cons (se_callK K rfl C_added (hr.mono (by decide)) tk (by rfl) (sc_consF (se_var 0) (sc_consF (se_var 1) (sc_cons (se_ixk K rfl (se_var 0) se_int) sc_nil)))) sa_nil)))))))⟩
theorem ok_order_of {f : Addr} {fd : FuncData} {f0 : Addr} {fd0 : FuncData} (F : Fun K "order_of" "order_of" (topS 15) f fd) (B : Bn mg) (C_added : Cal P w K mg base "added" 1 ["town", "one", "other"] F_added f0 fd0) : FnOk P w K mg base (L2.CX P w) 2 f fd ["town", "one"] (spF K 2 F_order_of) := by
  refine fn_pv (k := 1) F sc_order_of fun cdv A outer s H E hr => ?_
  have u1 := hu1 hr
  have u64 := hu64 hr
  have u65 := hu65 hr
  have po : PassesOwn (model P w) (A.deeper (PyProof.Rows.envOfC "order_of" (defScope (topS 15)) s.heap.objs.size f cdv)) (PyProof.Rows.envOfC "order_of" (defScope (topS 15)) s.heap.objs.size f cdv) (cxOf (L2.CX P w) P w K mg base ["town", "one", "many", "here"] "order_of" (defScope (topS 15)) f cdv A outer s H E).xe := passes_of (X := cxOf (L2.CX P w) P w K mg base ["town", "one", "many", "here"] "order_of" (defScope (topS 15)) f cdv A outer s H E) rfl
  have tk : Takes (cxOf (L2.CX P w) P w K mg base ["town", "one", "many", "here"] "order_of" (defScope (topS 15)) f cdv A outer s H E) (fun cls d _ H => E cls d H) := takes_of rfl rfl rfl rfl
  exact ⟨_, (ss_cons (ss_par2 (i := 2) (j := 3) rfl sc_order_of.nd rfl rfl (by decide) rfl rfl (so_cons se_int (so_cons (se_var 1) so_nil)) (by rfl))
      (ss_cons (ss_while po (st_cmp (ok_ne K rfl u64) og_ne (se_var 3) (se_tup (sa_cons se_int (sa_cons se_int sa_nil))) (nomark _)) (ss_one (ss_par2 (i := 2) (j := 3) rfl sc_order_of.nd rfl rfl (by decide) rfl rfl (so_cons (se_op (ok_add K rfl) og_add (se_var 2) se_int) (so_cons (se_callK K rfl C_added (hr.mono (by decide)) tk (by rfl) (sc_consF (se_var 0) (sc_consF (se_var 3) (sc_consF (se_var 1) sc_nil)))) so_nil)) (by rfl))))
      (ss_one (ss_ret (se_var 2)))))⟩
theorem ok_order {f : Addr} {fd : FuncData} {f0 : Addr} {fd0 : FuncData} {f1 : Addr} {fd1 : FuncData} {f2 : Addr} {fd2 : FuncData} (F : Fun K "order" "order" (topS 16) f fd) (B : Bn mg) (C_need_town : Cal P w K mg base "need_town" 4 ["value"] F_need_town f0 fd0) (C_need_crossing : Cal P w K mg base "need_crossing" 3 ["town", "value"] F_need_crossing f1 fd1) (C_order_of : Cal P w K mg base "order_of" 2 ["town", "one"] F_order_of f2 fd2) : FnOk P w K mg base (L2.CX P w) 5 f fd ["town", "crossing"] (spF K 2 F_order) := by
  refine fn_pv (k := 4) F sc_order fun cdv A outer s H E hr => ?_
  have u1 := hu1 hr
  have u64 := hu64 hr
  have u65 := hu65 hr
  have po : PassesOwn (model P w) (A.deeper (PyProof.Rows.envOfC "order" (defScope (topS 16)) s.heap.objs.size f cdv)) (PyProof.Rows.envOfC "order" (defScope (topS 16)) s.heap.objs.size f cdv) (cxOf (L2.CX P w) P w K mg base ["town", "crossing"] "order" (defScope (topS 16)) f cdv A outer s H E).xe := passes_of (X := cxOf (L2.CX P w) P w K mg base ["town", "crossing"] "order" (defScope (topS 16)) f cdv A outer s H E) rfl
  have tk : Takes (cxOf (L2.CX P w) P w K mg base ["town", "crossing"] "order" (defScope (topS 16)) f cdv A outer s H E) (fun cls d _ H => E cls d H) := takes_of rfl rfl rfl rfl
  exact ⟨_, (ss_cons (ss_expr (se_callK K rfl C_need_town (hr.mono (by decide)) tk (by rfl) (sc_consF (se_var 0) sc_nil)))
      (ss_cons (ss_expr (se_callK K rfl C_need_crossing (hr.mono (by decide)) tk (by rfl) (sc_consF (se_var 0) (sc_consF (se_var 1) sc_nil))))
      (ss_one (ss_ret (se_callK K rfl C_order_of (hr.mono (by decide)) tk (by rfl) (sc_consF (se_var 0) (sc_consF (se_var 1) sc_nil)))))))⟩
theorem ok_law_gap {f : Addr} {fd : FuncData} (F : Fun K "_law_gap" "_law_gap" (topS 33) f fd) (B : Bn mg) : FnOk P w K mg base (L2.CX P w) 1 f fd ["_law_town_here"] (spF K 1 F_law_gap) := by
  refine fn_pv (k := 0) F sc_law_gap fun cdv A outer s H E hr => ?_
  have u1 := hu1 hr
  have u64 := hu64 hr
  have u65 := hu65 hr
  have po : PassesOwn (model P w) (A.deeper (PyProof.Rows.envOfC "_law_gap" (defScope (topS 33)) s.heap.objs.size f cdv)) (PyProof.Rows.envOfC "_law_gap" (defScope (topS 33)) s.heap.objs.size f cdv) (cxOf (L2.CX P w) P w K mg base ["_law_town_here"] "_law_gap" (defScope (topS 33)) f cdv A outer s H E).xe := passes_of (X := cxOf (L2.CX P w) P w K mg base ["_law_town_here"] "_law_gap" (defScope (topS 33)) f cdv A outer s H E) rfl
  have tk : Takes (cxOf (L2.CX P w) P w K mg base ["_law_town_here"] "_law_gap" (defScope (topS 33)) f cdv A outer s H E) (fun cls d _ H => E cls d H) := takes_of rfl rfl rfl rfl
  exact ⟨_, (ss_one (ss_ret (se_tup (sa_cons (se_op op_modN og_mod (se_op op_sub og_sub (se_ixk K rfl (se_ixk K rfl (se_var 0) se_int) se_int) (se_ixk K rfl (se_ixk K rfl (se_var 0) se_int) se_int)) (se_ixk K rfl (se_var 0) se_int)) (sa_cons (se_op op_modN og_mod (se_op op_sub og_sub (se_ixk K rfl (se_ixk K rfl (se_var 0) se_int) se_int) (se_ixk K rfl (se_ixk K rfl (se_var 0) se_int) se_int)) (se_ixk K rfl (se_var 0) se_int)) sa_nil)))))⟩
theorem ok_law_lots {f : Addr} {fd : FuncData} {f0 : Addr} {fd0 : FuncData} {f1 : Addr} {fd1 : FuncData} {f2 : Addr} {fd2 : FuncData} {f3 : Addr} {fd3 : FuncData} (F : Fun K "_law_lots" "_law_lots" (topS 34) f fd) (B : Bn mg) (C__law_gap : Cal P w K mg base "_law_gap" 1 ["_law_town_here"] F_law_gap f0 fd0) (C__law_row : Cal P w K mg base "_law_row" 2 ["_law_town_here", "_law_step"] F_law_row f1 fd1) (C__law_crossings : Cal P w K mg base "_law_crossings" 1 ["_law_town_here"] F_law_crossings f2 fd2) (C__law_led : Cal P w K mg base "_law_led" 1 ["_law_town_here", "_law_place", "_law_step"] F_law_led f3 fd3) : FnOk P w K mg base (L2.CX P w) 3 f fd ["_law_town_here"] (spF K 1 F_law_lots) := by
  refine fn_pv (k := 2) F sc_law_lots fun cdv A outer s H E hr => ?_
  have u1 := hu1 hr
  have u64 := hu64 hr
  have u65 := hu65 hr
  have po : PassesOwn (model P w) (A.deeper (PyProof.Rows.envOfC "_law_lots" (defScope (topS 34)) s.heap.objs.size f cdv)) (PyProof.Rows.envOfC "_law_lots" (defScope (topS 34)) s.heap.objs.size f cdv) (cxOf (L2.CX P w) P w K mg base ["_law_town_here", "_law_row_here", "_law_found", "_law_place", "_law_lot", "_law_step"] "_law_lots" (defScope (topS 34)) f cdv A outer s H E).xe := passes_of (X := cxOf (L2.CX P w) P w K mg base ["_law_town_here", "_law_row_here", "_law_found", "_law_place", "_law_lot", "_law_step"] "_law_lots" (defScope (topS 34)) f cdv A outer s H E) rfl
  have tk : Takes (cxOf (L2.CX P w) P w K mg base ["_law_town_here", "_law_row_here", "_law_found", "_law_place", "_law_lot", "_law_step"] "_law_lots" (defScope (topS 34)) f cdv A outer s H E) (fun cls d _ H => E cls d H) := takes_of rfl rfl rfl rfl
  exact ⟨_, (ss_cons (ss_par2 (i := 1) (j := 2) rfl sc_law_lots.nd rfl rfl (by decide) rfl rfl (so_cons (se_callK K rfl C__law_row (hr.mono (by decide)) tk (by rfl) (sc_consF (se_var 0) (sc_cons (se_callK K rfl C__law_gap (hr.mono (by decide)) tk (by rfl) (sc_consF (se_var 0) sc_nil)) sc_nil))) (so_cons (se_lst sa_nil) so_nil)) (by rfl))
      (ss_cons (ss_for po rfl (si_seqk K rfl (se_callK K rfl C__law_crossings (hr.mono (by decide)) tk (by rfl) (sc_consF (se_var 0) sc_nil))) (sg_name (i := 3) sc_law_lots.nd rfl (by first | exact .inl rfl | exact .inr rfl)) (ss_cons (ss_set (i := 4) sc_law_lots.nd rfl (by first | exact .inl rfl | exact .inr rfl) (se_ct (ck_tuple K rfl) (cgk_tuple K) (by rfl) B.tuple (by rfl) (sr_cons (se_cb (ck_sorted K rfl u65) cg_sorted (by rfl) B.sorted (by rfl) (sr_cons (se_lc (own := [("_law_step", 5)]) rfl sc_law_lots.nd (si_seqk K rfl (se_var 1)) (blkOk_by (N := ["_law_town_here", "_law_row_here", "_law_found", "_law_place", "_law_lot", "_law_step"]) (sc := defScope (topS 34)) (by decide +kernel)) ⟨fun _ _ _ _ _ => (sg_name (i := 5) sc_law_lots.nd rfl (by first | exact .inl rfl | exact .inr rfl)), fun _ _ _ _ _ => sts_nil, fun _ _ _ _ _ => (se_callK K rfl C__law_led (hr.mono (by decide)) takes0 (by rfl) (sc_consF (se_var 0) (sc_consF (se_var 3) (sc_consF (se_var 5) sc_nil))))⟩ (by decide)) sr_nil)) sr_nil)))
      (ss_one (ss_if (st_cmp (ok_notIn K rfl u65) og_notIn (se_var 4) (se_var 2) (by rfl)) (ss_one (ss_expr (se_append (se_var 2) (se_var 4)))) ss_nil))))
      (ss_one (ss_ret (se_var 2)))))⟩
theorem ok_taken {f : Addr} {fd : FuncData} (F : Fun K "taken" "taken" (topS 14) f fd) (B : Bn mg) : FnOk P w K mg base (L2.CX P w) 1 f fd ["town", "one", "other"] (spF K 3 F_taken) := by
  refine fn_pv (k := 0) F sc_taken fun cdv A outer s H E hr => ?_
  have u1 := hu1 hr
  have u64 := hu64 hr
  have u65 := hu65 hr
  have po : PassesOwn (model P w) (A.deeper (PyProof.Rows.envOfC "taken" (defScope (topS 14)) s.heap.objs.size f cdv)) (PyProof.Rows.envOfC "taken" (defScope (topS 14)) s.heap.objs.size f cdv) (cxOf (L2.CX P w) P w K mg base ["town", "one", "other"] "taken" (defScope (topS 14)) f cdv A outer s H E).xe := passes_of (X := cxOf (L2.CX P w) P w K mg base ["town", "one", "other"] "taken" (defScope (topS 14)) f cdv A outer s H E) rfl
  have tk : Takes (cxOf (L2.CX P w) P w K mg base ["town", "one", "other"] "taken" (defScope (topS 14)) f cdv A outer s H E) (fun cls d _ H => E cls d H) := takes_of rfl rfl rfl rfl
  exact ⟨_, (ss_one (ss_ret (se_tup (sa_cons (se_op op_modN og_mod (se_op op_sub og_sub (se_ixk K rfl (se_var 1) se_int) (se_ixk K rfl (se_var 2) se_int)) (se_ixk K rfl (se_var 0) se_int)) (sa_cons (se_op op_modN og_mod (se_op op_sub og_sub (se_ixk K rfl (se_var 1) se_int) (se_ixk K rfl (se_var 2) se_int)) (se_ixk K rfl (se_var 0) se_int)) sa_nil)))))⟩
theorem ok_crossings_of {f : Addr} {fd : FuncData} (F : Fun K "crossings_of" "crossings_of" (topS 12) f fd) (B : Bn mg) : FnOk P w K mg base (L2.CX P w) 1 f fd ["town"] (spF K 1 F_crossings_of) := by
  refine fn_pv (k := 0) F sc_crossings_of fun cdv A outer s H E hr => ?_
  have u1 := hu1 hr
  have u64 := hu64 hr
  have u65 := hu65 hr
  have po : PassesOwn (model P w) (A.deeper (PyProof.Rows.envOfC "crossings_of" (defScope (topS 12)) s.heap.objs.size f cdv)) (PyProof.Rows.envOfC "crossings_of" (defScope (topS 12)) s.heap.objs.size f cdv) (cxOf (L2.CX P w) P w K mg base ["town", "east", "north"] "crossings_of" (defScope (topS 12)) f cdv A outer s H E).xe := passes_of (X := cxOf (L2.CX P w) P w K mg base ["town", "east", "north"] "crossings_of" (defScope (topS 12)) f cdv A outer s H E) rfl
  have tk : Takes (cxOf (L2.CX P w) P w K mg base ["town", "east", "north"] "crossings_of" (defScope (topS 12)) f cdv A outer s H E) (fun cls d _ H => E cls d H) := takes_of rfl rfl rfl rfl
  exact ⟨_, (ss_one (ss_ret (se_lc2 (own := [("east", 1), ("north", 2)]) (vs1 := [2]) rfl sc_crossings_of.nd (si_range1 (by rfl) B.range (sr_cons (se_ixk K rfl (se_var 0) se_int) sr_nil)) (blkOk_by (N := ["town", "east", "north"]) (sc := defScope (topS 12)) (by decide +kernel)) (by decide) ⟨fun _ _ _ _ _ => (sg_name (i := 1) sc_crossings_of.nd rfl (by first | exact .inl rfl | exact .inr rfl)), fun _ _ _ _ _ => (si_range1 (by rfl) B.range (sr_cons (se_ixk K rfl (se_var 0) se_int) sr_nil)), fun _ _ _ _ _ => (sg_name (i := 2) sc_crossings_of.nd rfl (by first | exact .inl rfl | exact .inr rfl)), fun _ _ _ _ _ => sts_nil, fun _ _ _ _ _ => (se_tup (sa_cons (se_var 1) (sa_cons (se_var 2) sa_nil)))⟩ (by decide) (by decide))))⟩
theorem ok_lots_of {f : Addr} {fd : FuncData} {f0 : Addr} {fd0 : FuncData} {f1 : Addr} {fd1 : FuncData} {f2 : Addr} {fd2 : FuncData} (F : Fun K "lots_of" "lots_of" (topS 18) f fd) (B : Bn mg) (C_taken : Cal P w K mg base "taken" 1 ["town", "one", "other"] F_taken f0 fd0) (C_crossings_of : Cal P w K mg base "crossings_of" 1 ["town"] F_crossings_of f1 fd1) (C_added : Cal P w K mg base "added" 1 ["town", "one", "other"] F_added f2 fd2) : FnOk P w K mg base (L2.CX P w) 2 f fd ["town"] (spF K 1 F_lots_of) := by
  refine fn_pv (k := 1) F sc_lots_of fun cdv A outer s H E hr => ?_
  have u1 := hu1 hr
  have u64 := hu64 hr
  have u65 := hu65 hr
  have po : PassesOwn (model P w) (A.deeper (PyProof.Rows.envOfC "lots_of" (defScope (topS 18)) s.heap.objs.size f cdv)) (PyProof.Rows.envOfC "lots_of" (defScope (topS 18)) s.heap.objs.size f cdv) (cxOf (L2.CX P w) P w K mg base ["town", "step", "left", "found", "here", "lot", "one"] "lots_of" (defScope (topS 18)) f cdv A outer s H E).xe := passes_of (X := cxOf (L2.CX P w) P w K mg base ["town", "step", "left", "found", "here", "lot", "one"] "lots_of" (defScope (topS 18)) f cdv A outer s H E) rfl
  have tk : Takes (cxOf (L2.CX P w) P w K mg base ["town", "step", "left", "found", "here", "lot", "one"] "lots_of" (defScope (topS 18)) f cdv A outer s H E) (fun cls d _ H => E cls d H) := takes_of rfl rfl rfl rfl
  exact ⟨_, (ss_cons (ss_par3 (i := 1) (j := 2) (l := 3) rfl sc_lots_of.nd rfl rfl rfl (by decide) (by decide) (by decide) rfl rfl rfl (so_cons (se_callK K rfl C_taken (hr.mono (by decide)) tk (by rfl) (sc_consF (se_var 0) (sc_cons (se_ixk K rfl (se_var 0) se_int) (sc_cons (se_ixk K rfl (se_var 0) se_int) sc_nil)))) (so_cons (se_callK K rfl C_crossings_of (hr.mono (by decide)) tk (by rfl) (sc_consF (se_var 0) sc_nil)) (so_cons (se_lst sa_nil) so_nil))) (by rfl))
      (ss_cons (ss_while po (st_truthk K rfl (se_var 2)) (ss_cons (ss_parc2 (i := 4) (j := 5) rfl sc_lots_of.nd rfl rfl (by first | exact .inl rfl | exact .inr rfl) (by first | exact .inl rfl | exact .inr rfl) (so_cons (se_ixk K rfl (se_var 2) se_int) (so_cons (se_lst sa_nil) so_nil)))
      (ss_cons (ss_while po (st_cmp (ok_notIn K rfl u65) og_notIn (se_var 4) (se_var 5) (by rfl)) (ss_cons (ss_expr (se_append (se_var 5) (se_var 4)))
      (ss_one (ss_set (i := 4) sc_lots_of.nd rfl (by first | exact .inl rfl | exact .inr rfl) (se_callK K rfl C_added (hr.mono (by decide)) tk (by rfl) (sc_consF (se_var 0) (sc_consF (se_var 4) (sc_consF (se_var 1) sc_nil))))))))
      (ss_cons (ss_expr (se_append (se_var 3) (se_ct (ck_tuple K rfl) (cgk_tuple K) (by rfl) B.tuple (by rfl) (sr_cons (se_cb (ck_sorted K rfl u65) cg_sorted (by rfl) B.sorted (by rfl) (sr_cons (se_var 5) sr_nil)) sr_nil))))
      (ss_one (ss_setLc (own := [("one", 6)]) (i := 2) rfl sc_lots_of.nd rfl rfl (sw_true rfl rfl rfl (by decide +kernel)) (si_seqk K rfl (se_var 2)) (blkOk_by (N := ["town", "step", "left", "found", "here", "lot", "one"]) (sc := defScope (topS 18)) (by decide +kernel)) ⟨fun _ _ _ _ _ => (sg_name (i := 6) sc_lots_of.nd rfl (by first | exact .inl rfl | exact .inr rfl)), fun _ _ _ _ _ => (sts_one (st_cmp (ok_notIn K rfl u65) og_notIn (se_var 6) (se_var 5) (by rfl))), fun _ _ _ _ _ => (se_var 6)⟩ (by decide)))))))
      (ss_one (ss_ret (se_var 3)))))⟩
theorem ok_lots {f : Addr} {fd : FuncData} {f0 : Addr} {fd0 : FuncData} {f1 : Addr} {fd1 : FuncData} (F : Fun K "lots" "lots" (topS 19) f fd) (B : Bn mg) (C_need_town : Cal P w K mg base "need_town" 4 ["value"] F_need_town f0 fd0) (C_lots_of : Cal P w K mg base "lots_of" 2 ["town"] F_lots_of f1 fd1) : FnOk P w K mg base (L2.CX P w) 5 f fd ["town"] (spF K 1 F_lots) := by
  refine fn_pv (k := 4) F sc_lots fun cdv A outer s H E hr => ?_
  have u1 := hu1 hr
  have u64 := hu64 hr
  have u65 := hu65 hr
  have po : PassesOwn (model P w) (A.deeper (PyProof.Rows.envOfC "lots" (defScope (topS 19)) s.heap.objs.size f cdv)) (PyProof.Rows.envOfC "lots" (defScope (topS 19)) s.heap.objs.size f cdv) (cxOf (L2.CX P w) P w K mg base ["town"] "lots" (defScope (topS 19)) f cdv A outer s H E).xe := passes_of (X := cxOf (L2.CX P w) P w K mg base ["town"] "lots" (defScope (topS 19)) f cdv A outer s H E) rfl
  have tk : Takes (cxOf (L2.CX P w) P w K mg base ["town"] "lots" (defScope (topS 19)) f cdv A outer s H E) (fun cls d _ H => E cls d H) := takes_of rfl rfl rfl rfl
  exact ⟨_, (ss_cons (ss_expr (se_callK K rfl C_need_town (hr.mono (by decide)) tk (by rfl) (sc_consF (se_var 0) sc_nil)))
      (ss_one (ss_ret (se_ct (ck_tuple K rfl) (cgk_tuple K) (by rfl) B.tuple (by rfl) (sr_cons (se_callK K rfl C_lots_of (hr.mono (by decide)) tk (by rfl) (sc_consF (se_var 0) sc_nil)) sr_nil)))))⟩
theorem ok_count_plans {f : Addr} {fd : FuncData} {f0 : Addr} {fd0 : FuncData} {f1 : Addr} {fd1 : FuncData} (F : Fun K "count_plans" "count_plans" (topS 24) f fd) (B : Bn mg) (C_need_town : Cal P w K mg base "need_town" 4 ["value"] F_need_town f0 fd0) (C_lots_of : Cal P w K mg base "lots_of" 2 ["town"] F_lots_of f1 fd1) : FnOk P w K mg base (L2.CX P w) 5 f fd ["town"] (spF K 1 F_count_plans) := by
  refine fn_pv (k := 4) F sc_count_plans fun cdv A outer s H E hr => ?_
  have u1 := hu1 hr
  have u64 := hu64 hr
  have u65 := hu65 hr
  have po : PassesOwn (model P w) (A.deeper (PyProof.Rows.envOfC "count_plans" (defScope (topS 24)) s.heap.objs.size f cdv)) (PyProof.Rows.envOfC "count_plans" (defScope (topS 24)) s.heap.objs.size f cdv) (cxOf (L2.CX P w) P w K mg base ["town"] "count_plans" (defScope (topS 24)) f cdv A outer s H E).xe := passes_of (X := cxOf (L2.CX P w) P w K mg base ["town"] "count_plans" (defScope (topS 24)) f cdv A outer s H E) rfl
  have tk : Takes (cxOf (L2.CX P w) P w K mg base ["town"] "count_plans" (defScope (topS 24)) f cdv A outer s H E) (fun cls d _ H => E cls d H) := takes_of rfl rfl rfl rfl
  exact ⟨_, (ss_cons (ss_expr (se_callK K rfl C_need_town (hr.mono (by decide)) tk (by rfl) (sc_consF (se_var 0) sc_nil)))
      (ss_one (ss_ret (se_op op_shl og_shl se_int (se_cb (ck_len K rfl) cg_len (by rfl) B.len PySem.boot_len (sr_cons (se_callK K rfl C_lots_of (hr.mono (by decide)) tk (by rfl) (sc_consF (se_var 0) sc_nil)) sr_nil))))))⟩
theorem ok_law {f : Addr} {fd : FuncData} {f0 : Addr} {fd0 : FuncData} {f1 : Addr} {fd1 : FuncData} {f2 : Addr} {fd2 : FuncData} {f3 : Addr} {fd3 : FuncData} {f4 : Addr} {fd4 : FuncData} {f5 : Addr} {fd5 : FuncData} {f6 : Addr} {fd6 : FuncData} {f7 : Addr} {fd7 : FuncData} {f8 : Addr} {fd8 : FuncData} {f9 : Addr} {fd9 : FuncData} {f10 : Addr} {fd10 : FuncData} {f11 : Addr} {fd11 : FuncData} {f12 : Addr} {fd12 : FuncData} {f13 : Addr} {fd13 : FuncData} (F : Fun K "law" "law" (topS 36) f fd) (B : Bn mg) (C__law_town : Cal P w K mg base "_law_town" 3 ["_law_row_here", "_law_side", "_law_most"] F_law_town f0 fd0) (C_is_town : Cal P w K mg base "is_town" 4 ["value"] F_is_town f1 fd1) (C__law_is_whole : Cal P w K mg base "_law_is_whole" 2 ["_law_town_here"] F_law_is_whole f2 fd2) (C_is_whole : Cal P w K mg base "is_whole" 5 ["town"] F_is_whole f3 fd3) (C__law_alike : Cal P w K mg base "_law_alike" 7 ["_law_found", "_law_due"] (F_law_alike 6) f4 fd4) (C__law_crossings : Cal P w K mg base "_law_crossings" 1 ["_law_town_here"] F_law_crossings f5 fd5) (C__law_pick : Cal P w K mg base "_law_pick" 2 ["_law_row_here", "_law_things"] F_law_pick f6 fd6) (C__law_led : Cal P w K mg base "_law_led" 1 ["_law_town_here", "_law_place", "_law_step"] F_law_led f7 fd7) (C__law_row : Cal P w K mg base "_law_row" 2 ["_law_town_here", "_law_step"] F_law_row f8 fd8) (C_ends : Cal P w K mg base "ends" 5 ["town", "crossing"] F_ends f9 fd9) (C_order : Cal P w K mg base "order" 5 ["town", "crossing"] F_order f10 fd10) (C__law_lots : Cal P w K mg base "_law_lots" 3 ["_law_town_here"] F_law_lots f11 fd11) (C_lots : Cal P w K mg base "lots" 5 ["town"] F_lots f12 fd12) (C_count_plans : Cal P w K mg base "count_plans" 5 ["town"] F_count_plans f13 fd13) : FnOk P w K mg base (L2.CX P w) 8 f fd ["_law_script"] (spF K 1 F_law) := by
  refine fn_pv (k := 7) F sc_law fun cdv A outer s H E hr => ?_
  have u1 := hu1 hr
  have u64 := hu64 hr
  have u65 := hu65 hr
  have po : PassesOwn (model P w) (A.deeper (PyProof.Rows.envOfC "law" (defScope (topS 36)) s.heap.objs.size f cdv)) (PyProof.Rows.envOfC "law" (defScope (topS 36)) s.heap.objs.size f cdv) (cxOf (L2.CX P w) P w K mg base ["_law_script", "_law_row_here", "_law_town_here", "_law_turn", "_law_place", "_law_due", "_law_some"] "law" (defScope (topS 36)) f cdv A outer s H E).xe := passes_of (X := cxOf (L2.CX P w) P w K mg base ["_law_script", "_law_row_here", "_law_town_here", "_law_turn", "_law_place", "_law_due", "_law_some"] "law" (defScope (topS 36)) f cdv A outer s H E) rfl
  have tk : Takes (cxOf (L2.CX P w) P w K mg base ["_law_script", "_law_row_here", "_law_town_here", "_law_turn", "_law_place", "_law_due", "_law_some"] "law" (defScope (topS 36)) f cdv A outer s H E) (fun cls d _ H => E cls d H) := takes_of rfl rfl rfl rfl
  exact ⟨_, (ss_cons (ss_set (i := 1) sc_law.nd rfl (by first | exact .inl rfl | exact .inr rfl) (se_lst (sa_cons (se_var 0) (sa_cons se_int (sa_cons se_int (sa_cons se_int sa_nil))))))
      (ss_cons (ss_set (i := 2) sc_law.nd rfl (by first | exact .inl rfl | exact .inr rfl) (se_callK K rfl C__law_town (hr.mono (by decide)) tk (by rfl) (sc_cons (se_var 1) (sc_cons se_int (sc_cons se_int sc_nil)))))
      (ss_cons (ss_if (SW.st (sw_or (st_cmp op_isNotA og_isNot (se_callK K rfl C_is_town (hr.mono (by decide)) tk (by rfl) (sc_consF (se_var 2) sc_nil)) se_bl (nomark _)) (sw_or1 (st_not (st_truthk K rfl (se_callK K rfl C__law_alike (hr.mono (by decide)) tk (by rfl) (sc_cons (se_callK K rfl C_is_whole (hr.mono (by decide)) tk (by rfl) (sc_consF (se_var 2) sc_nil)) (sc_cons (se_callK K rfl C__law_is_whole (hr.mono (by decide)) tk (by rfl) (sc_consF (se_var 2) sc_nil)) sc_nil)))))))) (ss_one (ss_ret se_bl)) ss_nil)
      (ss_cons (ss_for po rfl (si_range1 (by rfl) B.range (sr_cons se_int sr_nil)) (sg_name (i := 3) sc_law.nd rfl (by first | exact .inl rfl | exact .inr rfl)) (ss_cons (ss_set (i := 4) sc_law.nd rfl (by first | exact .inl rfl | exact .inr rfl) (se_callK K rfl C__law_pick (hr.mono (by decide)) tk (by rfl) (sc_cons (se_var 1) (sc_cons (se_callK K rfl C__law_crossings (hr.mono (by decide)) tk (by rfl) (sc_consF (se_var 2) sc_nil)) sc_nil))))
      (ss_cons (ss_set (i := 5) sc_law.nd rfl (by first | exact .inl rfl | exact .inr rfl) (se_tup (sa_cons (se_callK K rfl C__law_led (hr.mono (by decide)) tk (by rfl) (sc_consF (se_var 2) (sc_consF (se_var 4) (sc_cons (se_ixk K rfl (se_var 2) se_int) sc_nil)))) (sa_cons (se_callK K rfl C__law_led (hr.mono (by decide)) tk (by rfl) (sc_consF (se_var 2) (sc_consF (se_var 4) (sc_cons (se_ixk K rfl (se_var 2) se_int) sc_nil)))) sa_nil))))
      (ss_one (ss_if (st_not (st_truthk K rfl (se_callK K rfl C__law_alike (hr.mono (by decide)) tk (by rfl) (sc_cons (se_lst (sa_cons (se_callK K rfl C_ends (hr.mono (by decide)) tk (by rfl) (sc_consF (se_var 2) (sc_consF (se_var 4) sc_nil))) (sa_cons (se_callK K rfl C_order (hr.mono (by decide)) tk (by rfl) (sc_consF (se_var 2) (sc_consF (se_var 4) sc_nil))) sa_nil))) (sc_cons (se_lst (sa_cons (se_var 5) (sa_cons (se_cb (ck_len K rfl) cg_len (by rfl) B.len PySem.boot_len (sr_cons (se_callK K rfl C__law_row (hr.mono (by decide)) tk (by rfl) (sc_consF (se_var 2) (sc_consF (se_var 4) sc_nil))) sr_nil)) sa_nil))) sc_nil))))) (ss_one (ss_ret se_bl)) ss_nil)))))
      (ss_cons (ss_set (i := 6) sc_law.nd rfl (by first | exact .inl rfl | exact .inr rfl) (se_callK K rfl C__law_lots (hr.mono (by decide)) tk (by rfl) (sc_consF (se_var 2) sc_nil)))
      (ss_one (ss_ret (se_callK K rfl C__law_alike (hr.mono (by decide)) tk (by rfl) (sc_cons (se_lst (sa_cons (se_callK K rfl C_lots (hr.mono (by decide)) tk (by rfl) (sc_consF (se_var 2) sc_nil)) (sa_cons (se_callK K rfl C_count_plans (hr.mono (by decide)) tk (by rfl) (sc_consF (se_var 2) sc_nil)) sa_nil))) (sc_cons (se_lst (sa_cons (se_ct (ck_tuple K rfl) (cgk_tuple K) (by rfl) B.tuple (by rfl) (sr_cons (se_var 6) sr_nil)) (sa_cons (se_op op_shl og_shl se_int (se_cb (ck_len K rfl) cg_len (by rfl) B.len PySem.boot_len (sr_cons (se_var 6) sr_nil))) sa_nil))) sc_nil))))))))))⟩
end
theorem all_mk {l : PySem.W.OpenLaw} {w : World} {K : PySem.W.Frag} {h : Heap} {mg : Str → Option Value} {fa f0 f1 f2 f3 f4 f5 f6 f7 f8 f9 f10 f11 f12 f13 f14 f15 f16 f17 f18 f19 f20 f21 f22 f23 f24 f25 f26 f27 f28 : Addr} (X : K.In h) (G : h.Ns mainGlobals mg) (hfa : mg "law" = some (.ref fa))
    {od0 an0 od1 an1 od2 an2 od3 an3 od4 an4 od5 an5 od6 an6 od7 an7 od8 an8 od9 an9 od10 an10 od11 an11 od12 an12 od13 an13 od14 an14 od15 an15 od16 an16 od17 an17 od18 an18 od19 an19 od20 an20 od21 an21 od22 an22 od23 an23 od24 an24 od25 an25 od26 an26 od27 an27 od28 an28 : Option Addr} {sl0 sl1 sl2 sl3 sl4 sl5 sl6 sl7 sl8 sl9 sl10 sl11 sl12 sl13 sl14 sl15 sl16 sl17 sl18 sl19 sl20 sl21 sl22 sl23 sl24 sl25 sl26 sl27 sl28 : Array (Option Value)} {oc0 kV0 dc0 pm0 cd0 ct0 oc1 kV1 dc1 pm1 cd1 ct1 oc2 kV2 dc2 pm2 cd2 ct2 oc3 kV3 dc3 pm3 cd3 ct3 oc4 kV4 dc4 pm4 cd4 ct4 oc5 kV5 dc5 pm5 cd5 ct5 oc6 kV6 dc6 pm6 cd6 ct6 oc7 kV7 dc7 pm7 cd7 ct7 oc8 kV8 dc8 pm8 cd8 ct8 oc9 kV9 dc9 pm9 cd9 ct9 oc10 kV10 dc10 pm10 cd10 ct10 oc11 kV11 dc11 pm11 cd11 ct11 oc12 kV12 dc12 pm12 cd12 ct12 oc13 kV13 dc13 pm13 cd13 ct13 oc14 kV14 dc14 pm14 cd14 ct14 oc15 kV15 dc15 pm15 cd15 ct15 oc16 kV16 dc16 pm16 cd16 ct16 oc17 kV17 dc17 pm17 cd17 ct17 oc18 kV18 dc18 pm18 cd18 ct18 oc19 kV19 dc19 pm19 cd19 ct19 oc20 kV20 dc20 pm20 cd20 ct20 oc21 kV21 dc21 pm21 cd21 ct21 oc22 kV22 dc22 pm22 cd22 ct22 oc23 kV23 dc23 pm23 cd23 ct23 oc24 kV24 dc24 pm24 cd24 ct24 oc25 kV25 dc25 pm25 cd25 ct25 oc26 kV26 dc26 pm26 cd26 ct26 oc27 kV27 dc27 pm27 cd27 ct27 oc28 kV28 dc28 pm28 cd28 ct28 : Value} {t_MOST_SIDE : Tok}
    (a0 : PySem.W.nsIn K mainGlobals "_law_taken" = some (some (.ref f0))) (l0 : K.lookup f0 = some ⟨oc0, od0, .func (PySem.W.fnOf "_law_taken" "_law_taken" (defArgs (topS 26)) (defBody (topS 26)) (defScope (topS 26)) .none kV0 dc0 pm0 an0 cd0 ct0), sl0⟩) (c0 : PySem.W.codeIn K cd0 "_law_taken" = true) (k0 : PySem.W.keepIn K (.ref f0) = true)
    (a1 : PySem.W.nsIn K mainGlobals "_law_crossings" = some (some (.ref f1))) (l1 : K.lookup f1 = some ⟨oc1, od1, .func (PySem.W.fnOf "_law_crossings" "_law_crossings" (defArgs (topS 30)) (defBody (topS 30)) (defScope (topS 30)) .none kV1 dc1 pm1 an1 cd1 ct1), sl1⟩) (c1 : PySem.W.codeIn K cd1 "_law_crossings" = true) (k1 : PySem.W.keepIn K (.ref f1) = true)
    (a2 : PySem.W.nsIn K mainGlobals "_law_pick" = some (some (.ref f2))) (l2 : K.lookup f2 = some ⟨oc2, od2, .func (PySem.W.fnOf "_law_pick" "_law_pick" (defArgs (topS 27)) (defBody (topS 27)) (defScope (topS 27)) .none kV2 dc2 pm2 an2 cd2 ct2), sl2⟩) (c2 : PySem.W.codeIn K cd2 "_law_pick" = true) (k2 : PySem.W.keepIn K (.ref f2) = true)
    (a3 : PySem.W.nsIn K mainGlobals "_law_town" = some (some (.ref f3))) (l3 : K.lookup f3 = some ⟨oc3, od3, .func (PySem.W.fnOf "_law_town" "_law_town" (defArgs (topS 29)) (defBody (topS 29)) (defScope (topS 29)) .none kV3 dc3 pm3 an3 cd3 ct3), sl3⟩) (c3 : PySem.W.codeIn K cd3 "_law_town" = true) (k3 : PySem.W.keepIn K (.ref f3) = true)
    (a4 : PySem.W.nsIn K mainGlobals "is_number" = some (some (.ref f4))) (l4 : K.lookup f4 = some ⟨oc4, od4, .func (PySem.W.fnOf "is_number" "is_number" (defArgs (topS 6)) (defBody (topS 6)) (defScope (topS 6)) .none kV4 dc4 pm4 an4 cd4 ct4), sl4⟩) (c4 : PySem.W.codeIn K cd4 "is_number" = true) (k4 : PySem.W.keepIn K (.ref f4) = true)
    (a5 : PySem.W.nsIn K mainGlobals "is_spot" = some (some (.ref f5))) (l5 : K.lookup f5 = some ⟨oc5, od5, .func (PySem.W.fnOf "is_spot" "is_spot" (defArgs (topS 7)) (defBody (topS 7)) (defScope (topS 7)) .none kV5 dc5 pm5 an5 cd5 ct5), sl5⟩) (c5 : PySem.W.codeIn K cd5 "is_spot" = true) (k5 : PySem.W.keepIn K (.ref f5) = true)
    (a6 : PySem.W.nsIn K mainGlobals "wrong_town" = some (some (.ref f6))) (l6 : K.lookup f6 = some ⟨oc6, od6, .func (PySem.W.fnOf "wrong_town" "wrong_town" (defArgs (topS 8)) (defBody (topS 8)) (defScope (topS 8)) .none kV6 dc6 pm6 an6 cd6 ct6), sl6⟩) (c6 : PySem.W.codeIn K cd6 "wrong_town" = true) (k6 : PySem.W.keepIn K (.ref f6) = true)
    (a7 : PySem.W.nsIn K mainGlobals "is_town" = some (some (.ref f7))) (l7 : K.lookup f7 = some ⟨oc7, od7, .func (PySem.W.fnOf "is_town" "is_town" (defArgs (topS 9)) (defBody (topS 9)) (defScope (topS 9)) .none kV7 dc7 pm7 an7 cd7 ct7), sl7⟩) (c7 : PySem.W.codeIn K cd7 "is_town" = true) (k7 : PySem.W.keepIn K (.ref f7) = true)
    (a8 : PySem.W.nsIn K mainGlobals "_law_led" = some (some (.ref f8))) (l8 : K.lookup f8 = some ⟨oc8, od8, .func (PySem.W.fnOf "_law_led" "_law_led" (defArgs (topS 31)) (defBody (topS 31)) (defScope (topS 31)) .none kV8 dc8 pm8 an8 cd8 ct8), sl8⟩) (c8 : PySem.W.codeIn K cd8 "_law_led" = true) (k8 : PySem.W.keepIn K (.ref f8) = true)
    (a9 : PySem.W.nsIn K mainGlobals "_law_is_whole" = some (some (.ref f9))) (l9 : K.lookup f9 = some ⟨oc9, od9, .func (PySem.W.fnOf "_law_is_whole" "_law_is_whole" (defArgs (topS 35)) (defBody (topS 35)) (defScope (topS 35)) .none kV9 dc9 pm9 an9 cd9 ct9), sl9⟩) (c9 : PySem.W.codeIn K cd9 "_law_is_whole" = true) (k9 : PySem.W.keepIn K (.ref f9) = true)
    (a10 : PySem.W.nsIn K mainGlobals "need_town" = some (some (.ref f10))) (l10 : K.lookup f10 = some ⟨oc10, od10, .func (PySem.W.fnOf "need_town" "need_town" (defArgs (topS 10)) (defBody (topS 10)) (defScope (topS 10)) .none kV10 dc10 pm10 an10 cd10 ct10), sl10⟩) (c10 : PySem.W.codeIn K cd10 "need_town" = true) (k10 : PySem.W.keepIn K (.ref f10) = true)
    (a11 : PySem.W.nsIn K mainGlobals "added" = some (some (.ref f11))) (l11 : K.lookup f11 = some ⟨oc11, od11, .func (PySem.W.fnOf "added" "added" (defArgs (topS 13)) (defBody (topS 13)) (defScope (topS 13)) .none kV11 dc11 pm11 an11 cd11 ct11), sl11⟩) (c11 : PySem.W.codeIn K cd11 "added" = true) (k11 : PySem.W.keepIn K (.ref f11) = true)
    (a12 : PySem.W.nsIn K mainGlobals "reached_of" = some (some (.ref f12))) (l12 : K.lookup f12 = some ⟨oc12, od12, .func (PySem.W.fnOf "reached_of" "reached_of" (defArgs (topS 20)) (defBody (topS 20)) (defScope (topS 20)) .none kV12 dc12 pm12 an12 cd12 ct12), sl12⟩) (c12 : PySem.W.codeIn K cd12 "reached_of" = true) (k12 : PySem.W.keepIn K (.ref f12) = true)
    (a13 : PySem.W.nsIn K mainGlobals "is_whole_of" = some (some (.ref f13))) (l13 : K.lookup f13 = some ⟨oc13, od13, .func (PySem.W.fnOf "is_whole_of" "is_whole_of" (defArgs (topS 21)) (defBody (topS 21)) (defScope (topS 21)) .none kV13 dc13 pm13 an13 cd13 ct13), sl13⟩) (c13 : PySem.W.codeIn K cd13 "is_whole_of" = true) (k13 : PySem.W.keepIn K (.ref f13) = true)
    (a14 : PySem.W.nsIn K mainGlobals "is_whole" = some (some (.ref f14))) (l14 : K.lookup f14 = some ⟨oc14, od14, .func (PySem.W.fnOf "is_whole" "is_whole" (defArgs (topS 22)) (defBody (topS 22)) (defScope (topS 22)) .none kV14 dc14 pm14 an14 cd14 ct14), sl14⟩) (c14 : PySem.W.codeIn K cd14 "is_whole" = true) (k14 : PySem.W.keepIn K (.ref f14) = true)
    (a15 : PySem.W.nsIn K mainGlobals "_law_alike" = some (some (.ref f15))) (l15 : K.lookup f15 = some ⟨oc15, od15, .func (PySem.W.fnOf "_law_alike" "_law_alike" (defArgs (topS 28)) (defBody (topS 28)) (defScope (topS 28)) .none kV15 dc15 pm15 an15 cd15 ct15), sl15⟩) (c15 : PySem.W.codeIn K cd15 "_law_alike" = true) (k15 : PySem.W.keepIn K (.ref f15) = true)
    (a16 : PySem.W.nsIn K mainGlobals "_law_row" = some (some (.ref f16))) (l16 : K.lookup f16 = some ⟨oc16, od16, .func (PySem.W.fnOf "_law_row" "_law_row" (defArgs (topS 32)) (defBody (topS 32)) (defScope (topS 32)) .none kV16 dc16 pm16 an16 cd16 ct16), sl16⟩) (c16 : PySem.W.codeIn K cd16 "_law_row" = true) (k16 : PySem.W.keepIn K (.ref f16) = true)
    (a17 : PySem.W.nsIn K mainGlobals "need_crossing" = some (some (.ref f17))) (l17 : K.lookup f17 = some ⟨oc17, od17, .func (PySem.W.fnOf "need_crossing" "need_crossing" (defArgs (topS 11)) (defBody (topS 11)) (defScope (topS 11)) .none kV17 dc17 pm17 an17 cd17 ct17), sl17⟩) (c17 : PySem.W.codeIn K cd17 "need_crossing" = true) (k17 : PySem.W.keepIn K (.ref f17) = true)
    (a18 : PySem.W.nsIn K mainGlobals "ends" = some (some (.ref f18))) (l18 : K.lookup f18 = some ⟨oc18, od18, .func (PySem.W.fnOf "ends" "ends" (defArgs (topS 17)) (defBody (topS 17)) (defScope (topS 17)) .none kV18 dc18 pm18 an18 cd18 ct18), sl18⟩) (c18 : PySem.W.codeIn K cd18 "ends" = true) (k18 : PySem.W.keepIn K (.ref f18) = true)
    (a19 : PySem.W.nsIn K mainGlobals "order_of" = some (some (.ref f19))) (l19 : K.lookup f19 = some ⟨oc19, od19, .func (PySem.W.fnOf "order_of" "order_of" (defArgs (topS 15)) (defBody (topS 15)) (defScope (topS 15)) .none kV19 dc19 pm19 an19 cd19 ct19), sl19⟩) (c19 : PySem.W.codeIn K cd19 "order_of" = true) (k19 : PySem.W.keepIn K (.ref f19) = true)
    (a20 : PySem.W.nsIn K mainGlobals "order" = some (some (.ref f20))) (l20 : K.lookup f20 = some ⟨oc20, od20, .func (PySem.W.fnOf "order" "order" (defArgs (topS 16)) (defBody (topS 16)) (defScope (topS 16)) .none kV20 dc20 pm20 an20 cd20 ct20), sl20⟩) (c20 : PySem.W.codeIn K cd20 "order" = true) (k20 : PySem.W.keepIn K (.ref f20) = true)
    (a21 : PySem.W.nsIn K mainGlobals "_law_gap" = some (some (.ref f21))) (l21 : K.lookup f21 = some ⟨oc21, od21, .func (PySem.W.fnOf "_law_gap" "_law_gap" (defArgs (topS 33)) (defBody (topS 33)) (defScope (topS 33)) .none kV21 dc21 pm21 an21 cd21 ct21), sl21⟩) (c21 : PySem.W.codeIn K cd21 "_law_gap" = true) (k21 : PySem.W.keepIn K (.ref f21) = true)
    (a22 : PySem.W.nsIn K mainGlobals "_law_lots" = some (some (.ref f22))) (l22 : K.lookup f22 = some ⟨oc22, od22, .func (PySem.W.fnOf "_law_lots" "_law_lots" (defArgs (topS 34)) (defBody (topS 34)) (defScope (topS 34)) .none kV22 dc22 pm22 an22 cd22 ct22), sl22⟩) (c22 : PySem.W.codeIn K cd22 "_law_lots" = true) (k22 : PySem.W.keepIn K (.ref f22) = true)
    (a23 : PySem.W.nsIn K mainGlobals "taken" = some (some (.ref f23))) (l23 : K.lookup f23 = some ⟨oc23, od23, .func (PySem.W.fnOf "taken" "taken" (defArgs (topS 14)) (defBody (topS 14)) (defScope (topS 14)) .none kV23 dc23 pm23 an23 cd23 ct23), sl23⟩) (c23 : PySem.W.codeIn K cd23 "taken" = true) (k23 : PySem.W.keepIn K (.ref f23) = true)
    (a24 : PySem.W.nsIn K mainGlobals "crossings_of" = some (some (.ref f24))) (l24 : K.lookup f24 = some ⟨oc24, od24, .func (PySem.W.fnOf "crossings_of" "crossings_of" (defArgs (topS 12)) (defBody (topS 12)) (defScope (topS 12)) .none kV24 dc24 pm24 an24 cd24 ct24), sl24⟩) (c24 : PySem.W.codeIn K cd24 "crossings_of" = true) (k24 : PySem.W.keepIn K (.ref f24) = true)
    (a25 : PySem.W.nsIn K mainGlobals "lots_of" = some (some (.ref f25))) (l25 : K.lookup f25 = some ⟨oc25, od25, .func (PySem.W.fnOf "lots_of" "lots_of" (defArgs (topS 18)) (defBody (topS 18)) (defScope (topS 18)) .none kV25 dc25 pm25 an25 cd25 ct25), sl25⟩) (c25 : PySem.W.codeIn K cd25 "lots_of" = true) (k25 : PySem.W.keepIn K (.ref f25) = true)
    (a26 : PySem.W.nsIn K mainGlobals "lots" = some (some (.ref f26))) (l26 : K.lookup f26 = some ⟨oc26, od26, .func (PySem.W.fnOf "lots" "lots" (defArgs (topS 19)) (defBody (topS 19)) (defScope (topS 19)) .none kV26 dc26 pm26 an26 cd26 ct26), sl26⟩) (c26 : PySem.W.codeIn K cd26 "lots" = true) (k26 : PySem.W.keepIn K (.ref f26) = true)
    (a27 : PySem.W.nsIn K mainGlobals "count_plans" = some (some (.ref f27))) (l27 : K.lookup f27 = some ⟨oc27, od27, .func (PySem.W.fnOf "count_plans" "count_plans" (defArgs (topS 24)) (defBody (topS 24)) (defScope (topS 24)) .none kV27 dc27 pm27 an27 cd27 ct27), sl27⟩) (c27 : PySem.W.codeIn K cd27 "count_plans" = true) (k27 : PySem.W.keepIn K (.ref f27) = true)
    (a28 : PySem.W.nsIn K mainGlobals "law" = some (some (.ref f28))) (l28 : K.lookup f28 = some ⟨oc28, od28, .func (PySem.W.fnOf "law" "law" (defArgs (topS 36)) (defBody (topS 36)) (defScope (topS 36)) .none kV28 dc28 pm28 an28 cd28 ct28), sl28⟩) (c28 : PySem.W.codeIn K cd28 "law" = true) (k28 : PySem.W.keepIn K (.ref f28) = true)
    (z_int : PySem.W.nsIn K mainGlobals "int" = some none)
    (z_len : PySem.W.nsIn K mainGlobals "len" = some none)
    (z_range : PySem.W.nsIn K mainGlobals "range" = some none)
    (z_min : PySem.W.nsIn K mainGlobals "min" = some none)
    (z_isinstance : PySem.W.nsIn K mainGlobals "isinstance" = some none)
    (z_bool : PySem.W.nsIn K mainGlobals "bool" = some none)
    (z_tuple : PySem.W.nsIn K mainGlobals "tuple" = some none)
    (z_list : PySem.W.nsIn K mainGlobals "list" = some none)
    (z_str : PySem.W.nsIn K mainGlobals "str" = some none)
    (z_sorted : PySem.W.nsIn K mainGlobals "sorted" = some none)
    (g_MOST_SIDE : PySem.W.nsIn K mainGlobals "MOST_SIDE" = some (some (.int 12 t_MOST_SIDE))) :
    ∃ fd : FuncData, (∀ (s : Shared) (v : Value), BindsTo s fd ⟨[v], []⟩ [("_law_script", v)]) ∧ ∀ base : Heap, K.In base → base.Ns mainGlobals mg → FnOk l.prog w K mg base (L2.CX l.prog w) 8 fa fd ["_law_script"] (spF K 1 F_law) := by
  have e := hfa.symm.trans (PySem.W.mg_of X G a28)
  cases e
  have B : Bn mg := ⟨PySem.W.mg_none_of X G z_int, PySem.W.mg_none_of X G z_len, PySem.W.mg_none_of X G z_range, PySem.W.mg_none_of X G z_min, PySem.W.mg_none_of X G z_isinstance, PySem.W.mg_none_of X G z_bool, PySem.W.mg_none_of X G z_tuple, PySem.W.mg_none_of X G z_list, PySem.W.mg_none_of X G z_str, PySem.W.mg_none_of X G z_sorted⟩
  have F0 := fun_mk (st := topS 26) l0 c0 k0
  have b0 := F0.binds (ps := ["_law_row_here", "_law_many"]) fun _ _ _ _ _ _ us hl => match us, hl with | [_, _], _ => rfl
  have F1 := fun_mk (st := topS 30) l1 c1 k1
  have b1 := F1.binds (ps := ["_law_town_here"]) fun _ _ _ _ _ _ us hl => match us, hl with | [_], _ => rfl
  have F2 := fun_mk (st := topS 27) l2 c2 k2
  have b2 := F2.binds (ps := ["_law_row_here", "_law_things"]) fun _ _ _ _ _ _ us hl => match us, hl with | [_, _], _ => rfl
  have F3 := fun_mk (st := topS 29) l3 c3 k3
  have b3 := F3.binds (ps := ["_law_row_here", "_law_side", "_law_most"]) fun _ _ _ _ _ _ us hl => match us, hl with | [_, _, _], _ => rfl
  have F4 := fun_mk (st := topS 6) l4 c4 k4
  have b4 := F4.binds (ps := ["value", "low", "high"]) fun _ _ _ _ _ _ us hl => match us, hl with | [_, _, _], _ => rfl
  have F5 := fun_mk (st := topS 7) l5 c5 k5
  have b5 := F5.binds (ps := ["width", "height", "value"]) fun _ _ _ _ _ _ us hl => match us, hl with | [_, _, _], _ => rfl
  have F6 := fun_mk (st := topS 8) l6 c6 k6
  have b6 := F6.binds (ps := ["value"]) fun _ _ _ _ _ _ us hl => match us, hl with | [_], _ => rfl
  have F7 := fun_mk (st := topS 9) l7 c7 k7
  have b7 := F7.binds (ps := ["value"]) fun _ _ _ _ _ _ us hl => match us, hl with | [_], _ => rfl
  have F8 := fun_mk (st := topS 31) l8 c8 k8
  have b8 := F8.binds (ps := ["_law_town_here", "_law_place", "_law_step"]) fun _ _ _ _ _ _ us hl => match us, hl with | [_, _, _], _ => rfl
  have F9 := fun_mk (st := topS 35) l9 c9 k9
  have b9 := F9.binds (ps := ["_law_town_here"]) fun _ _ _ _ _ _ us hl => match us, hl with | [_], _ => rfl
  have F10 := fun_mk (st := topS 10) l10 c10 k10
  have b10 := F10.binds (ps := ["value"]) fun _ _ _ _ _ _ us hl => match us, hl with | [_], _ => rfl
  have F11 := fun_mk (st := topS 13) l11 c11 k11
  have b11 := F11.binds (ps := ["town", "one", "other"]) fun _ _ _ _ _ _ us hl => match us, hl with | [_, _, _], _ => rfl
  have F12 := fun_mk (st := topS 20) l12 c12 k12
  have b12 := F12.binds (ps := ["town"]) fun _ _ _ _ _ _ us hl => match us, hl with | [_], _ => rfl
  have F13 := fun_mk (st := topS 21) l13 c13 k13
  have b13 := F13.binds (ps := ["town"]) fun _ _ _ _ _ _ us hl => match us, hl with | [_], _ => rfl
  have F14 := fun_mk (st := topS 22) l14 c14 k14
  have b14 := F14.binds (ps := ["town"]) fun _ _ _ _ _ _ us hl => match us, hl with | [_], _ => rfl
  have F15 := fun_mk (st := topS 28) l15 c15 k15
  have b15 := F15.binds (ps := ["_law_found", "_law_due"]) fun _ _ _ _ _ _ us hl => match us, hl with | [_, _], _ => rfl
  have F16 := fun_mk (st := topS 32) l16 c16 k16
  have b16 := F16.binds (ps := ["_law_town_here", "_law_step"]) fun _ _ _ _ _ _ us hl => match us, hl with | [_, _], _ => rfl
  have F17 := fun_mk (st := topS 11) l17 c17 k17
  have b17 := F17.binds (ps := ["town", "value"]) fun _ _ _ _ _ _ us hl => match us, hl with | [_, _], _ => rfl
  have F18 := fun_mk (st := topS 17) l18 c18 k18
  have b18 := F18.binds (ps := ["town", "crossing"]) fun _ _ _ _ _ _ us hl => match us, hl with | [_, _], _ => rfl
  have F19 := fun_mk (st := topS 15) l19 c19 k19
  have b19 := F19.binds (ps := ["town", "one"]) fun _ _ _ _ _ _ us hl => match us, hl with | [_, _], _ => rfl
  have F20 := fun_mk (st := topS 16) l20 c20 k20
  have b20 := F20.binds (ps := ["town", "crossing"]) fun _ _ _ _ _ _ us hl => match us, hl with | [_, _], _ => rfl
  have F21 := fun_mk (st := topS 33) l21 c21 k21
  have b21 := F21.binds (ps := ["_law_town_here"]) fun _ _ _ _ _ _ us hl => match us, hl with | [_], _ => rfl
  have F22 := fun_mk (st := topS 34) l22 c22 k22
  have b22 := F22.binds (ps := ["_law_town_here"]) fun _ _ _ _ _ _ us hl => match us, hl with | [_], _ => rfl
  have F23 := fun_mk (st := topS 14) l23 c23 k23
  have b23 := F23.binds (ps := ["town", "one", "other"]) fun _ _ _ _ _ _ us hl => match us, hl with | [_, _, _], _ => rfl
  have F24 := fun_mk (st := topS 12) l24 c24 k24
  have b24 := F24.binds (ps := ["town"]) fun _ _ _ _ _ _ us hl => match us, hl with | [_], _ => rfl
  have F25 := fun_mk (st := topS 18) l25 c25 k25
  have b25 := F25.binds (ps := ["town"]) fun _ _ _ _ _ _ us hl => match us, hl with | [_], _ => rfl
  have F26 := fun_mk (st := topS 19) l26 c26 k26
  have b26 := F26.binds (ps := ["town"]) fun _ _ _ _ _ _ us hl => match us, hl with | [_], _ => rfl
  have F27 := fun_mk (st := topS 24) l27 c27 k27
  have b27 := F27.binds (ps := ["town"]) fun _ _ _ _ _ _ us hl => match us, hl with | [_], _ => rfl
  have F28 := fun_mk (st := topS 36) l28 c28 k28
  refine ⟨PySem.W.fnOf "law" "law" (defArgs (topS 36)) (defBody (topS 36)) (defScope (topS 36)) .none kV28 dc28 pm28 an28 cd28 ct28, fun s v => .of_eq rfl, fun base _ _ => ?_⟩
  have C__law_taken : Cal l.prog w K mg base "_law_taken" 1 ["_law_row_here", "_law_many"] F_law_taken f0 _ := ⟨ok_law_taken F0 B, PySem.W.mg_of X G a0, k0, b0⟩
  have C__law_crossings : Cal l.prog w K mg base "_law_crossings" 1 ["_law_town_here"] F_law_crossings f1 _ := ⟨ok_law_crossings F1 B, PySem.W.mg_of X G a1, k1, b1⟩
  have C__law_pick : Cal l.prog w K mg base "_law_pick" 2 ["_law_row_here", "_law_things"] F_law_pick f2 _ := ⟨ok_law_pick F2 B C__law_taken, PySem.W.mg_of X G a2, k2, b2⟩
  have C__law_town : Cal l.prog w K mg base "_law_town" 3 ["_law_row_here", "_law_side", "_law_most"] F_law_town f3 _ := ⟨ok_law_town F3 B C__law_taken C__law_crossings C__law_pick, PySem.W.mg_of X G a3, k3, b3⟩
  have C_is_number : Cal l.prog w K mg base "is_number" 1 ["value", "low", "high"] F_is_number f4 _ := ⟨ok_is_number F4 B, PySem.W.mg_of X G a4, k4, b4⟩
  have C_is_spot : Cal l.prog w K mg base "is_spot" 2 ["width", "height", "value"] F_is_spot f5 _ := ⟨ok_is_spot F5 B C_is_number, PySem.W.mg_of X G a5, k5, b5⟩
  have C_wrong_town : Cal l.prog w K mg base "wrong_town" 3 ["value"] F_wrong_town f6 _ := ⟨ok_wrong_town F6 B C_is_number C_is_spot (PySem.W.mg_of X G g_MOST_SIDE), PySem.W.mg_of X G a6, k6, b6⟩
  have C_is_town : Cal l.prog w K mg base "is_town" 4 ["value"] F_is_town f7 _ := ⟨ok_is_town F7 B C_wrong_town, PySem.W.mg_of X G a7, k7, b7⟩
  have C__law_led : Cal l.prog w K mg base "_law_led" 1 ["_law_town_here", "_law_place", "_law_step"] F_law_led f8 _ := ⟨ok_law_led F8 B, PySem.W.mg_of X G a8, k8, b8⟩
  have C__law_is_whole : Cal l.prog w K mg base "_law_is_whole" 2 ["_law_town_here"] F_law_is_whole f9 _ := ⟨ok_law_is_whole F9 B C__law_led, PySem.W.mg_of X G a9, k9, b9⟩
  have C_need_town : Cal l.prog w K mg base "need_town" 4 ["value"] F_need_town f10 _ := ⟨ok_need_town F10 B C_wrong_town, PySem.W.mg_of X G a10, k10, b10⟩
  have C_added : Cal l.prog w K mg base "added" 1 ["town", "one", "other"] F_added f11 _ := ⟨ok_added F11 B, PySem.W.mg_of X G a11, k11, b11⟩
  have C_reached_of : Cal l.prog w K mg base "reached_of" 2 ["town"] F_reached_of f12 _ := ⟨ok_reached_of F12 B C_added, PySem.W.mg_of X G a12, k12, b12⟩
  have C_is_whole_of : Cal l.prog w K mg base "is_whole_of" 3 ["town"] F_is_whole_of f13 _ := ⟨ok_is_whole_of F13 B C_reached_of, PySem.W.mg_of X G a13, k13, b13⟩
  have C_is_whole : Cal l.prog w K mg base "is_whole" 5 ["town"] F_is_whole f14 _ := ⟨ok_is_whole F14 B C_need_town C_is_whole_of, PySem.W.mg_of X G a14, k14, b14⟩
  have C__law_alike : Cal l.prog w K mg base "_law_alike" 7 ["_law_found", "_law_due"] (F_law_alike 6) f15 _ := ⟨ok_law_alike F15 B (PySem.W.mg_of X G a15) b15 6, PySem.W.mg_of X G a15, k15, b15⟩
  have C__law_row : Cal l.prog w K mg base "_law_row" 2 ["_law_town_here", "_law_step"] F_law_row f16 _ := ⟨ok_law_row F16 B C__law_led, PySem.W.mg_of X G a16, k16, b16⟩
  have C_need_crossing : Cal l.prog w K mg base "need_crossing" 3 ["town", "value"] F_need_crossing f17 _ := ⟨ok_need_crossing F17 B C_is_spot, PySem.W.mg_of X G a17, k17, b17⟩
  have C_ends : Cal l.prog w K mg base "ends" 5 ["town", "crossing"] F_ends f18 _ := ⟨ok_ends F18 B C_need_town C_need_crossing C_added, PySem.W.mg_of X G a18, k18, b18⟩
  have C_order_of : Cal l.prog w K mg base "order_of" 2 ["town", "one"] F_order_of f19 _ := ⟨ok_order_of F19 B C_added, PySem.W.mg_of X G a19, k19, b19⟩
  have C_order : Cal l.prog w K mg base "order" 5 ["town", "crossing"] F_order f20 _ := ⟨ok_order F20 B C_need_town C_need_crossing C_order_of, PySem.W.mg_of X G a20, k20, b20⟩
  have C__law_gap : Cal l.prog w K mg base "_law_gap" 1 ["_law_town_here"] F_law_gap f21 _ := ⟨ok_law_gap F21 B, PySem.W.mg_of X G a21, k21, b21⟩
  have C__law_lots : Cal l.prog w K mg base "_law_lots" 3 ["_law_town_here"] F_law_lots f22 _ := ⟨ok_law_lots F22 B C__law_gap C__law_row C__law_crossings C__law_led, PySem.W.mg_of X G a22, k22, b22⟩
  have C_taken : Cal l.prog w K mg base "taken" 1 ["town", "one", "other"] F_taken f23 _ := ⟨ok_taken F23 B, PySem.W.mg_of X G a23, k23, b23⟩
  have C_crossings_of : Cal l.prog w K mg base "crossings_of" 1 ["town"] F_crossings_of f24 _ := ⟨ok_crossings_of F24 B, PySem.W.mg_of X G a24, k24, b24⟩
  have C_lots_of : Cal l.prog w K mg base "lots_of" 2 ["town"] F_lots_of f25 _ := ⟨ok_lots_of F25 B C_taken C_crossings_of C_added, PySem.W.mg_of X G a25, k25, b25⟩
  have C_lots : Cal l.prog w K mg base "lots" 5 ["town"] F_lots f26 _ := ⟨ok_lots F26 B C_need_town C_lots_of, PySem.W.mg_of X G a26, k26, b26⟩
  have C_count_plans : Cal l.prog w K mg base "count_plans" 5 ["town"] F_count_plans f27 _ := ⟨ok_count_plans F27 B C_need_town C_lots_of, PySem.W.mg_of X G a27, k27, b27⟩
  exact ok_law F28 B C__law_town C_is_town C__law_is_whole C_is_whole C__law_alike C__law_crossings C__law_pick C__law_led C__law_row C_ends C_order C__law_lots C_lots C_count_plans
end Pw
set_option maxRecDepth 100000
namespace Pw
open PySem PySem.Spec L2 Pv
theorem added_eq (w h x y u v : Int) (A B : PyData) (hw : w ≠ 0) (hh : h ≠ 0) :
    F_added [.val (.tuple [.int w, .int h, A, B]), .val (.tuple [.int x, .int y]), .val (.tuple [.int u, .int v])] = .ok (.val (.tuple [.int ((x + u).fmod w), .int ((y + v).fmod h)])) none := by
  simp [F_added, g_added, hw, hh]
/-- the script's row -/
structure Rw where
  i : Nat
  s : Int
  k : Int
def rwD (ns : List Int) (r : Rw) : MO := .lst [.list (ns.map .int), .int r.i, .int r.s, .int r.k]
theorem fmod_in (z many : Int) (h : 1 ≤ many) : 0 ≤ z.fmod many ∧ z.fmod many < many := ⟨Int.fmod_nonneg_of_pos _ (by omega), Int.fmod_lt_of_pos _ (by omega)⟩
theorem taken_row (ns : List Int) (r : Rw) (many : Int) (hm : 1 ≤ many) (hm2 : many < 100000) (hl : ns.length ≤ 63) :
    ∃ z r', F_law_taken [.lent (rwD ns r), .val (.int many)] = .ok (.val (.int z)) (some (rwD ns r')) ∧ 0 ≤ z ∧ z < many := by
  have hm0 : many ≠ 0 := by omega
  have ha : many.natAbs < 1073741824 := by omega
  obtain ⟨i, s, k⟩ := r
  unfold rwD
  by_cases h1 : 0 < k
  · refine ⟨k.fmod many, ⟨i, s, k.fdiv many⟩, ?_, fmod_in _ _ hm⟩
    simp [F_law_taken, g_law_taken, hm0, ha, h1]
  · by_cases h2 : ns.length < i + 1
    · refine ⟨(((s * 48271 + 11).fmod 2147483647).fdiv 7).fmod many, ⟨i + 1, (s * 48271 + 11).fmod 2147483647, k⟩, ?_, fmod_in _ _ hm⟩
      have h3 : (ns.length : Int) < (i : Int) + 1 := by omega
      simp [F_law_taken, g_law_taken, hm0, ha, h1, h3]
    · have h3 : ¬ (ns.length : Int) < (i : Int) + 1 := by omega
      have hi : i < ns.length := by omega
      have e : (ns.map PyData.int)[i]? = some (.int ns[i]) := by rw [List.getElem?_map, List.getElem?_eq_getElem hi]; rfl
      have ea : (i : Int) + 1 - 1 = (i : Nat) := by omega
      by_cases h4 : (10 : Int) ^ 18 ≤ ns[i]
      · refine ⟨ns[i].fmod many, ⟨i + 1, (s * 48271 + ns[i] + 11).fmod 2147483647, ns[i].fdiv many⟩, ?_, fmod_in _ _ hm⟩
        have h4' : (1000000000000000000 : Int) ≤ ns[i] := by simpa using h4
        simp [F_law_taken, g_law_taken, hm0, ha, h1, h3, ea, atI_nat', e, h4']
      · refine ⟨ns[i].fmod many, ⟨i + 1, (s * 48271 + ns[i] + 11).fmod 2147483647, k⟩, ?_, fmod_in _ _ hm⟩
        have h4' : ¬ (1000000000000000000 : Int) ≤ ns[i] := by simpa using h4
        simp [F_law_taken, g_law_taken, hm0, ha, h1, h3, ea, atI_nat', e, h4']
end Pw
set_option maxRecDepth 100000
namespace Pw
open PySem PySem.Spec L2 Pv
abbrev P2 := Int × Int
def pE (p : P2) : PyData := .tuple [.int p.1, .int p.2]
def crs (w h : Nat) : List P2 := (List.range w).flatMap fun x : Nat => (List.range h).map fun y : Nat => ((x : Int), (y : Int))
theorem rangeD_map (n : Nat) : rangeD 0 n = (List.range n).map fun i => PyData.int (i : Nat) := by
  unfold rangeD
  apply List.map_congr_left
  intro a _
  simp
theorem crs_length (w h : Nat) : (crs w h).length = w * h := by
  unfold crs
  induction w with
  | zero => simp
  | succ n ih =>
    rw [List.range_succ, List.flatMap_append, List.length_append, ih]
    simp
    rw [Nat.succ_mul]
theorem filt_true {α : Type} (l : List α) : (l.filter fun _ => true) = l := List.filter_eq_self.mpr (by simp)
theorem crossings_of_eq (w h : Nat) (A B : PyData) (hw : w ≤ 200) (hh : h ≤ 200) : F_crossings_of [.val (.tuple [.int w, .int h, A, B])] = .ok (.own (.lst ((crs w h).map pE))) none := by
  have r1 := okR_nat w (by omega)
  have r2 := okR_nat h (by omega)
  have key := lc2L_pure (tg := gtName 1) (tg1 := gtName 2) (fi1 := fIRng1 (rCons (fOp gIx (fVar 0) (fC (.int 1))) rNil)) (tt1 := fYes) (el := fTup (fCons (fVar 1) (fCons (fVar 2) fNil))) (vs := [1, 2]) (vs1 := [2])
    (ρ := [.val (.tuple [.int w, .int h, A, B]), .no, .no]) (fun i : Nat => PyData.int i) (fun i : Nat => PyData.int i) (fun i => [.val (.tuple [.int w, .int h, A, B]), .val (.int i), .no]) (fun i => [.val (.tuple [.int w, .int h, A, B]), .val (.int i), .no])
    (fun _ => List.range h) (fun i j => [.val (.tuple [.int w, .int h, A, B]), .val (.int i), .val (.int j)]) (fun _ _ => true) (fun i j => pE (i, j)) (List.range w) 0 (by
      have e : ((List.range w).flatMap fun _ : Nat => List.range h).length = w * h := by
        rw [← crs_length w h]
        unfold crs
        rw [List.length_flatMap, List.length_flatMap]
        simp
      have := Nat.mul_le_mul hw hh
      rw [e]
      omega) (by
      intro a _
      refine ⟨by simp, by simp [r2, rangeD_map], by simp, by simp, fun c _ => ⟨by simp, rfl, fun _ => by simp [pE], by simp⟩⟩)
  simp [F_crossings_of, g_crossings_of, r1, rangeD_map, key]
  simp [crs, List.map_flatMap, pE, filt_true, Function.comp_def]
end Pw
set_option maxRecDepth 100000
namespace Pw
open PySem PySem.Spec L2 Pv
section
variable {p q a b : P2} {w h : Nat} {T : String}
def tE (w h : Nat) (a b : P2) : PyData := .tuple [.int w, .int h, pE a, pE b]
def ad (w h : Nat) (p q : P2) : P2 := ((p.1 + q.1) % w, (p.2 + q.2) % h)
def sb (w h : Nat) (p q : P2) : P2 := ((p.1 - q.1) % w, (p.2 - q.2) % h)
@[simp] theorem gIx_p0 : gIx (pE p) (.int 0) = some (.val (.int p.1)) := rfl
@[simp] theorem gIx_p1 : gIx (pE p) (.int 1) = some (.val (.int p.2)) := rfl
@[simp] theorem gIx_t0 : gIx (tE w h a b) (.int 0) = some (.val (.int w)) := rfl
@[simp] theorem gIx_t1 : gIx (tE w h a b) (.int 1) = some (.val (.int h)) := rfl
@[simp] theorem gIx_t2 : gIx (tE w h a b) (.int 2) = some (.val (pE a)) := rfl
@[simp] theorem gIx_t3 : gIx (tE w h a b) (.int 3) = some (.val (pE b)) := rfl
@[simp] theorem isi_pE : isiD (pE p) T = ("tuple" == T || (T == "int" && "tuple" == "bool")) := rfl
@[simp] theorem isi_tE : isiD (tE w h a b) T = ("tuple" == T || (T == "int" && "tuple" == "bool")) := rfl
@[simp] theorem len_pE : gLen [pE p] = some (.val (.int 2)) := rfl
@[simp] theorem len_tE : gLen [tE w h a b] = some (.val (.int 4)) := rfl
@[simp] theorem isN_pE : isNoneD (pE p) = false := rfl
theorem eqv_pE (p q : P2) : PyData.eqv (pE p) (pE q) = decide (p = q) := by
  obtain ⟨p1, p2⟩ := p
  obtain ⟨q1, q2⟩ := q
  simp only [pE, PyData.eqv, PyData.eqvAll]
  by_cases h1 : p1 = q1 <;> by_cases h2 : p2 = q2 <;> simp [h1, h2]
theorem shp_pE (p : P2) : SeqAt.shaped (pE p) = true := rfl
@[simp] theorem eqD_pE : eqD? (pE p) (pE q) = some (decide (p = q)) := by
  unfold eqD?
  rw [shp_pE, shp_pE, eqv_pE]
  rfl
@[simp] theorem gEq_pE : gEq (pE p) (pE q) = some (.val (.bool (decide (p = q)))) := by unfold gEq; rw [eqD_pE]; rfl
@[simp] theorem gNe_pE : gNe (pE p) (pE q) = some (.val (.bool (!decide (p = q)))) := by unfold gNe; rw [eqD_pE]; rfl
@[simp] theorem eqD_ii {x y : Int} : eqD? (.int x) (.int y) = some (decide (x = y)) := by
  unfold eqD?
  rw [show SeqAt.shaped (.int x) = true from rfl, show SeqAt.shaped (.int y) = true from rfl]
  simp [PyData.eqv]
  by_cases h : x = y <;> simp [h]
@[simp] theorem gEq_ii {x y : Int} : gEq (.int x) (.int y) = some (.val (.bool (decide (x = y)))) := by unfold gEq; rw [eqD_ii]; rfl
@[simp] theorem gNe_ii {x y : Int} : gNe (.int x) (.int y) = some (.val (.bool (!decide (x = y)))) := by unfold gNe; rw [eqD_ii]; rfl
@[simp] theorem eqD_bb {x y : Bool} : eqD? (.bool x) (.bool y) = some (decide (x = y)) := by
  unfold eqD?
  rw [show SeqAt.shaped (.bool x) = true from rfl, show SeqAt.shaped (.bool y) = true from rfl]
  cases x <;> cases y <;> rfl
@[simp] theorem gEq_bb {x y : Bool} : gEq (.bool x) (.bool y) = some (.val (.bool (decide (x = y)))) := by unfold gEq; rw [eqD_bb]; rfl
@[simp] theorem gNe_bb {x y : Bool} : gNe (.bool x) (.bool y) = some (.val (.bool (!decide (x = y)))) := by unfold gNe; rw [eqD_bb]; rfl
/-- tuple [x, y] is a point -/
theorem tup_pE (x y : Int) : PyData.tuple [.int x, .int y] = pE (x, y) := rfl
theorem fm (x : Int) (n : Nat) : x.fmod n = x % n := Int.fmod_eq_emod_of_nonneg _ (by omega)
variable (hw : 0 < w) (hh : 0 < h)
include hw hh
theorem F_added_eq : F_added [.val (tE w h a b), .val (pE p), .val (pE q)] = .ok (.val (pE (ad w h p q))) none := by
  have h1 : (w : Int) ≠ 0 := by omega
  have h2 : (h : Int) ≠ 0 := by omega
  have h3 : w ≠ 0 := by omega
  have h4 : h ≠ 0 := by omega
  simp [F_added, g_added, h1, h2, h3, h4, fm, tup_pE, ad]
theorem F_taken_eq : F_taken [.val (tE w h a b), .val (pE p), .val (pE q)] = .ok (.val (pE (sb w h p q))) none := by
  have h1 : (w : Int) ≠ 0 := by omega
  have h2 : (h : Int) ≠ 0 := by omega
  have h3 : w ≠ 0 := by omega
  have h4 : h ≠ 0 := by omega
  simp [F_taken, g_taken, h1, h2, h3, h4, fm, tup_pE, sb]
theorem F_led_eq : F_law_led [.val (tE w h a b), .val (pE p), .val (pE q)] = .ok (.val (pE (ad w h p q))) none := by
  have h1 : (w : Int) ≠ 0 := by omega
  have h2 : (h : Int) ≠ 0 := by omega
  have h3 : w ≠ 0 := by omega
  have h4 : h ≠ 0 := by omega
  simp [F_law_led, g_law_led, h1, h2, h3, h4, fm, tup_pE, ad]
theorem F_gap_eq : F_law_gap [.val (tE w h a b)] = .ok (.val (pE (sb w h a b))) none := by
  have h1 : (w : Int) ≠ 0 := by omega
  have h2 : (h : Int) ≠ 0 := by omega
  have h3 : w ≠ 0 := by omega
  have h4 : h ≠ 0 := by omega
  simp [F_law_gap, g_law_gap, h1, h2, h3, h4, fm, tup_pE, sb]
omit hw hh
theorem F_is_number_eq (x lo hi : Int) : F_is_number [.val (.int x), .val (.int lo), .val (.int hi)] = .ok (.val (.bool (decide (lo ≤ x ∧ x ≤ hi)))) none := by
  by_cases h1 : lo ≤ x <;> simp [F_is_number, g_is_number, h1]
theorem F_is_spot_eq : F_is_spot [.val (.int w), .val (.int h), .val (pE p)] = .ok (.val (.bool (decide ((0 ≤ p.1 ∧ p.1 ≤ w - 1) ∧ 0 ≤ p.2 ∧ p.2 ≤ h - 1)))) none := by
  by_cases h1 : 0 ≤ p.1 ∧ p.1 ≤ (w : Int) - 1 <;> simp [F_is_spot, g_is_spot, F_is_number_eq, h1]
structure TOk (w h : Nat) (a b : P2) : Prop where
  w1 : 1 ≤ w
  h1 : 1 ≤ h
  w2 : w ≤ 12
  h2 : h ≤ 12
  wh : 2 ≤ w * h
  a1 : 0 ≤ a.1 ∧ a.1 < w
  a2 : 0 ≤ a.2 ∧ a.2 < h
  b1 : 0 ≤ b.1 ∧ b.1 < w
  b2 : 0 ≤ b.2 ∧ b.2 < h
  ne : a ≠ b
@[simp] theorem gtTup_tE {n : Nat} {gs : GsF} {ρ : Rho} : gtTup n gs (tE w h a b) ρ = (if 4 = n then gs [.int w, .int h, pE a, pE b] ρ else none) := rfl
theorem F_wrong_town_eq (t : TOk w h a b) : F_wrong_town [.val (tE w h a b)] = .ok (.val .none) none := by
  obtain ⟨w1, h1, w2, h2, wh, a1, a2, b1, b2, ne⟩ := t
  have e1 : (1 : Int) ≤ w := by omega
  have e2 : (1 : Int) ≤ h := by omega
  have e3 : (w : Int) ≤ 12 := by omega
  have e4 : (h : Int) ≤ 12 := by omega
  have e5 : ¬ (w : Int) * h < 2 := by
    have : ((w * h : Nat) : Int) = (w : Int) * h := by simp
    omega
  have s1 := sm_nat w (by omega)
  have e6 : a.1 ≤ (w : Int) - 1 := by omega
  have e7 : a.2 ≤ (h : Int) - 1 := by omega
  have e8 : b.1 ≤ (w : Int) - 1 := by omega
  have e9 : b.2 ≤ (h : Int) - 1 := by omega
  have f1 : 1 ≤ w := w1
  simp [F_wrong_town, g_wrong_town, F_is_number_eq, F_is_spot_eq, e1, e2, e3, e4, e5, s1, e6, e7, e8, e9, a1.1, a2.1, b1.1, b2.1, ne, w1, w2, h1, h2]
theorem F_is_town_eq (t : TOk w h a b) : F_is_town [.val (tE w h a b)] = .ok (.val (.bool true)) none := by
  simp [F_is_town, g_is_town, F_wrong_town_eq t]
theorem F_need_town_eq (t : TOk w h a b) : F_need_town [.val (tE w h a b)] = .ok (.val .none) none := by
  simp [F_need_town, g_need_town, F_wrong_town_eq t]
theorem F_need_crossing_eq (t : TOk w h a b) (hp : (0 ≤ p.1 ∧ p.1 < w) ∧ 0 ≤ p.2 ∧ p.2 < h) : F_need_crossing [.val (tE w h a b), .val (pE p)] = .ok (.val .none) none := by
  have e6 : p.1 ≤ (w : Int) - 1 := by omega
  have e7 : p.2 ≤ (h : Int) - 1 := by omega
  simp [F_need_crossing, g_need_crossing, F_is_spot_eq, e6, e7, hp.1.1, hp.2.1]
theorem F_ends_eq (t : TOk w h a b) (hp : (0 ≤ p.1 ∧ p.1 < w) ∧ 0 ≤ p.2 ∧ p.2 < h) : F_ends [.val (tE w h a b), .val (pE p)] = .ok (.val (.tuple [pE (ad w h p a), pE (ad w h p b)])) none := by
  simp [F_ends, g_ends, F_need_town_eq t, F_need_crossing_eq t hp, F_added_eq (show 0 < w from t.w1) (show 0 < h from t.h1)]
end
end Pw
set_option maxRecDepth 100000
namespace Pw
open PySem PySem.Spec L2 Pv
section
variable {p q a b : P2} {w h : Nat}
def crsX (n : Nat) (h : Nat) : List P2 := (List.range n).flatMap fun x : Nat => (List.range h).map fun y : Nat => ((x : Int), (y : Int))
theorem crsX_succ (n h : Nat) : crsX (n + 1) h = crsX n h ++ (List.range h).map fun y : Nat => ((n : Int), (y : Int)) := by
  unfold crsX
  rw [List.range_succ, List.flatMap_append]
  simp
def tW (w h : Nat) : PyData := .tuple [.int w, .int h]
/-- the two that begin a town -/
structure Wh (T : PyData) (w h : Nat) : Prop where
  i0 : gIx T (.int 0) = some (.val (.int w))
  i1 : gIx T (.int 1) = some (.val (.int h))
theorem wh_tE : Wh (tE w h a b) w h := ⟨rfl, rfl⟩
theorem wh_tW : Wh (tW w h) w h := ⟨rfl, rfl⟩
theorem F_crossings_eq {T : PyData} (t : Wh T w h) (hw : w ≤ 200) (hh : h ≤ 200) : F_law_crossings [.val T] = .ok (.own (.lst ((crs w h).map pE))) none := by
  have r1 := okR_nat w (by omega)
  have r2 := okR_nat h (by omega)
  have key2 : ∀ i : Nat, lcL (gtName 3) fYes (fTup (fCons (fVar 2) (fCons (fVar 3) fNil))) [3] ((List.range h).map fun i : Nat => PyData.int i) [.val T, .own (.lst ((crsX i h).map pE)), .val (.int i), .no] = .ok ((List.range h).map fun y : Nat => pE ((i : Int), (y : Int))) [.val T, .own (.lst ((crsX i h).map pE)), .val (.int i), .no] := by
    intro i
    have z := lcL_pure (tg := gtName 3) (tt := fYes) (el := fTup (fCons (fVar 2) (fCons (fVar 3) fNil))) (vs := [3]) (ρ := [.val T, .own (.lst ((crsX i h).map pE)), .val (.int i), .no]) (fun i : Nat => PyData.int i) (fun y => [.val T, .own (.lst ((crsX i h).map pE)), .val (.int i), .val (.int y)]) (fun _ => true) (fun y : Nat => pE ((i : Int), (y : Int))) (List.range h) (by
      intro y _
      exact ⟨by simp, rfl, fun _ => by simp [pE], by simp⟩)
    rw [filt_true] at z
    exact z
  have hl : ∀ i ≤ w, (crsX i h).length ≤ 40000 := by
    intro i hi
    have e := crs_length i h
    have := Nat.mul_le_mul (Nat.le_trans hi hw) hh
    have e2 : (crsX i h).length = i * h := e
    omega
  have key := forL_idx (tg := gtName 2) (body := gSet 1 (fOp gAdd (fVar 1) (fLc (fIRng1 (rCons (fOp gIx (fVar 0) (fC (.int 1))) rNil)) (gtName 3) fYes (fTup (fCons (fVar 2) (fCons (fVar 3) fNil))) [3])))
    ((List.range w).map fun i : Nat => PyData.int i) (fun i => [.val T, .own (.lst ((crsX i h).map pE)), lv ((List.range w).map fun i : Nat => PyData.int i) i, .no]) (by
      intro i hi
      have hi' : i < w := by simpa using hi
      have l1 := hl i (by omega)
      refine ⟨[.val T, .own (.lst ((crsX i h).map pE)), .val (.int i), .no], by simp, .inl ?_⟩
      rw [lv_succ hi]
      simp [t.i1, r2, rangeD_map, key2, crsX_succ, Function.comp_def]
      have : h ≤ 16777216 := by omega
      have : (crsX i h).length + h ≤ 16777216 := by omega
      simp [*])
  simp only [List.length_map, List.length_range] at key
  have e0 : lv ((List.range w).map fun i : Nat => PyData.int i) 0 = .no := rfl
  have e1 : crsX 0 h = [] := rfl
  simp only [e0, e1, List.map_nil] at key
  have hz : isLent (lv ((List.range w).map fun i : Nat => PyData.int i) w) = false := isL_lv
  simp [F_law_crossings, g_law_crossings, t.i0, r1, rangeD_map, key]
  rfl
theorem F_pick_eq (ns : List Int) (hl : ns.length ≤ 63) (r : Rw) (ds : List PyData) (h0 : ds ≠ []) (h1 : ds.length < 100000) :
    ∃ (d : PyData) (r' : Rw), F_law_pick [.lent (rwD ns r), .val (.list ds)] = .ok (.val d) (some (rwD ns r')) ∧ d ∈ ds := by
  have hp : 0 < ds.length := List.length_pos_iff.mpr h0
  obtain ⟨z, r', e, z1, z2⟩ := taken_row ns r ds.length (by omega) (by omega) hl
  obtain ⟨k, rfl⟩ := Int.eq_ofNat_of_zero_le z1
  have hk : k < ds.length := by omega
  refine ⟨ds[k], r', ?_, List.getElem_mem hk⟩
  simp [F_law_pick, g_law_pick, e, atI_nat', hk]
end
end Pw
set_option maxRecDepth 100000
namespace Pw
open PySem PySem.Spec L2 Pv
section
variable {p q a b : P2} {w h : Nat}
theorem mem_crs {p : P2} {w h : Nat} : p ∈ crs w h ↔ (0 ≤ p.1 ∧ p.1 < w) ∧ 0 ≤ p.2 ∧ p.2 < h := by
  unfold crs
  simp only [List.mem_flatMap, List.mem_map, List.mem_range]
  constructor
  · rintro ⟨x, hx, y, hy, rfl⟩
    simp
    omega
  · rintro ⟨⟨h1, h2⟩, h3, h4⟩
    obtain ⟨p1, p2⟩ := p
    simp only at h1 h2 h3 h4
    refine ⟨p1.toNat, by omega, p2.toNat, by omega, ?_⟩
    rw [Int.toNat_of_nonneg h1, Int.toNat_of_nonneg h3]
theorem other_crs (hw : 0 < w) (hh : 0 < h) (hwh : 2 ≤ w * h) (a : P2) : (crs w h).filter (fun p => !decide (p = a)) ≠ [] := by
  have key : ∃ p, p ∈ crs w h ∧ p ≠ a := by
    by_cases ha : a = (0, 0)
    · by_cases h2 : 2 ≤ w
      · exact ⟨(1, 0), mem_crs.mpr (by simp; omega), by rw [ha]; simp⟩
      · have : w = 1 := by omega
        subst this
        exact ⟨(0, 1), mem_crs.mpr (by simp; omega), by rw [ha]; simp⟩
    · exact ⟨(0, 0), mem_crs.mpr (by simp; omega), fun z => ha z.symm⟩
  obtain ⟨p, h1, h2⟩ := key
  intro z
  have : p ∈ (crs w h).filter (fun p => !decide (p = a)) := List.mem_filter.mpr ⟨h1, by simpa using h2⟩
  rw [z] at this
  cases this
theorem F_town_eq (ns : List Int) (hl : ns.length ≤ 63) (r : Rw) (side most : Nat) (s1 : 2 ≤ side) (s2 : side ≤ 12) (m1 : 2 ≤ most) (m2 : most ≤ 144) :
    ∃ (w h : Nat) (a b : P2) (r' : Rw), F_law_town [.lent (rwD ns r), .val (.int side), .val (.int most)] = .ok (.val (tE w h a b)) (some (rwD ns r')) ∧ TOk w h a b ∧ w * h ≤ most := by
  obtain ⟨M1, hM1⟩ : ∃ M, M = min side most := ⟨_, rfl⟩
  have em : (if most < side then (most : Int) else side) = (M1 : Int) := by split <;> omega
  obtain ⟨z1, r1, e1, z1a, z1b⟩ := taken_row ns r M1 (by omega) (by omega) hl
  obtain ⟨k1, rfl⟩ := Int.eq_ofNat_of_zero_le z1a
  obtain ⟨W, hW⟩ : ∃ W, W = k1 + 1 := ⟨_, rfl⟩
  have ew : (1 : Int) + (k1 : Nat) = (W : Int) := by omega
  have hw1 : W ≤ M1 := by omega
  obtain ⟨D, hD⟩ : ∃ D, D = most / W := ⟨_, rfl⟩
  have hd : 1 ≤ D := by rw [hD]; exact Nat.div_pos (by omega) (by omega)
  have hd2 : D ≤ most := by rw [hD]; exact Nat.div_le_self _ _
  have efd : (most : Int).fdiv (W : Int) = (D : Int) := by
    rw [hD, Int.fdiv_eq_ediv_of_nonneg _ (by omega)]
    simp
  obtain ⟨M2, hM2⟩ : ∃ M, M = min side D := ⟨_, rfl⟩
  have em2 : (if D < side then (D : Int) else (side : Int)) = (M2 : Int) := by split <;> omega
  obtain ⟨z2, r2, e2, z2a, z2b⟩ := taken_row ns r1 M2 (by omega) (by omega) hl
  obtain ⟨k2, rfl⟩ := Int.eq_ofNat_of_zero_le z2a
  obtain ⟨h, hH⟩ : ∃ h, h = k2 + 1 := ⟨_, rfl⟩
  have eh : (1 : Int) + (k2 : Nat) = (h : Int) := by omega
  have hh1 : h ≤ D := by omega
  have hmul : W * h ≤ most := Nat.le_trans (Nat.mul_le_mul_left _ hh1) (by rw [hD]; exact Nat.mul_div_le _ _)
  obtain ⟨w, hwd⟩ : ∃ w : Nat, w = if W * h < 2 then 2 else W := ⟨_, rfl⟩
  have wf : 1 ≤ w ∧ w ≤ 12 ∧ 2 ≤ w * h ∧ w * h ≤ most := by
    rw [hwd]
    by_cases q : W * h < 2
    · rw [if_pos q]
      have hk1 : W ≤ W * h := Nat.le_mul_of_pos_right _ (by omega)
      have hk2 : h ≤ W * h := Nat.le_mul_of_pos_left _ (by omega)
      omega
    · rw [if_neg q]
      omega
  obtain ⟨w1, w2, w3, w4⟩ := wf
  have ewi : ∀ ρ : Rho, (if (W : Int) * (h : Int) < 2 then Out.ok (R.val (PyData.int 2)) ρ else Out.ok (R.val (PyData.int W)) ρ) = .ok (.val (.int w)) ρ := by
    intro ρ
    rw [hwd]
    have e : (W : Int) * (h : Int) = ((W * h : Nat) : Int) := by simp
    rw [e]
    by_cases q : W * h < 2
    · rw [if_pos q, if_pos (by omega)]; rfl
    · rw [if_neg q, if_neg (by omega)]
  have s64 := sm_nat W (by omega)
  have hh12 : h ≤ 12 := by omega
  have ecr := F_crossings_eq (T := tW w h) wh_tW (by omega) (by omega)
  have cl : (crs w h).length = w * h := crs_length _ _
  obtain ⟨d1, r3, e3, d1m⟩ := F_pick_eq ns hl r2 ((crs w h).map pE) (by
    intro z
    have := congrArg List.length z
    simp [cl] at this
    omega) (by rw [List.length_map, cl]; omega)
  obtain ⟨a, ha, rfl⟩ := List.mem_map.mp d1m
  have hne := other_crs (w := w) (h := h) (by omega) (by omega) w3 a
  obtain ⟨d2, r4, e4, d2m⟩ := F_pick_eq ns hl r3 (((crs w h).filter (fun p => !decide (p = a))).map pE) (by
    intro z
    exact hne (List.map_eq_nil_iff.mp z)) (by
    rw [List.length_map]
    have := List.length_filter_le (fun p => !decide (p = a)) (crs w h)
    omega)
  obtain ⟨b, hb, rfl⟩ := List.mem_map.mp d2m
  obtain ⟨hb1, hb2⟩ := List.mem_filter.mp hb
  have key : lcL (gtName 7) (fB (fOp gNe (fVar 7) (fVar 6))) (fVar 7) [7] ((crs w h).map pE)
      [.lent (rwD ns r3), .val (.int side), .val (.int most), .val (.int w), .val (.int h), .val (.list ((crs w h).map pE)), .val (pE a), .no] =
      .ok (((crs w h).filter (fun p => !decide (p = a))).map pE) [.lent (rwD ns r3), .val (.int side), .val (.int most), .val (.int w), .val (.int h), .val (.list ((crs w h).map pE)), .val (pE a), .no] :=
    lcL_pure pE (fun p => [.lent (rwD ns r3), .val (.int side), .val (.int most), .val (.int w), .val (.int h), .val (.list ((crs w h).map pE)), .val (pE a), .val (pE p)]) (fun p => !decide (p = a)) pE (crs w h) (by
      intro p _
      exact ⟨by simp, by simp, fun _ => by simp, by simp⟩)
  refine ⟨w, h, a, b, r4, ?_, ⟨w1, by omega, w2, hh12, w3, (mem_crs.mp ha).1, (mem_crs.mp ha).2, (mem_crs.mp hb1).1, (mem_crs.mp hb1).2, fun z => by rw [z] at hb2; simp at hb2⟩, w4⟩
  have lw : (crs w h).length ≤ 16777216 := by omega
  have hk0 : ¬ (W : Int) = 0 := by omega
  have hk1 : ¬ W = 0 := by omega
  have ha0 : (W : Int).natAbs < 1073741824 := by omega
  have ha1 : W < 1073741824 := by omega
  have etw : PyData.tuple [.int (w : Int), .int (h : Int)] = tW w h := rfl
  simp [F_law_town, g_law_town, em, e1, ew, hk0, hk1, ha0, ha1, efd, em2, e2, eh, s64, ewi, etw, ecr, e3, key, lw, e4]
  rfl
end
end Pw
set_option maxRecDepth 100000
namespace Pw
open PySem PySem.Spec L2 Pv
section
variable {p q r g a b : P2} {w h : Nat} {i j k : Nat}
/-- k times p -/
def ml (w h k : Nat) (p : P2) : P2 := ((k * p.1) % w, (k * p.2) % h)
def inR (w h : Nat) (p : P2) : Prop := (0 ≤ p.1 ∧ p.1 < w) ∧ 0 ≤ p.2 ∧ p.2 < h
theorem ml_zero : ml w h 0 p = (0, 0) := by simp [ml]
theorem ml_one (hp : inR w h p) : ml w h 1 p = p := by
  obtain ⟨h1, h2⟩ := hp
  simp [ml, Int.emod_eq_of_lt h1.1 h1.2, Int.emod_eq_of_lt h2.1 h2.2]
theorem ad_zero (hp : inR w h p) : ad w h p (0, 0) = p := by
  obtain ⟨h1, h2⟩ := hp
  simp [ad, Int.emod_eq_of_lt h1.1 h1.2, Int.emod_eq_of_lt h2.1 h2.2]
theorem zero_ad (hp : inR w h p) : ad w h (0, 0) p = p := by
  obtain ⟨h1, h2⟩ := hp
  simp [ad, Int.emod_eq_of_lt h1.1 h1.2, Int.emod_eq_of_lt h2.1 h2.2]
theorem inR_ad (hw : 0 < w) (hh : 0 < h) : inR w h (ad w h p q) := ⟨⟨Int.emod_nonneg _ (by omega), Int.emod_lt_of_pos _ (by omega)⟩, Int.emod_nonneg _ (by omega), Int.emod_lt_of_pos _ (by omega)⟩
theorem inR_sb (hw : 0 < w) (hh : 0 < h) : inR w h (sb w h p q) := ⟨⟨Int.emod_nonneg _ (by omega), Int.emod_lt_of_pos _ (by omega)⟩, Int.emod_nonneg _ (by omega), Int.emod_lt_of_pos _ (by omega)⟩
theorem inR_ml (hw : 0 < w) (hh : 0 < h) : inR w h (ml w h k p) := ⟨⟨Int.emod_nonneg _ (by omega), Int.emod_lt_of_pos _ (by omega)⟩, Int.emod_nonneg _ (by omega), Int.emod_lt_of_pos _ (by omega)⟩
theorem ad_assoc : ad w h (ad w h p q) r = ad w h p (ad w h q r) := by
  simp [ad, Int.add_assoc]
theorem ad_comm : ad w h p q = ad w h q p := by
  simp [ad, Int.add_comm]
theorem ad_ml_one : ad w h (ml w h k p) p = ml w h (k + 1) p := by
  simp [ad, ml, Int.add_mul]
theorem ad_ml : ad w h (ml w h i p) (ml w h j p) = ml w h (i + j) p := by
  simp [ad, ml, Int.add_mul, Int.add_emod]
/-- what is added can be taken off -/
theorem ad_cancel (hp : inR w h p) (hq : inR w h q) (e : ad w h r p = ad w h r q) : p = q := by
  obtain ⟨p1, p2⟩ := p
  obtain ⟨q1, q2⟩ := q
  obtain ⟨⟨a1, a2⟩, a3, a4⟩ := hp
  obtain ⟨⟨b1, b2⟩, b3, b4⟩ := hq
  simp only [ad, Prod.mk.injEq] at e a1 a2 a3 a4 b1 b2 b3 b4 ⊢
  obtain ⟨e1, e2⟩ := e
  have f1 := Int.emod_emod_of_dvd (r.1 + p1) (Int.dvd_refl (w : Int))
  have c1 : (p1 - q1) % (w : Int) = 0 := by
    have : ((r.1 + p1) - (r.1 + q1)) % (w : Int) = 0 := Int.emod_eq_emod_iff_emod_sub_eq_zero.mp e1
    have e : (r.1 + p1) - (r.1 + q1) = p1 - q1 := by omega
    rwa [e] at this
  have c2 : (p2 - q2) % (h : Int) = 0 := by
    have : ((r.2 + p2) - (r.2 + q2)) % (h : Int) = 0 := Int.emod_eq_emod_iff_emod_sub_eq_zero.mp e2
    have e : (r.2 + p2) - (r.2 + q2) = p2 - q2 := by omega
    rwa [e] at this
  constructor
  · have := Int.emod_eq_emod_iff_emod_sub_eq_zero.mpr c1
    rwa [Int.emod_eq_of_lt a1 a2, Int.emod_eq_of_lt b1 b2] at this
  · have := Int.emod_eq_emod_iff_emod_sub_eq_zero.mpr c2
    rwa [Int.emod_eq_of_lt a3 a4, Int.emod_eq_of_lt b3 b4] at this
/-- d is the order of p -/
structure Od (w h : Nat) (p : P2) (d : Nat) : Prop where
  pos : 1 ≤ d
  le : d ≤ w * h
  z : ml w h d p = (0, 0)
  nz : ∀ k, 1 ≤ k → k < d → ml w h k p ≠ (0, 0)
theorem od_ex (hw : 0 < w) (hh : 0 < h) (p : P2) : ∃ d, Od w h p d := by
  have hpos : 0 < w * h := Nat.mul_pos hw hh
  have hz : ml w h (w * h) p = (0, 0) := by
    simp only [ml, Prod.mk.injEq]
    constructor
    · rw [show ((w * h : Nat) : Int) * p.1 = (w : Int) * ((h : Int) * p.1) by rw [Int.natCast_mul, Int.mul_assoc]]
      exact Int.mul_emod_right _ _
    · rw [show ((w * h : Nat) : Int) * p.2 = (h : Int) * ((w : Int) * p.2) by rw [Int.natCast_mul, Int.mul_comm (w : Int), Int.mul_assoc]]
      exact Int.mul_emod_right _ _
  obtain ⟨k, k1, k2, k3⟩ := least (p := fun n => ml w h (n + 1) p = (0, 0)) (w * h - 1) (by
    show ml w h (w * h - 1 + 1) p = (0, 0)
    rw [Nat.sub_add_cancel hpos]; exact hz)
  refine ⟨k + 1, by omega, by omega, k2, fun j hj1 hj2 e => ?_⟩
  exact k3 (j - 1) (by omega) (by rw [Nat.sub_add_cancel hj1]; exact e)
theorem Od.per {d : Nat} (o : Od w h p d) (hw : 0 < w) (hh : 0 < h) : ml w h (k + d) p = ml w h k p := by
  rw [← ad_ml, o.z, ad_zero (inR_ml hw hh)]
theorem Od.perm {d : Nat} (o : Od w h p d) (hw : 0 < w) (hh : 0 < h) : ∀ m, ml w h (k + m * d) p = ml w h k p
  | 0 => by rw [Nat.zero_mul, Nat.add_zero]
  | m + 1 => by rw [Nat.succ_mul, ← Nat.add_assoc, o.per hw hh, o.perm hw hh m]
theorem Od.md {d : Nat} (o : Od w h p d) (hw : 0 < w) (hh : 0 < h) (n : Nat) : ml w h n p = ml w h (n % d) p := by
  have e : n = n % d + n / d * d := by rw [Nat.mul_comm]; exact (Nat.mod_add_div n d).symm
  have := o.perm (k := n % d) hw hh (n / d)
  rw [← e] at this
  exact this
theorem Od.inj {d : Nat} (o : Od w h p d) (hw : 0 < w) (hh : 0 < h) (hi : i < d) (hj : j < d) (e : ml w h i p = ml w h j p) : i = j := by
  have key : ∀ i j, i < j → j < d → ml w h i p = ml w h j p → False := by
    intro i j h1 h2 e
    have e2 : ad w h (ml w h i p) (0, 0) = ad w h (ml w h i p) (ml w h (j - i) p) := by
      rw [ad_ml, ad_zero (inR_ml hw hh), e]
      congr 1
      omega
    have := ad_cancel (w := w) (h := h) (r := ml w h i p) (p := (0, 0)) (q := ml w h (j - i) p) ⟨by simp; omega, by simp; omega⟩ (inR_ml hw hh) e2
    exact o.nz (j - i) (by omega) (by omega) this.symm
  rcases Nat.lt_trichotomy i j with q | q | q
  · exact (key i j q hj e).elim
  · exact q
  · exact (key j i q hi e.symm).elim
/-- the crossings that p leads to from q -/
def cos (w h : Nat) (g q : P2) (d : Nat) : List P2 := (List.range d).map fun k => ad w h q (ml w h k g)
theorem mem_cos {d : Nat} : r ∈ cos w h g q d ↔ ∃ k < d, ad w h q (ml w h k g) = r := by
  simp [cos]
theorem cos_nodup {d : Nat} (o : Od w h g d) (hw : 0 < w) (hh : 0 < h) : (cos w h g q d).Nodup := by
  unfold cos
  rw [List.Nodup, List.pairwise_map]
  refine List.Pairwise.imp_of_mem ?_ List.nodup_range
  intro i j hi hj hne e
  rw [List.mem_range] at hi hj
  exact hne (o.inj hw hh hi hj (ad_cancel (inR_ml hw hh) (inR_ml hw hh) e))
theorem cos_self {d : Nat} (o : Od w h g d) (hq : inR w h q) : q ∈ cos w h g q d := mem_cos.mpr ⟨0, o.pos, by rw [ml_zero, ad_zero hq]⟩
theorem cos_perm {d : Nat} (o : Od w h g d) (hw : 0 < w) (hh : 0 < h) (hr : r ∈ cos w h g q d) : (cos w h g r d).Perm (cos w h g q d) := by
  refine (List.perm_ext_iff_of_nodup (cos_nodup o hw hh) (cos_nodup o hw hh)).mpr fun x => ?_
  obtain ⟨i, hi, rfl⟩ := mem_cos.mp hr
  have hd := o.pos
  constructor
  · intro hx
    obtain ⟨k, hk, rfl⟩ := mem_cos.mp hx
    refine mem_cos.mpr ⟨(i + k) % d, Nat.mod_lt _ (by omega), ?_⟩
    rw [← o.md hw hh, ad_assoc, ad_ml]
  · intro hx
    obtain ⟨k, hk, rfl⟩ := mem_cos.mp hx
    refine mem_cos.mpr ⟨(k + (d - i)) % d, Nat.mod_lt _ (by omega), ?_⟩
    rw [← o.md hw hh, ad_assoc, ad_ml, show i + (k + (d - i)) = k + d by omega, o.per hw hh]
end
end Pw
set_option maxRecDepth 100000
namespace Pw
open PySem PySem.Spec L2 Pv
section
variable {p q r g a b : P2} {w h : Nat} {i j k : Nat}
theorem ml_range_len {d : Nat} : ((List.range d).map fun k => pE (ml w h k p)).length = d := by simp
theorem rng_succ {d : Nat} : ((List.range (d + 1)).map fun k => pE (ml w h k p)) = ((List.range d).map fun k => pE (ml w h k p)) ++ [pE (ml w h d p)] := by
  rw [List.range_succ, List.map_append]
  rfl
theorem p00 : PyData.tuple [.int 0, .int 0] = pE (0, 0) := rfl
theorem F_row_eq (hw : 0 < w) (hh : 0 < h) (hp : inR w h p) {d : Nat} (o : Od w h p d) (hd : d < 999) : F_law_row [.val (tE w h a b), .val (pE p)] = .ok (.own (.lst ((List.range d).map fun k => pE (ml w h k p)))) none := by
  have d1 := o.pos
  have key := whileL_count (t := fB (fOp gNe (fVar 3) (fTup (fCons (fC (.int 0)) (fCons (fC (.int 0)) fNil))))) (body := gSeq (gExpr (fAppend (fVar 2) (fVar 3))) (gSet 3 (fCall F_law_led (cConsF (fVar 0) (cConsF (fVar 3) (cConsF (fVar 1) rNil))))))
    (fun k => [.val (tE w h a b), .val (pE p), .own (.lst ((List.range (k + 1)).map fun k => pE (ml w h k p))), .val (pE (ml w h (k + 1) p))]) (d - 1) (ρe := [.val (tE w h a b), .val (pE p), .own (.lst ((List.range d).map fun k => pE (ml w h k p))), .val (pE (0, 0))]) (by
      intro k hk
      have nz := o.nz (k + 1) (by omega) (by omega)
      have l1 : k + 1 < 16777216 := by omega
      refine ⟨_, by simp [p00, nz]; rfl, ?_⟩
      simp [F_led_eq hw hh, ad_ml_one, l1, rng_succ (d := k + 1)]) (by
      simp only [Nat.sub_add_cancel d1, o.z]
      simp [p00]) (fu := 1000) (by omega)
  simp [F_law_row, g_law_row, p00, F_led_eq hw hh, zero_ad hp, gWhile_eq]
  have e1 : ((List.range (0 + 1)).map fun k => pE (ml w h k p)) = [pE (0, 0)] := by simp [ml_zero]
  rw [ml_one hp, e1] at key
  rw [key]
  simp
theorem F_order_of_eq (hw : 0 < w) (hh : 0 < h) (hp : inR w h p) {d : Nat} (o : Od w h p d) (hd : d < 999) : F_order_of [.val (tE w h a b), .val (pE p)] = .ok (.val (.int d)) none := by
  have d1 := o.pos
  have key := whileL_count (t := fB (fOp gNe (fVar 3) (fTup (fCons (fC (.int 0)) (fCons (fC (.int 0)) fNil))))) (body := gPar2 2 3 (oCons (fOp gAdd (fVar 2) (fC (.int 1))) (oCons (fCall F_added (cConsF (fVar 0) (cConsF (fVar 3) (cConsF (fVar 1) rNil)))) rNil)))
    (fun k => [.val (tE w h a b), .val (pE p), .val (.int ((k + 1 : Nat) : Int)), .val (pE (ml w h (k + 1) p))]) (d - 1) (ρe := [.val (tE w h a b), .val (pE p), .val (.int (d : Int)), .val (pE (0, 0))]) (by
      intro k hk
      have nz := o.nz (k + 1) (by omega) (by omega)
      refine ⟨_, by simp [p00, nz]; rfl, ?_⟩
      simp [F_added_eq hw hh, ad_ml_one]) (by
      simp only [Nat.sub_add_cancel d1, o.z]
      simp [p00]) (fu := 1000) (by omega)
  simp [F_order_of, g_order_of, gWhile_eq]
  rw [ml_one hp] at key
  have e0 : (((0 + 1 : Nat) : Int)) = 1 := rfl
  rw [e0] at key
  rw [key]
  simp
theorem F_order_eq (t : TOk w h a b) (hp : inR w h p) {d : Nat} (o : Od w h p d) (hd : d < 999) : F_order [.val (tE w h a b), .val (pE p)] = .ok (.val (.int d)) none := by
  simp [F_order, g_order, F_need_town_eq t, F_need_crossing_eq t hp, F_order_of_eq (show 0 < w from t.w1) (show 0 < h from t.h1) hp o hd]
/-! ### sorted -/
def leP (p q : P2) : Bool := decide (p.1 < q.1 ∨ (p.1 = q.1 ∧ p.2 ≤ q.2))
def insP (p : P2) : List P2 → List P2
  | [] => [p]
  | q :: l => if leP p q then p :: q :: l else q :: insP p l
def sortP : List P2 → List P2
  | [] => []
  | p :: l => insP p (sortP l)
theorem lt_pE (p q : P2) : PySem.W.dataLt (pE q) (pE p) = !leP p q := by
  unfold pE leP
  rw [PySem.W.dataLt_ii]
  by_cases h : p.1 < q.1 ∨ (p.1 = q.1 ∧ p.2 ≤ q.2)
  · have h' : ¬ (q.1 < p.1 ∨ (q.1 = p.1 ∧ q.2 < p.2)) := by omega
    simp [h, h']
  · have h' : q.1 < p.1 ∨ (q.1 = p.1 ∧ q.2 < p.2) := by omega
    simp [h, h']
theorem ins_pE (p : P2) : ∀ l : List P2, insD (pE p) (l.map pE) = (insP p l).map pE
  | [] => rfl
  | q :: l => by
    rw [List.map_cons]
    unfold insD insP
    rw [lt_pE]
    cases h : leP p q with
    | true => simp
    | false => simp [ins_pE p l]
theorem sort_pE : ∀ l : List P2, isortD (l.map pE) = (sortP l).map pE
  | [] => rfl
  | p :: l => by
    rw [List.map_cons]
    unfold isortD sortP
    rw [sort_pE l, ins_pE]
theorem insP_perm (p : P2) : ∀ l : List P2, (insP p l).Perm (p :: l)
  | [] => .refl _
  | q :: l => by
    unfold insP
    split
    · exact .refl _
    · exact ((insP_perm p l).cons q).trans (.swap p q l)
theorem sortP_perm : ∀ l : List P2, (sortP l).Perm l
  | [] => .refl _
  | p :: l => (insP_perm p _).trans ((sortP_perm l).cons p)
theorem leP_total (p q : P2) : leP p q = true ∨ leP q p = true := by
  unfold leP
  simp only [decide_eq_true_eq]
  omega
theorem leP_trans {p q r : P2} (h1 : leP p q = true) (h2 : leP q r = true) : leP p r = true := by
  unfold leP at *
  simp only [decide_eq_true_eq] at *
  omega
theorem leP_anti {p q : P2} (h1 : leP p q = true) (h2 : leP q p = true) : p = q := by
  obtain ⟨p1, p2⟩ := p
  obtain ⟨q1, q2⟩ := q
  unfold leP at *
  simp only [decide_eq_true_eq, Prod.mk.injEq] at *
  omega
theorem insP_sorted (p : P2) : ∀ {l : List P2}, l.Pairwise (fun a b => leP a b = true) → (insP p l).Pairwise (fun a b => leP a b = true)
  | [], _ => by simp [insP]
  | q :: l, h => by
    rw [List.pairwise_cons] at h
    unfold insP
    cases e : leP p q with
    | true =>
      rw [if_pos rfl]
      refine List.pairwise_cons.mpr ⟨fun x hx => ?_, List.pairwise_cons.mpr h⟩
      rcases List.mem_cons.mp hx with z | z
      · rw [z]; exact e
      · exact leP_trans e (h.1 x z)
    | false =>
      rw [if_neg (by simp)]
      have e2 : leP q p = true := by
        rcases leP_total p q with z | z
        · rw [e] at z; cases z
        · exact z
      refine List.pairwise_cons.mpr ⟨fun x hx => ?_, insP_sorted p h.2⟩
      have hx' := (insP_perm p l).mem_iff.mp hx
      rcases List.mem_cons.mp hx' with z | z
      · rw [z]; exact e2
      · exact h.1 x z
theorem sortP_sorted : ∀ l : List P2, (sortP l).Pairwise (fun a b => leP a b = true)
  | [] => .nil
  | p :: l => insP_sorted p (sortP_sorted l)
theorem sortP_eq {l m : List P2} (h : l.Perm m) : sortP l = sortP m :=
  List.Perm.eq_of_pairwise (le := fun a b => leP a b = true) (fun a b _ _ h1 h2 => leP_anti h1 h2) (sortP_sorted l) (sortP_sorted m) ((sortP_perm l).trans (h.trans (sortP_perm m).symm))
theorem canLay_pE : ∀ l : List P2, PyData.canLayAll0 (l.map pE) = true
  | [] => rfl
  | p :: l => by
    show (PyData.canLay0 (pE p) && PyData.canLayAll0 (l.map pE)) = true
    rw [canLay_pE l]
    rfl
theorem sortOk_pE (l : List P2) (hl : l.length ≤ 100000) : sortOk (l.map pE) = true := by
  unfold sortOk alikesD
  rw [canLay_pE]
  have h1 : (l.map pE).all tup1 = true := by simp [pE, tup1]
  have h2 : ((l.map pE).all fun x => (l.map pE).all fun y => PySem.W.alike x y) = true := by
    simp [pE, PySem.W.alike, PySem.W.alikeAll]
  have h3 : ((l.map pE).all fun d => decide (d.depth ≤ 60)) = true := by
    simp [pE, PyData.depth, PyData.depthAll]
  rw [h1, h2, h3]
  simp
  omega
theorem depth_pE : ∀ l : List P2, PyData.depthAll (l.map pE) ≤ 1
  | [] => by simp [PyData.depthAll]
  | p :: l => by
    have := depth_pE l
    simp only [List.map_cons, pE, PyData.depthAll, PyData.depth]
    simp
    omega
end
end Pw
set_option maxRecDepth 100000
namespace Pw
open PySem PySem.Spec L2 Pv
theorem lentM_ns {s : Slot} {ρ : Rho} (hs : isLent s = false) : lentM (s :: ρ) = lentM ρ := by
  cases s with
  | lent m => cases hs
  | _ => rfl
section
variable {p q r g a b : P2} {w h : Nat} {i j k : Nat}
theorem shp_lpE (l : List P2) : SeqAt.shaped (.list (l.map pE)) = true := by
  unfold SeqAt.shaped
  have h1 : PyData.canLay0 (.list (l.map pE)) = true := canLay_pE l
  have h2 := depth_pE l
  rw [h1]
  simp [PyData.depth]
  omega
theorem in_pE (p : P2) (l : List P2) : in? (pE p) (.list (l.map pE)) = some (decide (p ∈ l)) := by
  show (if SeqAt.shaped (pE p) && SeqAt.shaped (.list (l.map pE)) then some ((l.map pE).any fun z => PyData.eqv z (pE p)) else none) = _
  rw [shp_pE, shp_lpE]
  simp only [Bool.and_self, if_true, Option.some.injEq]
  rw [List.any_map]
  rw [Bool.eq_iff_iff]
  simp [eqv_pE]
@[simp] theorem gNotIn_pE (p : P2) (l : List P2) : gNotIn (pE p) (.list (l.map pE)) = some (.val (.bool (!decide (p ∈ l)))) := by
  unfold gNotIn
  rw [in_pE]
  rfl
@[simp] theorem gIn_pE (p : P2) (l : List P2) : gIn (pE p) (.list (l.map pE)) = some (.val (.bool (decide (p ∈ l)))) := by
  unfold gIn
  rw [in_pE]
  rfl
def lE (l : List P2) : PyData := .tuple (l.map pE)
theorem eqvAll_pE : ∀ l m : List P2, PyData.eqvAll (l.map pE) (m.map pE) = decide (l = m)
  | [], [] => by simp [PyData.eqvAll]
  | [], _ :: _ => by simp [PyData.eqvAll]
  | _ :: _, [] => by simp [PyData.eqvAll]
  | p :: l, q :: m => by
    simp only [List.map_cons, PyData.eqvAll, eqv_pE, eqvAll_pE l m, List.cons.injEq]
    by_cases h1 : p = q <;> by_cases h2 : l = m <;> simp [h1, h2]
theorem eqv_lE (l m : List P2) : PyData.eqv (lE l) (lE m) = decide (l = m) := by
  unfold lE
  rw [PyData.eqv]
  exact eqvAll_pE l m
theorem shp_lE (l : List P2) : SeqAt.shaped (lE l) = true := by
  unfold SeqAt.shaped
  have h1 : PyData.canLay0 (lE l) = true := canLay_pE l
  have h2 := depth_pE l
  rw [h1]
  simp [lE, PyData.depth]
  omega
theorem canLay_lE : ∀ L : List (List P2), PyData.canLayAll0 (L.map lE) = true
  | [] => rfl
  | l :: L => by
    show (PyData.canLay0 (lE l) && PyData.canLayAll0 (L.map lE)) = true
    rw [canLay_lE L, show PyData.canLay0 (lE l) = true from canLay_pE l]
    rfl
theorem depth_lE : ∀ L : List (List P2), PyData.depthAll (L.map lE) ≤ 2
  | [] => by simp [PyData.depthAll]
  | l :: L => by
    have h1 := depth_lE L
    have h2 := depth_pE l
    simp only [List.map_cons, PyData.depthAll]
    simp only [lE, PyData.depth]
    omega
theorem in_lE (l : List P2) (L : List (List P2)) : in? (lE l) (.list (L.map lE)) = some (decide (l ∈ L)) := by
  have hs : SeqAt.shaped (.list (L.map lE)) = true := by
    unfold SeqAt.shaped
    have h1 : PyData.canLay0 (.list (L.map lE)) = true := canLay_lE L
    have h2 := depth_lE L
    rw [h1]
    simp [PyData.depth]
    omega
  show (if SeqAt.shaped (lE l) && SeqAt.shaped (.list (L.map lE)) then some ((L.map lE).any fun z => PyData.eqv z (lE l)) else none) = _
  rw [shp_lE, hs]
  simp only [Bool.and_self, if_true, Option.some.injEq]
  rw [List.any_map]
  rw [Bool.eq_iff_iff]
  simp [eqv_lE]
@[simp] theorem gNotIn_lE (l : List P2) (L : List (List P2)) : gNotIn (lE l) (.list (L.map lE)) = some (.val (.bool (!decide (l ∈ L)))) := by
  unfold gNotIn
  rw [in_lE]
  rfl
theorem cos_length {d : Nat} : (cos w h g q d).length = d := by simp [cos]
theorem cos_map {d : Nat} : (cos w h g q d).map pE = (List.range d).map fun k => pE (ad w h q (ml w h k g)) := by simp [cos]
theorem cos_succ {d : Nat} : cos w h g q (d + 1) = cos w h g q d ++ [ad w h q (ml w h d g)] := by
  unfold cos
  rw [List.range_succ, List.map_append]
  rfl
/-- lots, one by one from the front -/
def lotsA (w h : Nat) (g : P2) (d : Nat) : Nat → List P2 → List (List P2) → List (List P2)
  | 0, _, found => found
  | _ + 1, [], found => found
  | n + 1, q :: l, found => lotsA w h g d n ((q :: l).filter fun r => !decide (r ∈ cos w h g q d)) (found ++ [sortP (cos w h g q d)])
theorem lots_inner (hw : 0 < w) (hh : 0 < h) (hq : inR w h q) {d : Nat} (o : Od w h g d) (hd : d < 999) (L F : Slot) (c : Slot) :
    gWhile (fB (fOp gNotIn (fVar 4) (fVar 5))) (gSeq (gExpr (fAppend (fVar 5) (fVar 4))) (gSet 4 (fCall F_added (cConsF (fVar 0) (cConsF (fVar 4) (cConsF (fVar 1) rNil))))))
      [.val (tE w h a b), .val (pE g), L, F, .val (pE q), .own (.lst []), c] = .nx [.val (tE w h a b), .val (pE g), L, F, .val (pE q), .own (.lst ((cos w h g q d).map pE)), c] := by
  rw [gWhile_eq]
  have key := whileL_count (t := fB (fOp gNotIn (fVar 4) (fVar 5))) (body := gSeq (gExpr (fAppend (fVar 5) (fVar 4))) (gSet 4 (fCall F_added (cConsF (fVar 0) (cConsF (fVar 4) (cConsF (fVar 1) rNil))))))
    (fun k => [.val (tE w h a b), .val (pE g), L, F, .val (pE (ad w h q (ml w h k g))), .own (.lst ((cos w h g q k).map pE)), c]) d (ρe := [.val (tE w h a b), .val (pE g), L, F, .val (pE q), .own (.lst ((cos w h g q d).map pE)), c]) (by
      intro k hk
      have nm : ¬ ad w h q (ml w h k g) ∈ cos w h g q k := fun z => by
        obtain ⟨j, hj, e⟩ := mem_cos.mp z
        have := o.inj hw hh (by omega) hk (ad_cancel (inR_ml hw hh) (inR_ml hw hh) e)
        omega
      have l1 : (cos w h g q k).length < 16777216 := by rw [cos_length]; omega
      refine ⟨_, by simp [nm]; rfl, ?_⟩
      simp [F_added_eq hw hh, ad_assoc, ad_ml_one, cos_succ, l1]) (by
      have hin : q ∈ cos w h g q d := cos_self o hq
      simp [o.z, ad_zero hq, hin]) (fu := 1000) (by omega)
  rw [ml_zero, ad_zero hq] at key
  exact key
theorem lots_loop (hw : 0 < w) (hh : 0 < h) {d : Nat} (o : Od w h g d) (hd : d < 999) : ∀ (n : Nat) (left : List P2) (found : List (List P2)) (s4 s5 : Slot), left.length < n → (∀ q ∈ left, inR w h q) → left.length + found.length < 10000 → isLent s4 = false → isLent s5 = false →
    ∃ s4' s5', isLent s4' = false ∧ isLent s5' = false ∧ whileL (fT (fVar 2)) (gSeq (gPar2 4 5 (oCons (fOp gIx (fVar 2) (fC (.int 0))) (oCons (fLst fNil) rNil)))
    (gSeq (gWhile (fB (fOp gNotIn (fVar 4) (fVar 5))) (gSeq (gExpr (fAppend (fVar 5) (fVar 4)))
    (gSet 4 (fCall F_added (cConsF (fVar 0) (cConsF (fVar 4) (cConsF (fVar 1) rNil)))))))
    (gSeq (gExpr (fAppend (fVar 3) (fCB gTuple (rCons (fCB gSorted (rCons (fVar 5) rNil)) rNil))))
    (gSet 2 (fLc (fISeq (fVar 2)) (gtName 6) (fB (fOp gNotIn (fVar 6) (fVar 5))) (fVar 6) [6]))))) n
      [.val (tE w h a b), .val (pE g), .own (.lst (left.map pE)), .own (.lst (found.map lE)), s4, s5, .no] = .nx [.val (tE w h a b), .val (pE g), .own (.lst []), .own (.lst ((lotsA w h g d n left found).map lE)), s4', s5', .no]
  | 0, left, _, _, _, hl, _, _, _, _ => by omega
  | n + 1, [], found, s4, s5, _, _, _, h4, h5 => ⟨s4, s5, h4, h5, whileL_stop (by simp [lotsA])⟩
  | n + 1, q :: l, found, s4, s5, hl, hR, hz, h4, h5 => by
    have hq := hR q List.mem_cons_self
    rw [List.length_cons] at hl hz
    have hin : q ∈ cos w h g q d := cos_self o hq
    have hflen : (l.filter fun r => !decide (r ∈ cos w h g q d)).length ≤ l.length := List.length_filter_le _ _
    have efil : ((q :: l).filter fun r => !decide (r ∈ cos w h g q d)) = l.filter fun r => !decide (r ∈ cos w h g q d) := by
      rw [List.filter_cons_of_neg]
      simp [hin]
    obtain ⟨s4', s5', g4, g5, e⟩ := lots_loop hw hh o hd n (l.filter fun r => !decide (r ∈ cos w h g q d)) (found ++ [sortP (cos w h g q d)]) (.val (pE q)) (.own (.lst ((cos w h g q d).map pE))) (by omega) (fun r hr => hR r (List.mem_cons_of_mem _ (List.mem_filter.mp hr).1)) (by rw [List.length_append, List.length_singleton]; omega) rfl rfl
    refine ⟨s4', s5', g4, g5, ?_⟩
    have inner := lots_inner (a := a) (b := b) (q := q) hw hh hq o hd (.own (.lst ((q :: l).map pE))) (.own (.lst (found.map lE))) .no
    have so := sortOk_pE (cos w h g q d) (by rw [cos_length]; omega)
    have lf : found.length < 16777216 := by omega
    have ll : l.length + 1 ≤ 16777216 := by omega
    have comp : lcL (gtName 6) (fB (fOp gNotIn (fVar 6) (fVar 5))) (fVar 6) [6] ((q :: l).map pE)
        [.val (tE w h a b), .val (pE g), .val (.list ((q :: l).map pE)), .own (.lst (found.map lE ++ [lE (sortP (cos w h g q d))])), .val (pE q), .own (.lst ((cos w h g q d).map pE)), .no] =
        .ok (((q :: l).filter fun r => !decide (r ∈ cos w h g q d)).map pE) [.val (tE w h a b), .val (pE g), .val (.list ((q :: l).map pE)), .own (.lst (found.map lE ++ [lE (sortP (cos w h g q d))])), .val (pE q), .own (.lst ((cos w h g q d).map pE)), .no] :=
      lcL_pure pE (fun r => [.val (tE w h a b), .val (pE g), .val (.list ((q :: l).map pE)), .own (.lst (found.map lE ++ [lE (sortP (cos w h g q d))])), .val (pE q), .own (.lst ((cos w h g q d).map pE)), .val (pE r)]) (fun r => !decide (r ∈ cos w h g q d)) pE (q :: l) (by
        intro r _
        exact ⟨by simp, by simp, fun _ => by simp, by simp⟩)
    rw [whileL_step (ρ1 := [.val (tE w h a b), .val (pE g), .own (.lst ((q :: l).map pE)), .own (.lst (found.map lE)), s4, s5, .no]) (ρ2 := [.val (tE w h a b), .val (pE g), .own (.lst ((l.filter fun r => !decide (r ∈ cos w h g q d)).map pE)), .own (.lst ((found ++ [sortP (cos w h g q d)]).map lE)), .val (pE q), .own (.lst ((cos w h g q d).map pE)), .no]) (by simp) ?_]
    · rw [e]
      show _ = SO.nx [_, _, _, .own (.lst ((lotsA w h g d (n + 1) (q :: l) found).map lE)), _, _, _]
      rw [show lotsA w h g d (n + 1) (q :: l) found = lotsA w h g d n ((q :: l).filter fun r => !decide (r ∈ cos w h g q d)) (found ++ [sortP (cos w h g q d)]) from rfl, efil]
    · rw [efil] at comp
      rw [List.map_cons] at inner comp
      have elE : PyData.tuple ((sortP (cos w h g q d)).map pE) = lE (sortP (cos w h g q d)) := rfl
      simp [h4, h5, inner, so, sort_pE, lf, ll, elE, comp]
end
end Pw
set_option maxRecDepth 100000
namespace Pw
open PySem PySem.Spec L2 Pv
section
variable {p q r g a b : P2} {w h : Nat} {i j k : Nat}
theorem inR_crs (hp : p ∈ crs w h) : inR w h p := mem_crs.mp hp
theorem TOk.wh144 (t : TOk w h a b) : w * h ≤ 144 := Nat.mul_le_mul t.w2 t.h2
theorem F_lots_of_eq (t : TOk w h a b) {d : Nat} (o : Od w h (sb w h a b) d) : F_lots_of [.val (tE w h a b)] = .ok (.own (.lst ((lotsA w h (sb w h a b) d 1000 (crs w h) []).map lE))) none := by
  have hw : 0 < w := t.w1
  have hh : 0 < h := t.h1
  have h144 := t.wh144
  have hd : d < 999 := by have := o.le; omega
  have cl := crs_length w h
  obtain ⟨s4, s5, g4, g5, e⟩ := lots_loop (a := a) (b := b) hw hh o hd 1000 (crs w h) [] .no .no (by omega) (fun q hq => inR_crs hq) (by simp; omega) rfl rfl
  have e0 : (([] : List (List P2)).map lE) = [] := rfl
  rw [e0] at e
  have hc := crossings_of_eq w h (pE a) (pE b) (by have := t.w2; omega) (by have := t.h2; omega)
  have hc' : F_crossings_of [.val (tE w h a b)] = .ok (.own (.lst ((crs w h).map pE))) none := hc
  simp [F_lots_of, g_lots_of, F_taken_eq hw hh, hc', gWhile_eq] 
  rw [e]
  simp [lentM_ns g4, lentM_ns g5]
theorem F_lots_eq (t : TOk w h a b) {d : Nat} (o : Od w h (sb w h a b) d) : F_lots [.val (tE w h a b)] = .ok (.val (.tuple ((lotsA w h (sb w h a b) d 1000 (crs w h) []).map lE))) none := by
  simp [F_lots, g_lots, F_need_town_eq t, F_lots_of_eq t o]
theorem F_count_plans_eq (t : TOk w h a b) {d : Nat} (o : Od w h (sb w h a b) d) (hl : (lotsA w h (sb w h a b) d 1000 (crs w h) []).length ≤ 1000) : F_count_plans [.val (tE w h a b)] = .ok (.val (.int (1 * 2 ^ (lotsA w h (sb w h a b) d 1000 (crs w h) []).length))) none := by
  have h1 : ((lotsA w h (sb w h a b) d 1000 (crs w h) []).length : Int) ≤ 1000000 := by omega
  simp [F_count_plans, g_count_plans, F_need_town_eq t, F_lots_of_eq t o, h1]
/-! ### the law's own -/
def stepB (w h : Nat) (g : P2) (d : Nat) (found : List (List P2)) (q : P2) : List (List P2) := if sortP (cos w h g q d) ∈ found then found else found ++ [sortP (cos w h g q d)]
theorem stepB_len {d : Nat} (found : List (List P2)) : (stepB w h g d found q).length ≤ found.length + 1 := by
  unfold stepB
  split
  · omega
  · simp
theorem lawlots_body (hw : 0 < w) (hh : 0 < h) {d : Nat} (o : Od w h g d) (hd : d < 999) (rs : Slot) (hrs : rs = .own (.lst ((List.range d).map fun k => pE (ml w h k g))) ∨ rs = .val (.list ((List.range d).map fun k => pE (ml w h k g)))) (found : List (List P2)) (hf : found.length < 10000) (s4 : Slot) (h4 : isLent s4 = false) (q : P2) :
    (gSeq (gSet 4 (fCB gTuple (rCons (fCB gSorted (rCons (fLc (fISeq (fVar 1)) (gtName 5) fYes (fCall F_law_led (cConsF (fVar 0) (cConsF (fVar 3) (cConsF (fVar 5) rNil)))) [5]) rNil)) rNil)))
    (gIf (fB (fOp gNotIn (fVar 4) (fVar 2))) (gExpr (fAppend (fVar 2) (fVar 4))) gSkip)) [.val (tE w h a b), rs, .own (.lst (found.map lE)), .val (pE q), s4, .no] =
      .nx [.val (tE w h a b), .val (.list ((List.range d).map fun k => pE (ml w h k g))), .own (.lst ((stepB w h g d found q).map lE)), .val (pE q), .val (lE (sortP (cos w h g q d))), .no] := by
  have comp : lcL (gtName 5) fYes (fCall F_law_led (cConsF (fVar 0) (cConsF (fVar 3) (cConsF (fVar 5) rNil)))) [5] ((List.range d).map fun k => pE (ml w h k g))
      [.val (tE w h a b), .val (.list ((List.range d).map fun k => pE (ml w h k g))), .own (.lst (found.map lE)), .val (pE q), s4, .no] = .ok ((cos w h g q d).map pE)
      [.val (tE w h a b), .val (.list ((List.range d).map fun k => pE (ml w h k g))), .own (.lst (found.map lE)), .val (pE q), s4, .no] := by
    have z := lcL_pure (tg := gtName 5) (tt := fYes) (el := fCall F_law_led (cConsF (fVar 0) (cConsF (fVar 3) (cConsF (fVar 5) rNil)))) (vs := [5]) (ρ := [.val (tE w h a b), .val (.list ((List.range d).map fun k => pE (ml w h k g))), .own (.lst (found.map lE)), .val (pE q), s4, .no]) (fun k => pE (ml w h k g)) (fun k => [.val (tE w h a b), .val (.list ((List.range d).map fun k => pE (ml w h k g))), .own (.lst (found.map lE)), .val (pE q), s4, .val (pE (ml w h k g))]) (fun _ => true) (fun k => pE (ad w h q (ml w h k g))) (List.range d) (by
      intro k _
      exact ⟨by simp, rfl, fun _ => by simp [F_led_eq hw hh], by simp⟩)
    rw [filt_true, ← cos_map] at z
    exact z
  have so := sortOk_pE (cos w h g q d) (by rw [cos_length]; omega)
  have elE : PyData.tuple ((sortP (cos w h g q d)).map pE) = lE (sortP (cos w h g q d)) := rfl
  have ld : d ≤ 16777216 := by omega
  have lf : found.length < 16777216 := by omega
  rcases hrs with rfl | rfl
  · by_cases hm : sortP (cos w h g q d) ∈ found
    · simp [comp, so, sort_pE, elE, ld, h4, hm, stepB]
    · simp [comp, so, sort_pE, elE, ld, h4, hm, stepB, lf]
  · by_cases hm : sortP (cos w h g q d) ∈ found
    · simp [comp, so, sort_pE, elE, ld, h4, hm, stepB]
    · simp [comp, so, sort_pE, elE, ld, h4, hm, stepB, lf]
def fB_ (w h : Nat) (g : P2) (d : Nat) (l : List P2) : List (List P2) := l.foldl (stepB w h g d) []
theorem fB_len {d : Nat} : ∀ (l : List P2), (fB_ w h g d l).length ≤ l.length := by
  have key : ∀ (l : List P2) (f : List (List P2)), (l.foldl (stepB w h g d) f).length ≤ f.length + l.length := by
    intro l
    induction l with
    | nil => intro f; simp
    | cons q l ih =>
      intro f
      have h1 := ih (stepB w h g d f q)
      have h2 := stepB_len (w := w) (h := h) (g := g) (q := q) (d := d) f
      rw [List.foldl_cons, List.length_cons]
      omega
  intro l
  have := key l []
  show (l.foldl (stepB w h g d) []).length ≤ _
  simpa using this
theorem F_lawlots_eq (t : TOk w h a b) {d : Nat} (o : Od w h (sb w h a b) d) : F_law_lots [.val (tE w h a b)] = .ok (.own (.lst ((fB_ w h (sb w h a b) d (crs w h)).map lE))) none := by
  have hw : 0 < w := t.w1
  have hh : 0 < h := t.h1
  have h144 := t.wh144
  have hd : d < 999 := by have := o.le; omega
  have cl := crs_length w h
  obtain ⟨g, hg⟩ : ∃ g, g = sb w h a b := ⟨_, rfl⟩
  rw [← hg] at o ⊢
  have hgR : inR w h g := by rw [hg]; exact inR_sb hw hh
  have hc := F_crossings_eq (T := tE w h a b) wh_tE (by have := t.w2; omega) (by have := t.h2; omega)
  have er := F_row_eq (a := a) (b := b) hw hh hgR o hd
  have eg : F_law_gap [.val (tE w h a b)] = .ok (.val (pE g)) none := by rw [hg]; exact F_gap_eq hw hh
  have key := forL_idx (tg := gtName 3) (body := gSeq (gSet 4 (fCB gTuple (rCons (fCB gSorted (rCons (fLc (fISeq (fVar 1)) (gtName 5) fYes (fCall F_law_led (cConsF (fVar 0) (cConsF (fVar 3) (cConsF (fVar 5) rNil)))) [5]) rNil)) rNil)))
    (gIf (fB (fOp gNotIn (fVar 4) (fVar 2))) (gExpr (fAppend (fVar 2) (fVar 4))) gSkip)) ((crs w h).map pE)
    (fun i => match i with
      | 0 => [.val (tE w h a b), .own (.lst ((List.range d).map fun k => pE (ml w h k g))), .own (.lst []), .no, .no, .no]
      | i + 1 => [.val (tE w h a b), .val (.list ((List.range d).map fun k => pE (ml w h k g))), .own (.lst ((fB_ w h g d ((crs w h).take (i + 1))).map lE)), .val (pE ((crs w h).getD i (0, 0))), .val (lE (sortP (cos w h g ((crs w h).getD i (0, 0)) d))), .no]) (by
      intro i hi
      rw [List.length_map] at hi
      have eget : (crs w h).getD i (0, 0) = (crs w h)[i] := by simp [hi]
      have etake : fB_ w h g d ((crs w h).take (i + 1)) = stepB w h g d (fB_ w h g d ((crs w h).take i)) ((crs w h)[i]) := by
        unfold fB_
        rw [List.take_add_one, List.getElem?_eq_getElem hi, List.foldl_append]
        rfl
      cases i with
      | zero =>
        refine ⟨[.val (tE w h a b), .own (.lst ((List.range d).map fun k => pE (ml w h k g))), .own (.lst []), .val (pE ((crs w h)[0])), .no, .no], by simp, .inl ?_⟩
        have := lawlots_body (a := a) (b := b) hw hh o hd (.own (.lst ((List.range d).map fun k => pE (ml w h k g)))) (.inl rfl) [] (by simp) .no rfl ((crs w h)[0])
        simp only [List.map_nil] at this
        rw [this]
        simp only [eget]
        rw [etake]
        rfl
      | succ i =>
        refine ⟨[.val (tE w h a b), .val (.list ((List.range d).map fun k => pE (ml w h k g))), .own (.lst ((fB_ w h g d ((crs w h).take (i + 1))).map lE)), .val (pE ((crs w h)[i + 1])), .val (lE (sortP (cos w h g ((crs w h).getD i (0, 0)) d))), .no], by simp, .inl ?_⟩
        have hl := fB_len (w := w) (h := h) (g := g) (d := d) ((crs w h).take (i + 1))
        have hl2 : ((crs w h).take (i + 1)).length ≤ i + 1 := List.length_take_le _ _
        have := lawlots_body (a := a) (b := b) hw hh o hd (.val (.list ((List.range d).map fun k => pE (ml w h k g)))) (.inr rfl) (fB_ w h g d ((crs w h).take (i + 1))) (by omega) (.val (lE (sortP (cos w h g ((crs w h).getD i (0, 0)) d)))) rfl ((crs w h)[i + 1])
        rw [this]
        simp only [eget]
        rw [etake])
  have hne : 0 < (crs w h).length := by have := t.wh; omega
  obtain ⟨n, hn⟩ : ∃ n, (crs w h).length = n + 1 := ⟨(crs w h).length - 1, by omega⟩
  rw [List.length_map] at key
  rw [hn] at key
  simp only at key
  rw [← hn, List.take_length] at key
  simp [F_law_lots, g_law_lots, eg, er, hc]
  rw [key]
  simp
end
end Pw
set_option maxRecDepth 100000
namespace Pw
open PySem PySem.Spec L2 Pv
section
variable {p q r g a b : P2} {w h : Nat} {i j k : Nat}
theorem same_cos (hw : 0 < w) (hh : 0 < h) {d : Nat} (o : Od w h g d) (hr : inR w h r) : r ∈ cos w h g q d ↔ sortP (cos w h g r d) = sortP (cos w h g q d) := by
  constructor
  · intro z
    exact sortP_eq (cos_perm o hw hh z)
  · intro e
    have h1 : r ∈ sortP (cos w h g r d) := (sortP_perm _).mem_iff.mpr (cos_self o hr)
    rw [e] at h1
    exact (sortP_perm _).mem_iff.mp h1
theorem lotsA_eq (hw : 0 < w) (hh : 0 < h) {d : Nat} (o : Od w h g d) : ∀ (rest : List P2) (found : List (List P2)) (n : Nat), rest.length ≤ n → (∀ q ∈ rest, inR w h q) →
    lotsA w h g d n (rest.filter fun r => !decide (sortP (cos w h g r d) ∈ found)) found = rest.foldl (stepB w h g d) found
  | [], found, n, _, _ => by cases n <;> rfl
  | q :: rest, found, n, hn, hR => by
    have hR' : ∀ q ∈ rest, inR w h q := fun x hx => hR x (List.mem_cons_of_mem _ hx)
    rw [List.length_cons] at hn
    by_cases hm : sortP (cos w h g q d) ∈ found
    · rw [List.filter_cons_of_neg (by simp [hm]), List.foldl_cons, show stepB w h g d found q = found by unfold stepB; rw [if_pos hm]]
      exact lotsA_eq hw hh o rest found n (by omega) hR'
    · rw [List.filter_cons_of_pos (by simp [hm]), List.foldl_cons, show stepB w h g d found q = found ++ [sortP (cos w h g q d)] by unfold stepB; rw [if_neg hm]]
      obtain ⟨n', rfl⟩ : ∃ n', n = n' + 1 := ⟨n - 1, by omega⟩
      show lotsA w h g d n' ((q :: rest.filter fun r => !decide (sortP (cos w h g r d) ∈ found)).filter fun r => !decide (r ∈ cos w h g q d)) (found ++ [sortP (cos w h g q d)]) = _
      have hin : q ∈ cos w h g q d := cos_self o (hR q List.mem_cons_self)
      rw [List.filter_cons_of_neg (by simp [hin]), List.filter_filter]
      rw [← lotsA_eq hw hh o rest (found ++ [sortP (cos w h g q d)]) n' (by omega) hR']
      congr 1
      apply List.filter_congr
      intro r hr
      have hc := same_cos (q := q) hw hh o (hR' r hr)
      rw [Bool.eq_iff_iff]
      simp [hc]
      constructor
      · rintro ⟨h1, h2⟩; exact ⟨h2, h1⟩
      · rintro ⟨h1, h2⟩; exact ⟨h2, h1⟩
theorem lots_same (hw : 0 < w) (hh : 0 < h) {d : Nat} (o : Od w h g d) (hl : (crs w h).length ≤ 1000) : lotsA w h g d 1000 (crs w h) [] = fB_ w h g d (crs w h) := by
  have := lotsA_eq hw hh o (crs w h) [] 1000 hl fun q hq => inR_crs hq
  simp only [List.not_mem_nil, decide_false, Bool.not_false, filt_true] at this
  exact this
/-! ### alike -/
def alD : Nat → PyData → Bool
  | _, .none => true
  | _, .bool _ => true
  | _, .int _ => true
  | _, .str _ => false
  | _, .dict _ => false
  | 0, .tuple _ => false
  | 0, .list _ => false
  | n + 1, .tuple ds => decide (ds.length ≤ 100000) && ds.all (alD n)
  | n + 1, .list ds => decide (ds.length ≤ 100000) && ds.all (alD n)
@[simp] theorem eqD_0 : eqD? (.list []) (.list []) = some true := rfl
@[simp] theorem gEq_0 : gEq (.list []) (.list []) = some (.val (.bool true)) := rfl
theorem alike_seq (Fr : FN) (d : PyData) (ds : List PyData) (hd : d = .list ds ∨ d = .tuple ds) (hl : ds.length ≤ 100000) (hf : ∀ x ∈ ds, Fr [.val x, .val x] = .ok (.val (.bool true)) none) : fnF 3 (g_law_alike Fr) [.val d, .val d] = .ok (.val (.bool true)) none := by
  have ok := okR_nat ds.length (by omega)
  have ll : ds.length ≤ 16777216 := by omega
  have comp : lcL (gtName 2) (fNot (fT (fCall Fr (cCons (fOp gIx (fVar 0) (fVar 2)) (cCons (fOp gIx (fVar 1) (fVar 2)) rNil))))) (fVar 2) [2] ((List.range ds.length).map fun i : Nat => PyData.int i) [.val d, .val d, .no] = .ok [] [.val d, .val d, .no] := by
    have z := lcL_pure (tg := gtName 2) (tt := fNot (fT (fCall Fr (cCons (fOp gIx (fVar 0) (fVar 2)) (cCons (fOp gIx (fVar 1) (fVar 2)) rNil))))) (el := fVar 2) (vs := [2]) (ρ := [.val d, .val d, .no]) (fun i : Nat => PyData.int i) (fun i => [.val d, .val d, .val (.int i)]) (fun _ => false) (fun i => PyData.int i) (List.range ds.length) (by
      intro i hi
      rw [List.mem_range] at hi
      have e : gIx d (.int i) = some (.val ds[i]) := by
        rcases hd with rfl | rfl
        · simp [atI_nat', hi]
        · simp [atI_nat', hi]
      exact ⟨by simp, by simp [e, hf ds[i] (List.getElem_mem hi)], (fun z => by cases z), by simp⟩)
    rw [z]
    simp
  rcases hd with rfl | rfl
  · simp [g_law_alike, ok, rangeD_map, comp, ll]
  · simp [g_law_alike, ok, rangeD_map, comp, ll]
@[simp] theorem gEq_n : gEq .none .none = some (.val (.bool true)) := rfl
theorem alike_refl : ∀ (n : Nat) (d : PyData), alD n d = true → F_law_alike (n + 1) [.val d, .val d] = .ok (.val (.bool true)) none
  | n, .none, _ => by
    show fnF 3 (g_law_alike (F_law_alike n)) _ = _
    simp [g_law_alike]
  | n, .bool c, _ => by
    show fnF 3 (g_law_alike (F_law_alike n)) _ = _
    simp [g_law_alike]
  | n, .int c, _ => by
    show fnF 3 (g_law_alike (F_law_alike n)) _ = _
    simp [g_law_alike]
  | n, .str c, h => by cases n <;> cases h
  | n, .dict _, h => by cases n <;> cases h
  | 0, .tuple _, h => by cases h
  | 0, .list _, h => by cases h
  | n + 1, .tuple ds, h => by
    simp only [alD, Bool.and_eq_true, decide_eq_true_eq, List.all_eq_true] at h
    exact alike_seq (F_law_alike (n + 1)) _ ds (.inr rfl) h.1 fun x hx => alike_refl n x (h.2 x hx)
  | n + 1, .list ds, h => by
    simp only [alD, Bool.and_eq_true, decide_eq_true_eq, List.all_eq_true] at h
    exact alike_seq (F_law_alike (n + 1)) _ ds (.inl rfl) h.1 fun x hx => alike_refl n x (h.2 x hx)
end
end Pw
set_option maxRecDepth 100000
namespace Pw
open PySem PySem.Spec L2 Pv
section
variable {p q r g a b : P2} {w h : Nat} {i j k : Nat}
/-- one crossing more -/
def add1 (st : List P2 × List P2) (t : P2) : List P2 × List P2 := if t ∈ st.1 then st else (st.1 ++ [t], st.2 ++ [t])
structure Bw where
  f : List P2
  l : List P2
  s3 : Slot
  s4 : Slot
  s5 : Slot
def lastP (l : List P2) : P2 := l.getLast?.getD (0, 0)
def stepW (w h : Nat) (a b : P2) (x : Bw) : Bw :=
  let p := lastP x.l
  let y := add1 (add1 (x.f, x.l.dropLast) (ad w h p a)) (ad w h p b)
  ⟨y.1, y.2, .val (pE p), .val (pE b), .val (pE (ad w h p b))⟩
structure PW (w h : Nat) (x : Bw) : Prop where
  nd : x.f.Nodup
  inr : ∀ q ∈ x.f, q ∈ crs w h
  n3 : isLent x.s3 = false
  n4 : isLent x.s4 = false
  n5 : isLent x.s5 = false
  ll : x.l.length ≤ 1000
theorem add1_ok (hw : 0 < w) (hh : 0 < h) {st : List P2 × List P2} {t : P2} (ht : inR w h t) (h1 : st.1.Nodup) (h2 : ∀ q ∈ st.1, q ∈ crs w h) : (add1 st t).1.Nodup ∧ (∀ q ∈ (add1 st t).1, q ∈ crs w h) ∧ (add1 st t).2.length + st.1.length = st.2.length + (add1 st t).1.length ∧ st.1.length ≤ (add1 st t).1.length := by
  unfold add1
  by_cases hm : t ∈ st.1
  · rw [if_pos hm]
    exact ⟨h1, h2, rfl, Nat.le_refl _⟩
  · rw [if_neg hm]
    refine ⟨?_, fun q hq => ?_, ?_, ?_⟩
    · refine List.nodup_append.mpr ⟨h1, by simp, fun x hx y hy e => ?_⟩
      rw [List.mem_singleton] at hy
      subst hy e
      exact hm hx
    · rcases List.mem_append.mp hq with hq | hq
      · exact h2 q hq
      · rw [List.mem_singleton] at hq
        subst hq
        exact mem_crs.mpr ht
    · simp; omega
    · simp
def mW (w h : Nat) (x : Bw) : Nat := 2 * (w * h - x.f.length) + x.l.length
theorem stepW_ok (hw : 0 < w) (hh : 0 < h) (h144 : w * h ≤ 144) {x : Bw} (hx : PW w h x) (hl : x.l ≠ []) (hb : x.l.length ≤ x.f.length) : PW w h (stepW w h a b x) ∧ mW w h (stepW w h a b x) < mW w h x ∧ (stepW w h a b x).l.length ≤ (stepW w h a b x).f.length := by
  obtain ⟨a1, a2, a3, a4⟩ := add1_ok hw hh (st := (x.f, x.l.dropLast)) (t := ad w h (lastP x.l) a) (inR_ad hw hh) hx.nd hx.inr
  obtain ⟨b1, b2, b3, b4⟩ := add1_ok hw hh (st := add1 (x.f, x.l.dropLast) (ad w h (lastP x.l) a)) (t := ad w h (lastP x.l) b) (inR_ad hw hh) a1 a2
  have hlp : 0 < x.l.length := List.length_pos_iff.mpr hl
  have l1 : (stepW w h a b x).f.length ≤ w * h := by rw [← crs_length]; exact nodup_len b1 b2
  have l0 : x.f.length ≤ w * h := by rw [← crs_length]; exact nodup_len hx.nd hx.inr
  have ed : x.l.dropLast.length = x.l.length - 1 := List.length_dropLast
  simp only at a3 a4
  rw [ed] at a3
  have e1 : (stepW w h a b x).f = (add1 (add1 (x.f, x.l.dropLast) (ad w h (lastP x.l) a)) (ad w h (lastP x.l) b)).1 := rfl
  have e2 : (stepW w h a b x).l = (add1 (add1 (x.f, x.l.dropLast) (ad w h (lastP x.l) a)) (ad w h (lastP x.l) b)).2 := rfl
  rw [e1] at l1
  refine ⟨⟨b1, b2, rfl, rfl, rfl, ?_⟩, ?_, ?_⟩
  · rw [e2]; omega
  · unfold mW
    rw [e1, e2]
    omega
  · rw [e1, e2]; omega
@[simp] theorem gSl_tE : gSl (tE w h a b) (some 2) none = some (.val (.tuple [pE a, pE b])) := rfl
@[simp] theorem forL_nil {tg : GF} {body : SF} {ρ : Rho} : forL tg body [] ρ = .nx ρ := rfl
theorem forL_one {tg : GF} {body : SF} {d : PyData} {ds : List PyData} {ρ ρ1 ρ2 : Rho} (h1 : tg d ρ = some ρ1) (h2 : body ρ1 = .nx ρ2) : forL tg body (d :: ds) ρ = forL tg body ds ρ2 := by
  show (match tg d ρ with | none => _ | some ρ1 => _) = _
  simp only [h1, h2]
theorem last_pE {l : List P2} (hl : l ≠ []) : (l.map pE)[(l.map pE).length - 1]? = some (pE (lastP l)) := by
  rw [List.length_map, List.getElem?_map, ← List.getLast?_eq_getElem?]
  unfold lastP
  rw [List.getLast?_eq_getLast hl]
  rfl
theorem gNe_empty (l : List P2) : gNe (.list (l.map pE)) (.list []) = some (.val (.bool (!l.isEmpty))) := by
  unfold gNe eqD?
  rw [shp_lpE, show SeqAt.shaped (.list []) = true from rfl]
  cases l <;> rfl
/-! the law's own search -/
def lawInner : SF := gSeq (gSet 5 (fCall F_law_led (cConsF (fVar 0) (cConsF (fVar 3) (cConsF (fVar 4) rNil)))))
    (gIf (fB (fOp gNotIn (fVar 5) (fVar 1))) (gSeq (gExpr (fAppend (fVar 1) (fVar 5)))
    (gExpr (fAppend (fVar 2) (fVar 5)))) gSkip)
theorem lawInner_eq (hw : 0 < w) (hh : 0 < h) (st : List P2 × List P2) (s : P2) (s5 : Slot) (h5 : isLent s5 = false) (l1 : st.1.length ≤ 10000) (l2 : st.2.length ≤ 10000) :
    lawInner [.val (tE w h a b), .own (.lst (st.1.map pE)), .own (.lst (st.2.map pE)), .val (pE p), .val (pE s), s5] =
      .nx [.val (tE w h a b), .own (.lst ((add1 st (ad w h p s)).1.map pE)), .own (.lst ((add1 st (ad w h p s)).2.map pE)), .val (pE p), .val (pE s), .val (pE (ad w h p s))] := by
  have m1 : st.1.length < 16777216 := by omega
  have m2 : st.2.length < 16777216 := by omega
  by_cases hm : ad w h p s ∈ st.1
  · simp [lawInner, F_led_eq hw hh, h5, hm, add1]
  · simp [lawInner, F_led_eq hw hh, h5, hm, add1, m1, m2]
def RW1 (w h : Nat) (a b : P2) (x : Bw) : Rho := [.val (tE w h a b), .own (.lst (x.f.map pE)), .own (.lst (x.l.map pE)), x.s3, x.s4, x.s5]
def PB (w h : Nat) (x : Bw) : Prop := PW w h x ∧ x.l.length ≤ x.f.length
theorem len_le (hx : PW w h x) (h144 : w * h ≤ 144) : x.f.length ≤ 144 := by
  have := nodup_len hx.nd hx.inr
  rw [crs_length] at this
  omega
theorem law_body (hw : 0 < w) (hh : 0 < h) (h144 : w * h ≤ 144) {x : Bw} (hx : PB w h x) (hl : x.l ≠ []) :
    (gSeq (gSet 3 (fPop (fVar 2))) (gFor (fISeq (fSl (fVar 0) (fPart (fC (.int 2))) fNoPart)) (gtName 4) lawInner)) (RW1 w h a b x) = .nx (RW1 w h a b (stepW w h a b x)) := by
  have lf := len_le hx.1 h144
  have h3 := hx.1.n3
  have h4 := hx.1.n4
  have h5 := hx.1.n5
  have lp := last_pE hl
  have hb := hx.2
  have ed : x.l.dropLast.length = x.l.length - 1 := List.length_dropLast
  obtain ⟨a1, a2, a3, a4⟩ := add1_ok hw hh (st := (x.f, x.l.dropLast)) (t := ad w h (lastP x.l) a) (inR_ad hw hh) hx.1.nd hx.1.inr
  have lf2 : (add1 (x.f, x.l.dropLast) (ad w h (lastP x.l) a)).1.length ≤ 144 := by
    have := nodup_len a1 a2
    rw [crs_length] at this
    omega
  simp only at a3 a4
  have i1 := lawInner_eq (a := a) (b := b) (p := lastP x.l) hw hh (x.f, x.l.dropLast) a x.s5 h5 (by simp only; omega) (by simp only; omega)
  have i2 := lawInner_eq (a := a) (b := b) (p := lastP x.l) hw hh (add1 (x.f, x.l.dropLast) (ad w h (lastP x.l) a)) b (.val (pE (ad w h (lastP x.l) a))) rfl (by omega) (by omega)
  have ep : (gSet 3 (fPop (fVar 2))) (RW1 w h a b x) = .nx [.val (tE w h a b), .own (.lst (x.f.map pE)), .own (.lst (x.l.dropLast.map pE)), .val (pE (lastP x.l)), x.s4, x.s5] := by
    unfold RW1
    simp only [s_gSet, s_fPop]
    simp only [s_fVar, List.getElem?_cons_succ, List.getElem?_cons_zero, s_bind1, s_mo1, s_popD, lp]
    simp [h3]
  have e4 : forL (gtName 4) lawInner [pE a, pE b] [.val (tE w h a b), .own (.lst (x.f.map pE)), .own (.lst (x.l.dropLast.map pE)), .val (pE (lastP x.l)), x.s4, x.s5] = .nx (RW1 w h a b (stepW w h a b x)) := by
    rw [forL_one (ρ1 := [.val (tE w h a b), .own (.lst (x.f.map pE)), .own (.lst (x.l.dropLast.map pE)), .val (pE (lastP x.l)), .val (pE a), x.s5]) (by simp [h4]) i1]
    rw [forL_one (ρ1 := [.val (tE w h a b), .own (.lst ((add1 (x.f, x.l.dropLast) (ad w h (lastP x.l) a)).1.map pE)), .own (.lst ((add1 (x.f, x.l.dropLast) (ad w h (lastP x.l) a)).2.map pE)), .val (pE (lastP x.l)), .val (pE b), .val (pE (ad w h (lastP x.l) a))]) (by simp) i2]
    rfl
  simp only [s_gSeq, ep]
  simp only [List.map_dropLast] at e4
  simp [e4]
def x0 : Bw := ⟨[(0, 0)], [(0, 0)], .no, .no, .no⟩
theorem x0_ok (hw : 0 < w) (hh : 0 < h) : PB w h x0 := by
  refine ⟨⟨by simp [x0], fun q hq => ?_, rfl, rfl, rfl, by simp [x0]⟩, by simp [x0]⟩
  have : q = (0, 0) := by simpa [x0] using hq
  subst this
  exact mem_crs.mpr (by simp; omega)
theorem F_law_is_whole_eq (t : TOk w h a b) : ∃ k, F_law_is_whole [.val (tE w h a b)] = .ok (.val (.bool (decide (((Nat.repeat (stepW w h a b) k x0).f.length : Int) = w * h)))) none ∧ (Nat.repeat (stepW w h a b) k x0).l = [] ∧ (∀ j < k, (Nat.repeat (stepW w h a b) j x0).l ≠ []) ∧ PB w h (Nat.repeat (stepW w h a b) k x0) := by
  have hw : 0 < w := t.w1
  have hh : 0 < h := t.h1
  have h144 := t.wh144
  obtain ⟨k, e, g1, g2, g3⟩ := whileL_run (t := fB (fOp gNe (fVar 2) (fLst fNil))) (body := gSeq (gSet 3 (fPop (fVar 2))) (gFor (fISeq (fSl (fVar 0) (fPart (fC (.int 2))) fNoPart)) (gtName 4) lawInner)) (RW1 w h a b) (fun x => !x.l.isEmpty) (stepW w h a b) (PB w h) (mW w h)
    (fun x hx => by simp [RW1, gNe_empty]) (fun x hx hg => by
      have hl : x.l ≠ [] := by
        intro z
        rw [z] at hg
        simp at hg
      obtain ⟨s1, s2, s3⟩ := stepW_ok (a := a) (b := b) hw hh h144 hx.1 hl hx.2
      exact ⟨law_body hw hh h144 hx hl, ⟨s1, s3⟩, s2⟩) 1000 x0 (x0_ok hw hh) (by unfold mW; simp [x0]; omega)
  refine ⟨k, ?_, by simpa using g1, fun j hj z => by
    have := g3 j hj
    rw [z] at this
    simp at this, g2⟩
  have s64 := sm_nat w (by have := t.w2; omega)
  have n3 := g2.1.n3
  have n4 := g2.1.n4
  have n5 := g2.1.n5
  have er : RW1 w h a b x0 = [.val (tE w h a b), .own (.lst [pE (0, 0)]), .own (.lst [pE (0, 0)]), .no, .no, .no] := rfl
  rw [er] at e
  simp only [F_law_is_whole, g_law_is_whole]
  simp [gWhile_eq, p00]
  unfold lawInner at e
  rw [e]
  unfold RW1
  simp [s64, lentM_ns n3, lentM_ns n4, lentM_ns n5]
end
end Pw
set_option maxRecDepth 100000
namespace Pw
open PySem PySem.Spec L2 Pv
section
variable {p q r g a b : P2} {w h : Nat} {i j k : Nat}
def kE (p : P2) : List Key := [.inl p.1, .inl p.2]
def kT (p : P2) : List Key × PyData := (kE p, .bool true)
theorem keys_pE (p : P2) : keysOf [.int p.1, .int p.2] = some (kE p) := rfl
theorem dTd_eq (f : List P2) : dTd (f.map kT) = (.none, .bool true) :: f.map fun p => (pE p, PyData.bool true) := by
  unfold dTd
  rw [List.map_map]
  rfl
theorem dlook_pE (q : P2) : ∀ f : List P2, (dlook (f.map fun p => (pE p, PyData.bool true)) (pE q)).isSome = decide (q ∈ f)
  | [] => by simp [dlook]
  | p :: f => by
    have ih := dlook_pE q f
    unfold dlook at ih ⊢
    rw [List.map_cons, List.find?_cons]
    simp only [eqv_pE]
    by_cases e : p = q
    · simp [e]
    · simp only [decide_eq_false e]
      rw [ih]
      have e' : ¬ q = p := fun z => e z.symm
      simp [e']
@[simp] theorem gNotIn_kT (q : P2) (f : List P2) : gNotIn (pE q) (.dict (dTd (f.map kT))) = some (.val (.bool (!decide (q ∈ f)))) := by
  have h1 : in? (pE q) (.dict (dTd (f.map kT))) = some (decide (q ∈ f)) := by
    rw [dTd_eq]
    unfold in?
    dsimp only
    have h2 : dget? ((.none, .bool true) :: f.map fun p => (pE p, PyData.bool true)) (pE q) = some (dlook (f.map fun p => (pE p, PyData.bool true)) (pE q)) := rfl
    rw [h2]
    simp [dlook_pE]
  unfold gNotIn
  rw [h1]
  rfl
theorem kE_inj {p q : P2} (h : kE p = kE q) : p = q := by
  obtain ⟨p1, p2⟩ := p
  obtain ⟨q1, q2⟩ := q
  simp [kE] at h
  simp [h]
theorem put_kT {f : List P2} (hq : q ∉ f) : putKD (f.map kT) (kE q) (.bool true) = (f ++ [q]).map kT := by
  unfold putKD
  have : ((f.map kT).any fun p => decide (p.1 = kE q)) = false := by
    rw [List.any_eq_false]
    intro x hx
    obtain ⟨p, hp, rfl⟩ := List.mem_map.mp hx
    intro z
    have := kE_inj (of_decide_eq_true z)
    exact hq (by rw [← this]; exact hp)
  rw [this]
  simp [kT]
theorem setK_pE {s : Slot} {ρ : Rho} {f : List P2} (hq : q ∉ f) (hl : f.length < 16777216) : setK j s (pE q) (.bool true) ρ (.dT (f.map kT)) = some (ρ.set j (s.put (.dT ((f ++ [q]).map kT)))) := by
  show (match keysOf [.int q.1, .int q.2] with
    | some ks => if (f.map kT).length < 16777216 then some (ρ.set j (s.put (.dT (putKD (f.map kT) ks (.bool true))))) else none
    | none => none) = _
  rw [keys_pE]
  simp only [List.length_map, if_pos hl, put_kT hq]
def rchInner : SF := gSeq (gSet 5 (fCall F_added (cConsF (fVar 0) (cConsF (fVar 3) (cConsF (fVar 4) rNil)))))
    (gIf (fB (fOp gNotIn (fVar 5) (fVar 1))) (gSeq (gSetK (fVar 1) (fVar 5) (fC (.bool true)))
    (gExpr (fAppend (fVar 2) (fVar 5)))) gSkip)
theorem rchInner_eq (hw : 0 < w) (hh : 0 < h) (st : List P2 × List P2) (s : P2) (s5 : Slot) (h5 : isLent s5 = false) (l1 : st.1.length ≤ 10000) (l2 : st.2.length ≤ 10000) :
    rchInner [.val (tE w h a b), .own (.dT (st.1.map kT)), .own (.lst (st.2.map pE)), .val (pE p), .val (pE s), s5] =
      .nx [.val (tE w h a b), .own (.dT ((add1 st (ad w h p s)).1.map kT)), .own (.lst ((add1 st (ad w h p s)).2.map pE)), .val (pE p), .val (pE s), .val (pE (ad w h p s))] := by
  have m1 : st.1.length < 16777216 := by omega
  have m2 : st.2.length < 16777216 := by omega
  by_cases hm : ad w h p s ∈ st.1
  · simp [rchInner, F_added_eq hw hh, h5, hm, add1]
  · simp [rchInner, F_added_eq hw hh, h5, hm, add1, m1, m2, setK_pE hm m1, -List.map_append]
    rw [List.map_append]
    rfl
def RW2 (w h : Nat) (a b : P2) (x : Bw) : Rho := [.val (tE w h a b), .own (.dT (x.f.map kT)), .own (.lst (x.l.map pE)), x.s3, x.s4, x.s5]
theorem rch_body (hw : 0 < w) (hh : 0 < h) (h144 : w * h ≤ 144) {x : Bw} (hx : PB w h x) (hl : x.l ≠ []) :
    (gSeq (gSet 3 (fPop (fVar 2))) (gFor (fISeq (fSl (fVar 0) (fPart (fC (.int 2))) fNoPart)) (gtName 4) rchInner)) (RW2 w h a b x) = .nx (RW2 w h a b (stepW w h a b x)) := by
  have lf := len_le hx.1 h144
  have h3 := hx.1.n3
  have h4 := hx.1.n4
  have h5 := hx.1.n5
  have lp := last_pE hl
  have hb := hx.2
  have ed : x.l.dropLast.length = x.l.length - 1 := List.length_dropLast
  obtain ⟨a1, a2, a3, a4⟩ := add1_ok hw hh (st := (x.f, x.l.dropLast)) (t := ad w h (lastP x.l) a) (inR_ad hw hh) hx.1.nd hx.1.inr
  have lf2 : (add1 (x.f, x.l.dropLast) (ad w h (lastP x.l) a)).1.length ≤ 144 := by
    have := nodup_len a1 a2
    rw [crs_length] at this
    omega
  simp only at a3 a4
  have i1 := rchInner_eq (a := a) (b := b) (p := lastP x.l) hw hh (x.f, x.l.dropLast) a x.s5 h5 (by simp only; omega) (by simp only; omega)
  have i2 := rchInner_eq (a := a) (b := b) (p := lastP x.l) hw hh (add1 (x.f, x.l.dropLast) (ad w h (lastP x.l) a)) b (.val (pE (ad w h (lastP x.l) a))) rfl (by omega) (by omega)
  have ep : (gSet 3 (fPop (fVar 2))) (RW2 w h a b x) = .nx [.val (tE w h a b), .own (.dT (x.f.map kT)), .own (.lst (x.l.dropLast.map pE)), .val (pE (lastP x.l)), x.s4, x.s5] := by
    unfold RW2
    simp only [s_gSet, s_fPop]
    simp only [s_fVar, List.getElem?_cons_succ, List.getElem?_cons_zero, s_bind1, s_mo1, s_popD, lp]
    simp [h3]
  have e4 : forL (gtName 4) rchInner [pE a, pE b] [.val (tE w h a b), .own (.dT (x.f.map kT)), .own (.lst (x.l.dropLast.map pE)), .val (pE (lastP x.l)), x.s4, x.s5] = .nx (RW2 w h a b (stepW w h a b x)) := by
    rw [forL_one (ρ1 := [.val (tE w h a b), .own (.dT (x.f.map kT)), .own (.lst (x.l.dropLast.map pE)), .val (pE (lastP x.l)), .val (pE a), x.s5]) (by simp [h4]) i1]
    rw [forL_one (ρ1 := [.val (tE w h a b), .own (.dT ((add1 (x.f, x.l.dropLast) (ad w h (lastP x.l) a)).1.map kT)), .own (.lst ((add1 (x.f, x.l.dropLast) (ad w h (lastP x.l) a)).2.map pE)), .val (pE (lastP x.l)), .val (pE b), .val (pE (ad w h (lastP x.l) a))]) (by simp) i2]
    rfl
  simp only [s_gSeq, ep]
  simp only [List.map_dropLast] at e4
  simp [e4]
theorem F_reached_eq (t : TOk w h a b) : ∃ k, F_reached_of [.val (tE w h a b)] = .ok (.own (.dT ((Nat.repeat (stepW w h a b) k x0).f.map kT))) none ∧ (Nat.repeat (stepW w h a b) k x0).l = [] ∧ (∀ j < k, (Nat.repeat (stepW w h a b) j x0).l ≠ []) := by
  have hw : 0 < w := t.w1
  have hh : 0 < h := t.h1
  have h144 := t.wh144
  obtain ⟨k, e, g1, g2, g3⟩ := whileL_run (t := fT (fVar 2)) (body := gSeq (gSet 3 (fPop (fVar 2))) (gFor (fISeq (fSl (fVar 0) (fPart (fC (.int 2))) fNoPart)) (gtName 4) rchInner)) (RW2 w h a b) (fun x => !x.l.isEmpty) (stepW w h a b) (PB w h) (mW w h)
    (fun x hx => by simp [RW2]) (fun x hx hg => by
      have hl : x.l ≠ [] := by
        intro z
        rw [z] at hg
        simp at hg
      obtain ⟨s1, s2, s3⟩ := stepW_ok (a := a) (b := b) hw hh h144 hx.1 hl hx.2
      exact ⟨rch_body hw hh h144 hx hl, ⟨s1, s3⟩, s2⟩) 1000 x0 (x0_ok hw hh) (by unfold mW; simp [x0]; omega)
  refine ⟨k, ?_, by simpa using g1, fun j hj z => by
    have := g3 j hj
    rw [z] at this
    simp at this⟩
  have n3 := g2.1.n3
  have n4 := g2.1.n4
  have n5 := g2.1.n5
  have er : RW2 w h a b x0 = [.val (tE w h a b), .own (.dT [(kE (0, 0), .bool true)]), .own (.lst [pE (0, 0)]), .no, .no, .no] := rfl
  rw [er] at e
  have ek : keysOf [.int 0, .int 0] = some (kE (0, 0)) := rfl
  simp only [F_reached_of, g_reached_of]
  simp [gWhile_eq, ek]
  rw [p00]
  unfold rchInner at e
  rw [e]
  unfold RW2
  simp [lentM_ns n3, lentM_ns n4, lentM_ns n5]
theorem dlen_kT (f : List P2) : dlen (dTd (f.map kT)) = f.length := by
  rw [dTd_eq]
  simp [dlen]
theorem whole_same (t : TOk w h a b) : ∃ c : Bool, F_is_whole [.val (tE w h a b)] = .ok (.val (.bool c)) none ∧ F_law_is_whole [.val (tE w h a b)] = .ok (.val (.bool c)) none := by
  obtain ⟨k, e, k1, k2, _⟩ := F_law_is_whole_eq t
  obtain ⟨j, f, j1, j2⟩ := F_reached_eq t
  have ekj : j = k := first_time (g := fun i => !(Nat.repeat (stepW w h a b) i x0).l.isEmpty) (by simp [j1]) (fun i hi => by simpa using j2 i hi) (by simp [k1]) (fun i hi => by simpa using k2 i hi)
  subst ekj
  refine ⟨_, ?_, e⟩
  have s64 := sm_nat w (by have := t.w2; omega)
  simp [F_is_whole, g_is_whole, F_need_town_eq t, F_is_whole_of, g_is_whole_of, f, dlen_kT, s64]
end
end Pw
set_option maxRecDepth 100000
namespace Pw
open PySem PySem.Spec L2 Pv
theorem forL_inv {tg : GF} {body : SF} (I : Rho → Prop) : ∀ (l : List PyData) (ρ : Rho), I ρ → (∀ d ∈ l, ∀ ρ, I ρ → ∃ ρ1 ρ2, tg d ρ = some ρ1 ∧ body ρ1 = .nx ρ2 ∧ I ρ2) → ∃ ρ', forL tg body l ρ = .nx ρ' ∧ I ρ'
  | [], ρ, h, _ => ⟨ρ, rfl, h⟩
  | d :: l, ρ, h, hs => by
    obtain ⟨ρ1, ρ2, h1, h2, h3⟩ := hs d List.mem_cons_self ρ h
    obtain ⟨ρ', e, q⟩ := forL_inv I l ρ2 h3 fun x hx => hs x (List.mem_cons_of_mem _ hx)
    exact ⟨ρ', by rw [forL_one h1 h2]; exact e, q⟩
section
variable {p q r g a b : P2} {w h : Nat} {i j k : Nat}
theorem alD_pE (n : Nat) (p : P2) : alD (n + 1) (pE p) = true := by
  cases n <;> simp [pE, alD]
theorem alD_lE (n : Nat) (l : List P2) (hl : l.length ≤ 100000) : alD (n + 2) (lE l) = true := by
  simp [lE, alD, hl, alD_pE]
theorem alD_int (n : Nat) (x : Int) : alD n (.int x) = true := by cases n <;> rfl
theorem fB_mem {d : Nat} {m : List P2} : ∀ (l : List P2), m ∈ fB_ w h g d l → m.length ≤ d := by
  have key : ∀ (l : List P2) (f : List (List P2)), (∀ m ∈ f, m.length ≤ d) → ∀ m ∈ l.foldl (stepB w h g d) f, m.length ≤ d := by
    intro l
    induction l with
    | nil => intro f hf m hm; exact hf m hm
    | cons q l ih =>
      intro f hf m hm
      refine ih (stepB w h g d f q) (fun x hx => ?_) m hm
      unfold stepB at hx
      split at hx
      · exact hf x hx
      · rcases List.mem_append.mp hx with hx | hx
        · exact hf x hx
        · rw [List.mem_singleton] at hx
          rw [hx, (sortP_perm _).length_eq, cos_length]
          exact Nat.le_refl _
  intro l hm
  exact key l [] (fun _ z => by cases z) m hm
theorem law_true (ns : List Int) (hl : ns.length ≤ 63) : F_law [.val (.list (ns.map PyData.int))] = .ok (.val (.bool true)) none := by
  have er : MO.lst [.list (ns.map PyData.int), .int 0, .int 6101, .int 0] = rwD ns ⟨0, 6101, 0⟩ := rfl
  obtain ⟨w, h, a, b, r1, et, t, hwh⟩ := F_town_eq ns hl ⟨0, 6101, 0⟩ 12 48 (by omega) (by omega) (by omega) (by omega)
  have et : F_law_town [.lent (rwD ns ⟨0, 6101, 0⟩), .val (.int 12), .val (.int 48)] = .ok (.val (tE w h a b)) (some (rwD ns r1)) := et
  have hw : 0 < w := t.w1
  have hh : 0 < h := t.h1
  have h144 := t.wh144
  obtain ⟨c, c1, c2⟩ := whole_same t
  have ac : F_law_alike 6 [.val (.bool c), .val (.bool c)] = .ok (.val (.bool true)) none := alike_refl 5 _ rfl
  obtain ⟨d, o⟩ := od_ex hw hh (sb w h a b)
  have cl := crs_length w h
  have hc := F_crossings_eq (T := tE w h a b) wh_tE (by have := t.w2; omega) (by have := t.h2; omega)
  have loop := forL_inv (tg := gtName 3) (body := gSeq (gSet 4 (fCall F_law_pick (cCons (fVar 1) (cCons (fCall F_law_crossings (cConsF (fVar 2) rNil)) rNil))))
    (gSeq (gSet 5 (fTup (fCons (fCall F_law_led (cConsF (fVar 2) (cConsF (fVar 4) (cCons (fOp gIx (fVar 2) (fC (.int 2))) rNil)))) (fCons (fCall F_law_led (cConsF (fVar 2) (cConsF (fVar 4) (cCons (fOp gIx (fVar 2) (fC (.int 3))) rNil)))) fNil))))
    (gIf (fNot (fT (fCall (F_law_alike 6) (cCons (fLst (fCons (fCall F_ends (cConsF (fVar 2) (cConsF (fVar 4) rNil))) (fCons (fCall F_order (cConsF (fVar 2) (cConsF (fVar 4) rNil))) fNil))) (cCons (fLst (fCons (fVar 5) (fCons (fCB gLen (rCons (fCall F_law_row (cConsF (fVar 2) (cConsF (fVar 4) rNil))) rNil)) fNil))) rNil))))) (gRet (fC (.bool false))) gSkip)))
    (fun ρ => ∃ r s3 s4 s5, isLent s3 = false ∧ isLent s4 = false ∧ isLent s5 = false ∧ ρ = [.val (.list (ns.map PyData.int)), .own (rwD ns r), .val (tE w h a b), s3, s4, s5, .no]) (rangeD 0 4)
    [.val (.list (ns.map PyData.int)), .own (rwD ns r1), .val (tE w h a b), .no, .no, .no, .no] ⟨r1, .no, .no, .no, rfl, rfl, rfl, rfl⟩ (by
      rintro d _ ρ ⟨r, s3, s4, s5, h3, h4, h5, rfl⟩
      obtain ⟨x, r', e, hx⟩ := F_pick_eq ns hl r ((crs w h).map pE) (by
        intro z
        have := congrArg List.length z
        have := t.wh
        simp [cl] at *
        omega) (by rw [List.length_map, cl]; omega)
      obtain ⟨p, hp, rfl⟩ := List.mem_map.mp hx
      have hpR := mem_crs.mp hp
      obtain ⟨n, on⟩ := od_ex hw hh p
      have hn : n < 999 := by have := on.le; omega
      have e1 := F_ends_eq t hpR
      have e2 := F_order_eq t hpR on hn
      have e3 := F_row_eq (a := a) (b := b) hw hh hpR on hn
      have al : F_law_alike 6 [.val (.list [.tuple [pE (ad w h p a), pE (ad w h p b)], .int n]), .val (.list [.tuple [pE (ad w h p a), pE (ad w h p b)], .int n])] = .ok (.val (.bool true)) none := alike_refl 5 _ (by simp [alD, alD_pE, alD_int])
      refine ⟨[.val (.list (ns.map PyData.int)), .own (rwD ns r), .val (tE w h a b), .val d, s4, s5, .no], [.val (.list (ns.map PyData.int)), .own (rwD ns r'), .val (tE w h a b), .val d, .val (pE p), .val (.tuple [pE (ad w h p a), pE (ad w h p b)]), .no], by simp [h3], ?_, ⟨r', _, _, _, rfl, rfl, rfl, rfl⟩⟩
      simp [hc, e, h4, h5, F_led_eq hw hh, e1, e2, e3, al])
  obtain ⟨ρ', el, r2, s3, s4, s5, h3, h4, h5, rfl⟩ := loop
  have hfl : (fB_ w h (sb w h a b) d (crs w h)).length ≤ 144 := by have := fB_len (w := w) (h := h) (g := sb w h a b) (d := d) (crs w h); omega
  have el1 := F_lots_eq t o
  have el2 := F_count_plans_eq t o (by rw [lots_same hw hh o (by omega)]; omega)
  have el3 := F_lawlots_eq t o
  rw [lots_same hw hh o (by omega)] at el1 el2
  have hz : ((fB_ w h (sb w h a b) d (crs w h)).length : Int) ≤ 1000000 := by omega
  have al : F_law_alike 6 [.val (.list [.tuple ((fB_ w h (sb w h a b) d (crs w h)).map lE), .int (1 * 2 ^ (fB_ w h (sb w h a b) d (crs w h)).length)]), .val (.list [.tuple ((fB_ w h (sb w h a b) d (crs w h)).map lE), .int (1 * 2 ^ (fB_ w h (sb w h a b) d (crs w h)).length)])] = .ok (.val (.bool true)) none := by
    refine alike_refl 5 _ ?_
    have hd := o.le
    have q1 : ∀ m ∈ fB_ w h (sb w h a b) d (crs w h), alD 3 (lE m) = true := fun m hm => alD_lE 1 m (by have := fB_mem _ hm; omega)
    have q2 : (fB_ w h (sb w h a b) d (crs w h)).length ≤ 100000 := by omega
    simp [alD, alD_int, q2]
    exact q1
  have ok4 : okR 4 = true := rfl
  simp only [F_law, g_law]
  simp [er, et, F_is_town_eq t, c1, c2, ac, ok4]
  rw [el]
  simp only [Int.one_mul] at el2 al
  simp [el1, el2, el3, hz, al, lentM_ns h3, lentM_ns h4, lentM_ns h5]
end
end Pw
set_option maxRecDepth 100000
namespace Pw
open PySem PySem.Spec L2 Pv
end Pw
open PySem PySem.W PyProof.Rows
set_option maxHeartbeats 0 in
theorem PySem.Challenge.cw_roundstreets_k01_whole_towns_holds : PySem.Challenge.rw_roundstreets_k01_whole_towns.Holds := by
  w_on; o_law; k_head; (case hw => w_witness2)
  k_fill
  refine L2.walk_of (l := PySem.Challenge.rw_roundstreets_k01_whole_towns) (n := 63) (k := 8) (x := "_law_script") (CX := fun w => L2.CX PySem.Challenge.pw_roundstreets_k01_whole_towns w) (sp := fun w => Pv.spF _ 1 Pw.F_law) rfl (by decide) rfl ⟨rfl, by decide, by decide⟩ (fun w h Y => PySem.W.kIn_of Y) ?F (fun w H a ns hl _ hS => Pv.spF_law (Pw.law_true ns hl) hS) (fun _ _ _ _ _ h => Pv.cx_end h)
  case F =>
    intro w mg fa h KX G hmg
    refine' Pw.all_mk KX G hmg ?a0 ?l0 ?c0 ?k0 ?a1 ?l1 ?c1 ?k1 ?a2 ?l2 ?c2 ?k2 ?a3 ?l3 ?c3 ?k3 ?a4 ?l4 ?c4 ?k4 ?a5 ?l5 ?c5 ?k5 ?a6 ?l6 ?c6 ?k6 ?a7 ?l7 ?c7 ?k7 ?a8 ?l8 ?c8 ?k8 ?a9 ?l9 ?c9 ?k9 ?a10 ?l10 ?c10 ?k10 ?a11 ?l11 ?c11 ?k11 ?a12 ?l12 ?c12 ?k12 ?a13 ?l13 ?c13 ?k13 ?a14 ?l14 ?c14 ?k14 ?a15 ?l15 ?c15 ?k15 ?a16 ?l16 ?c16 ?k16 ?a17 ?l17 ?c17 ?k17 ?a18 ?l18 ?c18 ?k18 ?a19 ?l19 ?c19 ?k19 ?a20 ?l20 ?c20 ?k20 ?a21 ?l21 ?c21 ?k21 ?a22 ?l22 ?c22 ?k22 ?a23 ?l23 ?c23 ?k23 ?a24 ?l24 ?c24 ?k24 ?a25 ?l25 ?c25 ?k25 ?a26 ?l26 ?c26 ?k26 ?a27 ?l27 ?c27 ?k27 ?a28 ?l28 ?c28 ?k28 ?z_int ?z_len ?z_range ?z_min ?z_isinstance ?z_bool ?z_tuple ?z_list ?z_str ?z_sorted ?g_MOST_SIDE
    (case a0 => k_is); (case l0 => k_is); (case c0 => k_is); (case k0 => k_is); (case a1 => k_is); (case l1 => k_is); (case c1 => k_is); (case k1 => k_is); (case a2 => k_is); (case l2 => k_is); (case c2 => k_is); (case k2 => k_is); (case a3 => k_is); (case l3 => k_is); (case c3 => k_is); (case k3 => k_is); (case a4 => k_is); (case l4 => k_is); (case c4 => k_is); (case k4 => k_is); (case a5 => k_is); (case l5 => k_is); (case c5 => k_is); (case k5 => k_is); (case a6 => k_is); (case l6 => k_is); (case c6 => k_is); (case k6 => k_is); (case a7 => k_is); (case l7 => k_is); (case c7 => k_is); (case k7 => k_is); (case a8 => k_is); (case l8 => k_is); (case c8 => k_is); (case k8 => k_is); (case a9 => k_is); (case l9 => k_is); (case c9 => k_is); (case k9 => k_is); (case a10 => k_is); (case l10 => k_is); (case c10 => k_is); (case k10 => k_is); (case a11 => k_is); (case l11 => k_is); (case c11 => k_is); (case k11 => k_is); (case a12 => k_is); (case l12 => k_is); (case c12 => k_is); (case k12 => k_is); (case a13 => k_is); (case l13 => k_is); (case c13 => k_is); (case k13 => k_is); (case a14 => k_is); (case l14 => k_is); (case c14 => k_is); (case k14 => k_is); (case a15 => k_is); (case l15 => k_is); (case c15 => k_is); (case k15 => k_is); (case a16 => k_is); (case l16 => k_is); (case c16 => k_is); (case k16 => k_is); (case a17 => k_is); (case l17 => k_is); (case c17 => k_is); (case k17 => k_is); (case a18 => k_is); (case l18 => k_is); (case c18 => k_is); (case k18 => k_is); (case a19 => k_is); (case l19 => k_is); (case c19 => k_is); (case k19 => k_is); (case a20 => k_is); (case l20 => k_is); (case c20 => k_is); (case k20 => k_is); (case a21 => k_is); (case l21 => k_is); (case c21 => k_is); (case k21 => k_is); (case a22 => k_is); (case l22 => k_is); (case c22 => k_is); (case k22 => k_is); (case a23 => k_is); (case l23 => k_is); (case c23 => k_is); (case k23 => k_is); (case a24 => k_is); (case l24 => k_is); (case c24 => k_is); (case k24 => k_is); (case a25 => k_is); (case l25 => k_is); (case c25 => k_is); (case k25 => k_is); (case a26 => k_is); (case l26 => k_is); (case c26 => k_is); (case k26 => k_is); (case a27 => k_is); (case l27 => k_is); (case c27 => k_is); (case k27 => k_is); (case a28 => k_is); (case l28 => k_is); (case c28 => k_is); (case k28 => k_is); (case z_int => k_is); (case z_len => k_is); (case z_range => k_is); (case z_min => k_is); (case z_isinstance => k_is); (case z_bool => k_is); (case z_tuple => k_is); (case z_list => k_is); (case z_str => k_is); (case z_sorted => k_is); (case g_MOST_SIDE => k_is)
