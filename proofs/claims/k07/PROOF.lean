import PyProof.Rows.All
import Wide.All
import OpenK.AllK
import Wide.FinOn
import HandS.ForMost
import HandS.ForExc
import HandS.AnyAll
import HandS.Deep
import HandS.IsInst
import HandS.Style
import HandS.TupAny
import HandS.TupMul
import HandS.StrMore
import PyProof.Rows.SeqMore
import HandS.TupLen
import HandS.Conv
import HandS.RaiseMore
import HandS.ExcCtx
import HandS.Walk
import KE.SortData
import KE.KDictDisplayH
import HandS.Zip
import HandS.GenList
import HandS.EndTab
import HandS.TupSets
import KE.GoesEnum
import HandS.Flow
import HandS.DictComp
import KE.KDictSum
import KE.KDictCopyH
import HandS.DictTup
import HandS.ListItems
import HandS.Exc
import HandS.ExcOwn
import HandS.Small
import HandS.HotCalls
import PyProof.ExcBaseAll.ValueError
import HandS.Property
import HandS.ExcInit
import KE.KExcSuper
import PySem.Challenge.RW_roundstreets_k07_whole_walkers
set_option Elab.async false
set_option linter.all false
set_option maxRecDepth 100000
/-! Pv: pure values in the place of heaps. PvA: what stands for what, slots, results, steps. -/
namespace Pv
open PySem PySem.Spec L2

abbrev AS := Addr → Prop
/-- no table of a code object -/
abbrev NT (o : HO) : Prop := ∀ q, o ≠ .tbl q
theorem nt_lst {xs : List V} : NT (.lst xs) := fun _ z => nomatch z
theorem nt_frz {o : Obj} {u : HO} : NT (.frz o u) := fun _ z => nomatch z
theorem nt_tup {xs : List V} : NT (.tup xs) := fun _ z => nomatch z
theorem nt_dT {xs : List (List Key × V)} : NT (.dT xs) := fun _ z => nomatch z
theorem nt_dK {xs : List (Key × V)} : NT (.dK xs) := fun _ z => nomatch z

/-- a list at a that nobody writes: tracked outside S, frozen, or written by the top -/
def LAt (K : PySem.W.Frag) (S : AS) (H : Hp) (a : Addr) (xs : List V) : Prop :=
  (¬ S a ∧ Rd H a (.lst xs)) ∨
    ∃ (o : Obj) (its : Array Value) (n : Nat), K.lookup a = some o ∧ o.cls = .type "list" ∧ o.dict = none ∧ o.data = .seq its n ∧ its.size ≤ sizeLine ∧ Vals xs its.toList
theorem LAt.seq {K : PySem.W.Frag} {S : AS} {H : Hp} {a : Addr} {xs : List V} (h : LAt K S H a xs) : SqL K H a xs := by
  rcases h with ⟨_, h⟩ | h
  · exact .inl h
  · exact .inr h

def kD : Key → PyData
  | .inl i => .int i
  | .inr s => .str s

/-- what an own thing holds -/
inductive MO where
  | lst (ds : List PyData)
  | dT (es : List (List Key × PyData))
  | dK (es : List (Key × PyData))
/-- a dict's datum: a mark of its kind, then its pairs -/
def dTd (es : List (List Key × PyData)) : List (PyData × PyData) := (.none, .bool true) :: es.map fun p => (.tuple (p.1.map kD), p.2)
def dKd (es : List (Key × PyData)) : List (PyData × PyData) := (.none, .bool false) :: es.map fun p => (kD p.1, p.2)
def MO.data : MO → PyData
  | .lst ds => .list ds
  | .dT es => .dict (dTd es)
  | .dK es => .dict (dKd es)

mutual
/-- v stands for the datum d in H; none of its lists and dicts stands at an address of S -/
inductive Rp (K : PySem.W.Frag) (S : AS) (H : Hp) : V → PyData → Prop
  | non : Rp K S H .non .none
  | bl (b : Bool) : Rp K S H (.bl b) (.bool b)
  | int (i : Int) : Rp K S H (.int i) (.int i)
  | str (x : Str) : Rp K S H (.str x) (.str x)
  | lst {a : Addr} {xs : List V} {ds : List PyData} : LAt K S H a xs → RpA K S H xs ds → Rp K S H (.ref a) (.list ds)
  | tup {a : Addr} {xs : List V} {ds : List PyData} : ¬ S a → H a = some (.tup xs) → RpA K S H xs ds → Rp K S H (.ref a) (.tuple ds)
  | dT {a : Addr} {kvs : List (List Key × V)} {es : List (List Key × PyData)} {ds : List (PyData × PyData)} : ¬ S a → H a = some (.dT kvs) → kvs.map (·.1) = es.map (·.1) → RpA K S H (kvs.map (·.2)) (es.map (·.2)) → ds = dTd es → Rp K S H (.ref a) (.dict ds)
  | dK {a : Addr} {kvs : List (Key × V)} {es : List (Key × PyData)} {ds : List (PyData × PyData)} : ¬ S a → H a = some (.dK kvs) → kvs.map (·.1) = es.map (·.1) → RpA K S H (kvs.map (·.2)) (es.map (·.2)) → ds = dKd es → Rp K S H (.ref a) (.dict ds)
inductive RpA (K : PySem.W.Frag) (S : AS) (H : Hp) : List V → List PyData → Prop
  | nil : RpA K S H [] []
  | cons {v : V} {vs : List V} {d : PyData} {ds : List PyData} : Rp K S H v d → RpA K S H vs ds → RpA K S H (v :: vs) (d :: ds)
end

section
variable {K : PySem.W.Frag} {S S' : AS} {H H' : Hp}
mutual
theorem Rp.mono (off : ∀ b o, NT o → H b = some o → ¬ S b → H' b = some o) (new : ∀ a, S' a → S a ∨ H a = none) : ∀ {v : V} {d : PyData}, Rp K S H v d → Rp K S' H' v d
  | _, _, .non => .non
  | _, _, .bl b => .bl b
  | _, _, .int i => .int i
  | _, _, .str x => .str x
  | _, _, .lst h hs => by
    refine .lst ?_ (RpA.mono off new hs)
    rcases h with ⟨n, h⟩ | h
    · refine .inl ⟨fun q => ?_, ?_⟩
      · rcases new _ q with q | q
        · exact n q
        · rcases h with h | ⟨o, h⟩ <;> (rw [q] at h; cases h)
      · rcases h with h | ⟨o, h⟩
        · exact .inl (off _ _ nt_lst h n)
        · exact .inr ⟨o, off _ _ nt_frz h n⟩
    · exact .inr h
  | _, _, .tup n h hs => .tup (fun q => by
      rcases new _ q with q | q
      · exact n q
      · rw [q] at h; cases h) (off _ _ nt_tup h n) (RpA.mono off new hs)
  | _, _, .dT n h hk hs e => .dT (fun q => by
      rcases new _ q with q | q
      · exact n q
      · rw [q] at h; cases h) (off _ _ nt_dT h n) hk (RpA.mono off new hs) e
  | _, _, .dK n h hk hs e => .dK (fun q => by
      rcases new _ q with q | q
      · exact n q
      · rw [q] at h; cases h) (off _ _ nt_dK h n) hk (RpA.mono off new hs) e
theorem RpA.mono (off : ∀ b o, NT o → H b = some o → ¬ S b → H' b = some o) (new : ∀ a, S' a → S a ∨ H a = none) : ∀ {vs : List V} {ds : List PyData}, RpA K S H vs ds → RpA K S' H' vs ds
  | _, _, .nil => .nil
  | _, _, .cons h hs => .cons (Rp.mono off new h) (RpA.mono off new hs)
end
theorem RpA.length : ∀ {vs : List V} {ds : List PyData}, RpA K S H vs ds → vs.length = ds.length
  | _, _, .nil => rfl
  | _, _, .cons _ hs => by rw [List.length_cons, List.length_cons, hs.length]
theorem RpA.get : ∀ {vs : List V} {ds : List PyData} {i : Nat} {d : PyData}, RpA K S H vs ds → ds[i]? = some d → ∃ v, vs[i]? = some v ∧ Rp K S H v d
  | _, _, _, _, .nil, e => by simp at e
  | _, _, 0, _, .cons h _, e => by simp at e; subst e; exact ⟨_, rfl, h⟩
  | _, _, i + 1, _, .cons _ hs, e => by
    obtain ⟨v, h1, h2⟩ := RpA.get (i := i) hs (by simpa using e)
    exact ⟨v, by simpa using h1, h2⟩
theorem RpA.getV : ∀ {vs : List V} {ds : List PyData} {i : Nat} {v : V}, RpA K S H vs ds → vs[i]? = some v → ∃ d, ds[i]? = some d ∧ Rp K S H v d
  | _, _, _, _, .nil, e => by simp at e
  | _, _, 0, _, .cons h _, e => by simp at e; subst e; exact ⟨_, rfl, h⟩
  | _, _, i + 1, _, .cons _ hs, e => by
    obtain ⟨v, h1, h2⟩ := RpA.getV (i := i) hs (by simpa using e)
    exact ⟨v, by simpa using h1, h2⟩
theorem RpA.append : ∀ {vs ws : List V} {ds es : List PyData}, RpA K S H vs ds → RpA K S H ws es → RpA K S H (vs ++ ws) (ds ++ es)
  | _, _, _, _, .nil, h => h
  | _, _, _, _, .cons h hs, q => .cons h (RpA.append hs q)
theorem RpA.one {v : V} {d : PyData} (h : Rp K S H v d) : RpA K S H [v] [d] := .cons h .nil
theorem RpA.set : ∀ {vs : List V} {ds : List PyData} (i : Nat) {v : V} {d : PyData}, Rp K S H v d → RpA K S H vs ds → RpA K S H (vs.set i v) (ds.set i d)
  | _, _, _, _, _, _, .nil => .nil
  | _, _, 0, _, _, h, .cons _ hs => .cons h hs
  | _, _, i + 1, _, _, h, .cons q hs => .cons q (RpA.set i h hs)
theorem RpA.take : ∀ {vs : List V} {ds : List PyData} (n : Nat), RpA K S H vs ds → RpA K S H (vs.take n) (ds.take n)
  | _, _, 0, _ => by simp; exact .nil
  | _, _, _ + 1, .nil => .nil
  | _, _, n + 1, .cons h hs => .cons h (RpA.take n hs)
theorem RpA.drop : ∀ {vs : List V} {ds : List PyData} (n : Nat), RpA K S H vs ds → RpA K S H (vs.drop n) (ds.drop n)
  | _, _, 0, h => by simpa using h
  | _, _, _ + 1, .nil => .nil
  | _, _, n + 1, .cons _ hs => RpA.drop n hs
theorem RpA.of_get : ∀ {vs : List V} {ds : List PyData}, vs.length = ds.length → (∀ (i : Nat) v d, vs[i]? = some v → ds[i]? = some d → Rp K S H v d) → RpA K S H vs ds
  | [], [], _, _ => .nil
  | [], _ :: _, e, _ => by simp at e
  | _ :: _, [], e, _ => by simp at e
  | v :: vs, d :: ds, e, h => .cons (h 0 v d rfl rfl) (RpA.of_get (by simpa using e) fun i v d h1 h2 => h (i + 1) v d (by simpa using h1) (by simpa using h2))
mutual
theorem Rp.dp : ∀ {v : V} {d : PyData}, Rp K S H v d → d.canLay0 = true → Dp K H v d
  | _, _, .non, _ => .non
  | _, _, .bl b, _ => .bl b
  | _, _, .int i, _ => .int i
  | _, _, .str x, _ => .str x
  | _, _, .lst h hs, e => .lst h.seq (RpA.dp hs e)
  | _, _, .tup n h hs, e => .tup (SqT.of h) (RpA.dp hs e)
  | _, _, .dT .., e => nomatch e
  | _, _, .dK .., e => nomatch e
theorem RpA.dp : ∀ {vs : List V} {ds : List PyData}, RpA K S H vs ds → PyData.canLayAll0 ds = true → DpAll K H vs ds
  | _, _, .nil, _ => .nil
  | _, _, .cons h hs, e => by
    simp only [PyData.canLayAll0, Bool.and_eq_true] at e
    exact .cons (Rp.dp h e.1) (RpA.dp hs e.2)
end
end
end Pv
set_option maxRecDepth 100000
/-! PvB: slots, results, the state relation ER, steps Tr. -/
namespace Pv
open PySem PySem.Spec L2

/-- an instance with three fields, two of them lists: where all stands -/
structure Ins where
  p : Addr
  C : Addr
  vT : V
  l1 : Addr
  l2 : Addr
  T : PyData
def Ins.fs (g : Ins) : List (Str × V) := [("_town", g.vT), ("_streets", .ref g.l1), ("_path", .ref g.l2)]
/-- what a local name holds, at the pure level: nothing known, a datum, a thing of its own, a thing lent by the caller -/
inductive Slot where
  | no
  | val (d : PyData)
  | own (m : MO)
  | lent (m : MO)
  | pin (a : Addr) (m : MO)
  | ins (g : Ins)
abbrev Rho := List Slot
/-- an expression's result -/
inductive R where
  | val (d : PyData)
  | own (m : MO)
  | slot (i : Nat)
structure XV where
  cls : Addr
  fs : Option (List (Str × PyData))
inductive Out (α : Type) where
  | ok (a : α) (ρ : Rho)
  | ex (x : XV) (ρ : Rho)
  | bad
def Out.bind {α β : Type} (o : Out α) (k : α → Rho → Out β) : Out β := match o with
  | .ok a ρ => k a ρ
  | .ex x ρ => .ex x ρ
  | .bad => .bad
abbrev EF := Rho → Out R
abbrev TF := Rho → Out Bool

structure Fx where
  K : PySem.W.Frag
  H0 : Hp
  S0 : AS
  L : Nat → Option Addr
def Fx.lentA (F : Fx) (a : Addr) : Prop := ∃ i, F.L i = some a
structure Fx.Ok (F : Fx) (T : AS) : Prop where
  tab : ∀ a, T a → GxR.TabG F.H0 a
  dom : ∀ a, F.S0 a → F.H0 a ≠ none
  lent : ∀ i a, F.L i = some a → F.S0 a

theorem Fx.Ok.nil {F : Fx} {T : AS} (h : F.Ok T) : F.Ok fun _ => False := ⟨fun _ z => z.elim, h.dom, h.lent⟩
def MOk (K : PySem.W.Frag) (S : AS) (H : Hp) (a : Addr) : MO → Prop
  | .lst ds => ∃ vs, H a = some (.lst vs) ∧ RpA K S H vs ds
  | .dT es => ∃ kvs, H a = some (.dT kvs) ∧ kvs.map (·.1) = es.map (·.1) ∧ RpA K S H (kvs.map (·.2)) (es.map (·.2))
  | .dK es => ∃ kvs, H a = some (.dK kvs) ∧ kvs.map (·.1) = es.map (·.1) ∧ RpA K S H (kvs.map (·.2)) (es.map (·.2))
def SR (F : Fx) (S : AS) (H : Hp) (i : Nat) (v : Option (Option V)) : Slot → Prop
  | .no => True
  | .val d => ∃ x, v = some (some x) ∧ Rp F.K S H x d
  | .own m => ∃ a, v = some (some (.ref a)) ∧ S a ∧ F.H0 a = none ∧ MOk F.K S H a m
  | .lent m => ∃ a, v = some (some (.ref a)) ∧ F.L i = some a ∧ S a ∧ MOk F.K S H a m
  | .pin a m => v = some (some (.ref a)) ∧ S a ∧ F.H0 a = none ∧ MOk F.K S H a m
  | .ins g => v = some (some (.ref g.p)) ∧ ¬ S g.p ∧ (∃ dx, H g.p = some (.ins g.C dx g.fs)) ∧ Rp F.K S H g.vT g.T
def MutAt (σ : St) (ρ : Rho) (i : Nat) (a : Addr) : Prop := (∃ m, ρ[i]? = some (.own m) ∨ ρ[i]? = some (.lent m) ∨ ∃ b, ρ[i]? = some (.pin b m)) ∧ σ[i]? = some (some (.ref a))
/-- an instance stays -/
theorem ins_mono {K : PySem.W.Frag} {S S' : AS} {H H' : Hp} {g : Ins} {v : Option (Option V)} (off : ∀ b o, NT o → H b = some o → ¬ S b → H' b = some o) (new : ∀ a, S' a → S a ∨ H a = none)
    (h : v = some (some (.ref g.p)) ∧ ¬ S g.p ∧ (∃ dx, H g.p = some (.ins g.C dx g.fs)) ∧ Rp K S H g.vT g.T) : v = some (some (.ref g.p)) ∧ ¬ S' g.p ∧ (∃ dx, H' g.p = some (.ins g.C dx g.fs)) ∧ Rp K S' H' g.vT g.T := by
  obtain ⟨e, n, ⟨dx, hp⟩, r⟩ := h
  refine ⟨e, fun z => ?_, ⟨dx, off _ _ (fun _ z => nomatch z) hp n⟩, r.mono off new⟩
  rcases new _ z with z | z
  · exact n z
  · rw [hp] at z; cases z
structure ER (F : Fx) (S : AS) (H : Hp) (σ : St) (ρ : Rho) : Prop where
  len : ρ.length = σ.length
  at_ : ∀ i s, ρ[i]? = some s → SR F S H i σ[i]? s
  dj : ∀ i j a, MutAt σ ρ i a → MutAt σ ρ j a → i = j
  sub : ∀ a, F.S0 a → S a
  dom : ∀ a, S a → H a ≠ none
  fr : ∀ b o, NT o → F.H0 b = some o → ¬ F.lentA b → H b = some o
  tb : ∀ a, GxR.TabG F.H0 a → GxR.TabG H a
  st : ∀ a, F.H0 a ≠ none → H a ≠ none
  lt : ∀ i a, F.L i = some a → ∃ m, ρ[i]? = some (.lent m)
structure Tr (S : AS) (H : Hp) (σ : St) (ρ : Rho) (S' : AS) (H' : Hp) (ρ' : Rho) : Prop where
  off : ∀ b o, NT o → H b = some o → (∀ i, ¬ MutAt σ ρ i b) → H' b = some o
  tb : ∀ a, GxR.TabG H a → GxR.TabG H' a
  new : ∀ a, S' a → S a ∨ H a = none
  old : ∀ a, S a → (∀ i, ¬ MutAt σ ρ i a) → S' a
  mu : ∀ i a, MutAt σ ρ' i a → MutAt σ ρ i a
  stay : ∀ a, H a ≠ none → H' a ≠ none

section
variable {F : Fx} {K : PySem.W.Frag} {S S1 S2 S' : AS} {H H1 H2 H' : Hp} {σ : St} {ρ ρ1 ρ2 ρ' : Rho} {a : Addr} {v : V} {d : PyData} {m : MO}

theorem tab_same (same : ∀ b o, H b = some o → H' b = some o) : ∀ a, GxR.TabG H a → GxR.TabG H' a := fun a ⟨ps, e, t⟩ => ⟨ps, same a _ e, t⟩
theorem stay_same (same : ∀ b o, H b = some o → H' b = some o) : ∀ a, H a ≠ none → H' a ≠ none := fun a h => by
  cases q : H a with
  | none => exact absurd q h
  | some o => rw [same a o q]; exact fun z => nomatch z
theorem MOk.mono (off : ∀ b o, NT o → H b = some o → ¬ S b → H' b = some o) (new : ∀ a, S' a → S a ∨ H a = none) (ha : ∀ o, NT o → H a = some o → H' a = some o) : ∀ {m : MO}, MOk K S H a m → MOk K S' H' a m
  | .lst _, ⟨vs, e, h⟩ => ⟨vs, ha _ (fun _ z => nomatch z) e, h.mono off new⟩
  | .dT _, ⟨vs, e, k, h⟩ => ⟨vs, ha _ (fun _ z => nomatch z) e, k, h.mono off new⟩
  | .dK _, ⟨vs, e, k, h⟩ => ⟨vs, ha _ (fun _ z => nomatch z) e, k, h.mono off new⟩
theorem MOk.some : ∀ {m : MO}, MOk K S H a m → H a ≠ none
  | .lst _, ⟨_, e, _⟩ => by rw [e]; exact fun z => nomatch z
  | .dT _, ⟨_, e, _⟩ => by rw [e]; exact fun z => nomatch z
  | .dK _, ⟨_, e, _⟩ => by rw [e]; exact fun z => nomatch z
theorem MOk.nt : ∀ {m : MO}, MOk K S H a m → ∀ ps, H a ≠ Option.some (HO.tbl ps)
  | .lst _, ⟨_, e, _⟩, ps => by rw [e]; exact fun z => nomatch z
  | .dT _, ⟨_, e, _⟩, ps => by rw [e]; exact fun z => nomatch z
  | .dK _, ⟨_, e, _⟩, ps => by rw [e]; exact fun z => nomatch z
theorem MOk.rp : ∀ {m : MO}, MOk K S H a m → ¬ S' a → (∀ a, S' a → S a) → Rp K S' H (.ref a) m.data
  | .lst _, ⟨vs, e, h⟩, n, le => .lst (.inl ⟨n, .inl e⟩) (h.mono (fun _ _ _ e _ => e) fun a z => .inl (le a z))
  | .dT _, ⟨vs, e, k, h⟩, n, le => .dT n e k (h.mono (fun _ _ _ e _ => e) fun a z => .inl (le a z)) rfl
  | .dK _, ⟨vs, e, k, h⟩, n, le => .dK n e k (h.mono (fun _ _ _ e _ => e) fun a z => .inl (le a z)) rfl

theorem ER.mutS (er : ER F S H σ ρ) {i : Nat} (h : MutAt σ ρ i a) : S a := by
  obtain ⟨⟨m, h1 | h1 | ⟨c, h1⟩⟩, h2⟩ := h
  · obtain ⟨b, e, s, _⟩ := er.at_ i _ h1
    rw [h2] at e; cases e; exact s
  · obtain ⟨b, e, _, s, _⟩ := er.at_ i _ h1
    rw [h2] at e; cases e; exact s
  · obtain ⟨e, s, _⟩ := er.at_ i _ h1
    rw [h2] at e; cases e; exact s
theorem Tr.refl : Tr S H σ ρ S H ρ := ⟨fun _ _ _ e _ => e, fun _ h => h, fun _ h => .inl h, fun _ h _ => h, fun _ _ h => h, fun _ h => h⟩
theorem Tr.trans (er : ER F S H σ ρ) (t : Tr S H σ ρ S1 H1 ρ1) (u : Tr S1 H1 σ ρ1 S2 H2 ρ2) : Tr S H σ ρ S2 H2 ρ2 where
  off := fun b o nt e n => u.off b o nt (t.off b o nt e n) fun i z => n i (t.mu i b z)
  tb := fun a h => u.tb a (t.tb a h)
  new := fun a h => by
    rcases u.new a h with h | h
    · exact t.new a h
    · cases q : H a with
      | none => exact .inr rfl
      | some o => exact absurd h (t.stay a (by rw [q]; exact fun z => nomatch z))
  old := fun a h n => u.old a (t.old a h n) fun i z => n i (t.mu i a z)
  mu := fun i a h => t.mu i a (u.mu i a h)
  stay := fun a h => u.stay a (t.stay a h)
/-- what nobody owns stays -/
theorem Tr.offS (er : ER F S H σ ρ) (t : Tr S H σ ρ S' H' ρ') : ∀ b o, NT o → H b = some o → ¬ S b → H' b = some o := fun b o nt e n => t.off b o nt e fun i z => n (er.mutS z)
theorem Rp.tr (h : Rp K S H v d) (er : ER F S H σ ρ) (t : Tr S H σ ρ S' H' ρ') : Rp K S' H' v d := h.mono (t.offS er) t.new
theorem RpA.tr {vs : List V} {ds : List PyData} (h : RpA K S H vs ds) (er : ER F S H σ ρ) (t : Tr S H σ ρ S' H' ρ') : RpA K S' H' vs ds := h.mono (t.offS er) t.new

/-- a new untouched thing -/
theorem Tr.alloc {p : Addr} {o : HO} (hp : H p = none) : Tr S H σ ρ S (upd H p o) ρ where
  off := fun b o _ e _ => by rw [upd_ne (ne_of_none e hp)]; exact e
  tb := tab_same fun b o e => by rw [upd_ne (ne_of_none e hp)]; exact e
  new := fun _ h => .inl h
  old := fun _ h _ => h
  mu := fun _ _ h => h
  stay := fun a h => by
    unfold upd
    split
    · exact fun z => nomatch z
    · exact h
theorem Tr.allocS {p : Addr} {o : HO} (hp : H p = none) : Tr S H σ ρ (fun a => S a ∨ a = p) (upd H p o) ρ where
  off := (Tr.alloc (S := S) (σ := σ) (ρ := ρ) hp).off
  tb := (Tr.alloc (S := S) (σ := σ) (ρ := ρ) hp).tb
  new := fun a h => by
    rcases h with h | h
    · exact .inl h
    · exact .inr (by rw [h]; exact hp)
  old := fun _ h _ => .inl h
  mu := fun _ _ h => h
  stay := (Tr.alloc (S := S) (σ := σ) (ρ := ρ) hp).stay
/-- the relation behind a step that leaves the slots' things as they are -/
theorem ER.grow (er : ER F S H σ ρ) (same : ∀ b o, H b = some o → H' b = some o) (new : ∀ a, S' a → S a ∨ H a = none) (sub : ∀ a, S a → S' a) (dom : ∀ a, S' a → H' a ≠ none) : ER F S' H' σ ρ where
  len := er.len
  at_ := fun i s e => by
    have h := er.at_ i s e
    cases s with
    | no => trivial
    | val d => obtain ⟨x, e, h⟩ := h; exact ⟨x, e, h.mono (fun b o _ e _ => same b o e) new⟩
    | own m => obtain ⟨a, e, s, f, h⟩ := h; exact ⟨a, e, sub a s, f, h.mono (fun b o _ e _ => same b o e) new fun o _ => same a o⟩
    | lent m => obtain ⟨a, e, l, s, h⟩ := h; exact ⟨a, e, l, sub a s, h.mono (fun b o _ e _ => same b o e) new fun o _ => same a o⟩
    | pin a m => obtain ⟨e, s, f, h⟩ := h; exact ⟨e, sub a s, f, h.mono (fun b o _ e _ => same b o e) new fun o _ => same a o⟩
    | ins g => exact ins_mono (fun b o _ e _ => same b o e) new h
  dj := er.dj
  sub := fun a h => sub a (er.sub a h)
  dom := dom
  fr := fun b o nt e n => same b o (er.fr b o nt e n)
  tb := fun a h => tab_same same a (er.tb a h)
  st := fun a h => stay_same same a (er.st a h)
  lt := er.lt
theorem ER.alloc (er : ER F S H σ ρ) {p : Addr} {o : HO} (hp : H p = none) : ER F S (upd H p o) σ ρ :=
  er.grow (fun b o e => by rw [upd_ne (ne_of_none e hp)]; exact e) (fun _ h => .inl h) (fun _ h => h) fun a h => by
    unfold upd
    split
    · exact fun z => nomatch z
    · exact er.dom a h
theorem ER.allocS (er : ER F S H σ ρ) {p : Addr} {o : HO} (hp : H p = none) : ER F (fun a => S a ∨ a = p) (upd H p o) σ ρ :=
  er.grow (fun b o e => by rw [upd_ne (ne_of_none e hp)]; exact e) (fun a h => by
    rcases h with h | h
    · exact .inl h
    · exact .inr (by rw [h]; exact hp)) (fun _ h => .inl h) fun a h => by
    unfold upd
    split
    · exact fun z => nomatch z
    · rename_i q
      rcases h with h | h
      · exact er.dom a h
      · exact absurd h q
/-- the own slot's thing is written -/
theorem Tr.write {i : Nat} {o : HO} {s : Slot} (hm : MutAt σ ρ i a) (hs : s ≠ .no) (hn : ∀ ps, H a ≠ some (.tbl ps)) : Tr S H σ ρ S (upd H a o) (ρ.set i s) where
  tb := fun b ⟨ps, e, t⟩ => ⟨ps, by rw [upd_ne fun z => hn ps (by rw [← z]; exact e)]; exact e, t⟩
  off := fun b o _ e n => by
    rw [upd_ne fun z => n i (by rw [z]; exact hm)]
    exact e
  new := fun _ h => .inl h
  old := fun _ h _ => h
  mu := fun j b h => by
    by_cases q : j = i
    · subst q
      have e : b = a := by
        have := h.2
        rw [hm.2] at this
        cases this; rfl
      rw [e]; exact hm
    · obtain ⟨⟨m, h1⟩, h2⟩ := h
      rw [List.getElem?_set_ne (Ne.symm q)] at h1
      exact ⟨⟨m, h1⟩, h2⟩
  stay := fun b h => by
    unfold upd
    split
    · exact fun z => nomatch z
    · exact h
/-- the slot with a new content: of the same standing -/
def Slot.put (s : Slot) (m : MO) : Slot := match s with
  | .own _ => .own m
  | .lent _ => .lent m
  | .pin a _ => .pin a m
  | s => s
def Slot.mo (s : Slot) : Option MO := match s with
  | .own m => some m
  | .lent m => some m
  | .pin _ m => some m
  | _ => none
theorem Slot.mo_cases {s : Slot} {m : MO} (h : s.mo = some m) : s = .own m ∨ s = .lent m ∨ ∃ a, s = .pin a m := by
  cases s with
  | no => cases h
  | val d => cases h
  | own m' => cases h; exact .inl rfl
  | lent m' => cases h; exact .inr (.inl rfl)
  | pin a m' => cases h; exact .inr (.inr ⟨a, rfl⟩)
  | ins g => cases h
theorem ER.mo (er : ER F S H σ ρ) {i : Nat} {s : Slot} (e : ρ[i]? = some s) (hm : s.mo = some m) : ∃ a, σ[i]? = some (some (.ref a)) ∧ S a ∧ (F.H0 a = none ∨ F.lentA a) ∧ MOk F.K S H a m ∧ MutAt σ ρ i a := by
  rcases Slot.mo_cases hm with q | q | ⟨c, q⟩ <;> subst q
  · obtain ⟨a, e1, s, f, h⟩ := er.at_ i _ e
    exact ⟨a, e1, s, .inl f, h, ⟨m, .inl e⟩, e1⟩
  · obtain ⟨a, e1, l, s, h⟩ := er.at_ i _ e
    exact ⟨a, e1, s, .inr ⟨i, l⟩, h, ⟨m, .inr (.inl e)⟩, e1⟩
  · obtain ⟨e1, s, f, h⟩ := er.at_ i _ e
    exact ⟨c, e1, s, .inl f, h, ⟨m, .inr (.inr ⟨c, e⟩)⟩, e1⟩
theorem ER.putLt (er : ER F S H σ ρ) {i : Nat} {s : Slot} {m m' : MO} (e : ρ[i]? = some s) (hm : s.mo = some m) : ∀ j a, F.L j = some a → ∃ m2, (ρ.set i (s.put m'))[j]? = some (.lent m2) := fun j a h => by
  obtain ⟨m2, h2⟩ := er.lt j a h
  have hi : i < ρ.length := (List.getElem?_eq_some_iff.mp e).1
  by_cases q : i = j
  · subst q
    rw [e] at h2
    cases h2
    exact ⟨m', by rw [List.getElem?_set_self hi]; rfl⟩
  · rw [List.getElem?_set_ne q]
    exact ⟨m2, h2⟩
theorem ER.write (er : ER F S H σ ρ) {i : Nat} {s : Slot} {m' : MO} {o : HO} (e : ρ[i]? = some s) (hm : s.mo = some m) (ea : σ[i]? = some (some (.ref a))) (new : MOk F.K S (upd H a o) a m') : ER F S (upd H a o) σ (ρ.set i (s.put m')) := by
  obtain ⟨b, eb, sb, fb, hb, mb⟩ := er.mo e hm
  rw [ea] at eb; cases eb
  have hi : i < ρ.length := (List.getElem?_eq_some_iff.mp e).1
  have hn : ∀ ps, H a ≠ some (.tbl ps) := MOk.nt hb
  have off : ∀ b o', NT o' → H b = some o' → ¬ S b → upd H a o b = some o' := fun b o' _ e n => by
    rw [upd_ne fun z => n (by rw [z]; exact sb)]
    exact e
  have mu : ∀ j b, MutAt σ (ρ.set i (s.put m')) j b → MutAt σ ρ j b := (Tr.write (S := S) (H := H) (o := o) mb (by rcases Slot.mo_cases hm with q | q | ⟨_, q⟩ <;> (subst q; exact fun z => nomatch z)) hn).mu
  refine ⟨by rw [List.length_set]; exact er.len, fun j t q => ?_, fun j k b h1 h2 => er.dj j k b (mu _ _ h1) (mu _ _ h2), er.sub, fun b h => ?_, fun b o' nt q n => ?_, fun b h => ?_, fun b h => ?_, er.putLt e hm⟩
  · by_cases hj : j = i
    · subst hj
      rw [List.getElem?_set_self hi] at q
      cases q
      have h0 := er.at_ j _ e
      rcases Slot.mo_cases hm with z | z | ⟨c, z⟩ <;> subst z
      · obtain ⟨c, ec, sc, fc, _⟩ := h0
        rw [ea] at ec; cases ec
        exact ⟨a, ea, sc, fc, new⟩
      · obtain ⟨c, ec, lc, sc, _⟩ := h0
        rw [ea] at ec; cases ec
        exact ⟨a, ea, lc, sc, new⟩
      · obtain ⟨ec, sc, fc, _⟩ := h0
        rw [ea] at ec; cases ec
        exact ⟨ea, sc, fc, new⟩
    · rw [List.getElem?_set_ne (Ne.symm hj)] at q
      have h0 := er.at_ j t q
      cases t with
      | no => trivial
      | val d => obtain ⟨x, e, h⟩ := h0; exact ⟨x, e, h.mono off fun _ z => .inl z⟩
      | own m2 =>
        obtain ⟨c, e, sc, f, h⟩ := h0
        have nc : c ≠ a := fun z => hj (er.dj j i a ⟨⟨m2, .inl q⟩, by rw [e, z]⟩ mb)
        exact ⟨c, e, sc, f, h.mono off (fun _ z => .inl z) fun o' _ eo => by rw [upd_ne nc]; exact eo⟩
      | lent m2 =>
        obtain ⟨c, e, l, sc, h⟩ := h0
        have nc : c ≠ a := fun z => hj (er.dj j i a ⟨⟨m2, .inr (.inl q)⟩, by rw [e, z]⟩ mb)
        exact ⟨c, e, l, sc, h.mono off (fun _ z => .inl z) fun o' _ eo => by rw [upd_ne nc]; exact eo⟩
      | pin c m2 =>
        obtain ⟨e, sc, f, h⟩ := h0
        have nc : c ≠ a := fun z => hj (er.dj j i a ⟨⟨m2, .inr (.inr ⟨c, q⟩)⟩, by rw [e, z]⟩ mb)
        exact ⟨e, sc, f, h.mono off (fun _ z => .inl z) fun o' _ eo => by rw [upd_ne nc]; exact eo⟩
      | ins g => exact ins_mono off (fun _ z => .inl z) h0
  · unfold upd
    split
    · exact fun z => nomatch z
    · exact er.dom b h
  · have nb : b ≠ a := fun z => by
      rcases fb with f | f
      · rw [z, f] at q; cases q
      · exact n (by rw [z]; exact f)
    rw [upd_ne nb]
    exact er.fr b o' nt q n
  · obtain ⟨ps, e2, t⟩ := er.tb b h
    exact ⟨ps, by rw [upd_ne fun z => hn ps (by rw [← z]; exact e2)]; exact e2, t⟩
  · unfold upd
    split
    · exact fun z => nomatch z
    · exact er.st b h
end

/-! ### results -/
def RR (F : Fx) (S : AS) (H : Hp) (σ : St) (ρ : Rho) (v : V) : R → Prop
  | .val d => Rp F.K S H v d
  | .own m => ∃ a, v = .ref a ∧ S a ∧ F.H0 a = none ∧ MOk F.K S H a m ∧ ∀ i, ¬ MutAt σ ρ i a
  | .slot i => σ[i]? = some (some v) ∧ i < ρ.length
def Frsh (H : Hp) (v : V) : R → Prop
  | .own _ => ∀ a, v = .ref a → H a = none
  | _ => True
def XR (F : Fx) (S : AS) (H : Hp) (x : XV) (cls : Value) (dx : Option Addr) : Prop :=
  cls = .ref x.cls ∧ match x.fs with
    | none => dx = none
    | some fs => ∃ d vs, dx = some d ∧ H d = some (.xd vs) ∧ vs.map (·.1) = fs.map (·.1) ∧ RpA F.K S H (vs.map (·.2)) (fs.map (·.2))
/-- read where it stands -/
def RT (K : PySem.W.Frag) (S : AS) (H : Hp) (v : V) (d : PyData) : Prop := Rp K S H v d ∨ ∃ a m, v = .ref a ∧ d = m.data ∧ MOk K S H a m
def deref (ρ : Rho) : R → Option PyData
  | .val d => some d
  | .own m => some m.data
  | .slot i => match ρ[i]? with
    | some (.val d) => some d
    | some (.own m) => some m.data
    | some (.lent m) => some m.data
    | some (.pin _ m) => some m.data
    | _ => none
def freeze (ρ : Rho) : R → Option (PyData × Rho)
  | .val d => some (d, ρ)
  | .own m => some (m.data, ρ)
  | .slot i => match ρ[i]? with
    | some (.val d) => some (d, ρ)
    | some (.own m) => some (m.data, ρ.set i (.val m.data))
    | _ => none

section
variable {F : Fx} {K : PySem.W.Frag} {S S1 S2 S' : AS} {H H1 H2 H' : Hp} {σ : St} {ρ ρ1 ρ2 ρ' : Rho} {a : Addr} {v : V} {d : PyData} {m : MO} {r : R}
theorem RR.tr (h : RR F S H σ ρ v r) (er : ER F S H σ ρ) (t : Tr S H σ ρ S' H' ρ') (hl : ρ'.length = ρ.length) : RR F S' H' σ ρ' v r := by
  cases r with
  | val d => exact Rp.tr h er t
  | slot i => exact ⟨h.1, by rw [hl]; exact h.2⟩
  | own m =>
    obtain ⟨a, e, s, f, ok, n⟩ := h
    exact ⟨a, e, t.old a s n, f, ok.mono (t.offS er) t.new (fun o nt q => t.off a o nt q n), fun i z => n i (t.mu i a z)⟩
theorem RR.rt (h : RR F S H σ ρ v r) (er : ER F S H σ ρ) (e : deref ρ r = some d) : RT F.K S H v d := by
  cases r with
  | val d' => cases e; exact .inl h
  | own m =>
    cases e
    obtain ⟨a, e, s, f, ok, n⟩ := h
    exact .inr ⟨a, m, e, rfl, ok⟩
  | slot i =>
    obtain ⟨h1, h2⟩ := h
    unfold deref at e
    cases q : ρ[i]? with
    | none => simp only [q] at e; cases e
    | some s =>
      have z := er.at_ i s q
      cases s with
      | no => simp only [q] at e; cases e
      | val d' =>
        simp only [q] at e; cases e
        obtain ⟨x, e1, z⟩ := z
        rw [h1] at e1; cases e1
        exact .inl z
      | own m =>
        simp only [q] at e; cases e
        obtain ⟨b, e1, _, _, z⟩ := z
        rw [h1] at e1; cases e1
        exact .inr ⟨b, m, rfl, rfl, z⟩
      | lent m =>
        simp only [q] at e; cases e
        obtain ⟨b, e1, _, _, z⟩ := z
        rw [h1] at e1; cases e1
        exact .inr ⟨b, m, rfl, rfl, z⟩
      | pin b m =>
        simp only [q] at e; cases e
        obtain ⟨e1, _, _, z⟩ := z
        rw [h1] at e1; cases e1
        exact .inr ⟨b, m, rfl, rfl, z⟩
      | ins g => simp only [q] at e; cases e
/-- a result is given away: nobody writes it any more -/
theorem freeze_ok (er0 : ER F S H σ ρ) (t : Tr S H σ ρ S1 H1 ρ1) (er : ER F S1 H1 σ ρ1) (rr : RR F S1 H1 σ ρ1 v r) (fr : Frsh H v r) (e : freeze ρ1 r = some (d, ρ2)) (fok : F.Ok T) :
    ∃ S2, Tr S H σ ρ S2 H1 ρ2 ∧ ER F S2 H1 σ ρ2 ∧ Rp F.K S2 H1 v d ∧ (∀ a, S2 a → S1 a) ∧ ρ2.length = ρ1.length := by
  cases r with
  | val d' => cases e; exact ⟨S1, t, er, rr, fun _ z => z, rfl⟩
  | own m =>
    cases e
    obtain ⟨a, e, s, f, ok, n⟩ := rr
    have ha : H a = none := fr a e
    have nS0 : ¬ F.S0 a := fun z => fok.dom a z f
    refine ⟨fun b => S1 b ∧ b ≠ a, ⟨t.off, t.tb, fun b h => t.new b h.1, fun b h q => ⟨t.old b h q, fun z => er0.dom b h (by rw [z]; exact ha)⟩, t.mu, t.stay⟩, ?_, ?_, fun _ z => z.1, rfl⟩
    · refine ⟨er.len, fun i s q => ?_, er.dj, fun b h => ⟨er.sub b h, fun z => nS0 (by rw [← z]; exact h)⟩, fun b h => er.dom b h.1, er.fr, er.tb, er.st, er.lt⟩
      have z := er.at_ i s q
      have le : ∀ b, (S1 b ∧ b ≠ a) → S1 b ∨ H1 b = none := fun b h => .inl h.1
      cases s with
      | no => trivial
      | val d' => obtain ⟨x, e, h⟩ := z; exact ⟨x, e, h.mono (fun _ _ _ e _ => e) le⟩
      | own m' => obtain ⟨c, e, sc, f, h⟩ := z; exact ⟨c, e, ⟨sc, fun y => n i ⟨⟨m', .inl q⟩, by rw [e, y]⟩⟩, f, h.mono (fun _ _ _ e _ => e) le fun _ _ e => e⟩
      | lent m' => obtain ⟨c, e, l, sc, h⟩ := z; exact ⟨c, e, l, ⟨sc, fun y => n i ⟨⟨m', .inr (.inl q)⟩, by rw [e, y]⟩⟩, h.mono (fun _ _ _ e _ => e) le fun _ _ e => e⟩
      | pin c m' => obtain ⟨e, sc, f, h⟩ := z; exact ⟨e, ⟨sc, fun y => n i ⟨⟨m', .inr (.inr ⟨c, q⟩)⟩, by rw [e, y]⟩⟩, f, h.mono (fun _ _ _ e _ => e) le fun _ _ e => e⟩
      | ins g => exact ins_mono (fun _ _ _ e _ => e) le z
    · rw [e]
      exact ok.rp (fun z => z.2 rfl) fun _ z => z.1
  | slot i =>
    obtain ⟨h1, h2⟩ := rr
    unfold freeze at e
    cases q : ρ1[i]? with
    | none => simp only [q] at e; cases e
    | some s =>
      have z := er.at_ i s q
      cases s with
      | no => simp only [q] at e; cases e
      | lent m => simp only [q] at e; cases e
      | pin b m => simp only [q] at e; cases e
      | ins g => simp only [q] at e; cases e
      | val d' =>
        simp only [q] at e; cases e
        obtain ⟨x, e1, z⟩ := z
        rw [h1] at e1; cases e1
        exact ⟨S1, t, er, z, fun _ z => z, rfl⟩
      | own m =>
        simp only [q] at e
        cases e
        obtain ⟨a, e1, sa, f, z⟩ := z
        rw [h1] at e1; cases e1
        have hm : MutAt σ ρ1 i a := ⟨⟨m, .inl q⟩, h1⟩
        have nS0 : ¬ F.S0 a := fun z => fok.dom a z f
        have mu : ∀ j b, MutAt σ (ρ1.set i (.val m.data)) j b → MutAt σ ρ1 j b ∧ j ≠ i := fun j b h => by
          by_cases hj : j = i
          · subst hj
            obtain ⟨⟨m', h'⟩, _⟩ := h
            rw [List.getElem?_set_self h2] at h'
            rcases h' with h' | h' | ⟨b, h'⟩ <;> cases h'
          · obtain ⟨⟨m', h'⟩, h''⟩ := h
            rw [List.getElem?_set_ne (Ne.symm hj)] at h'
            exact ⟨⟨⟨m', h'⟩, h''⟩, hj⟩
        have le : ∀ b, (S1 b ∧ b ≠ a) → S1 b ∨ H1 b = none := fun b h => .inl h.1
        refine ⟨fun b => S1 b ∧ b ≠ a, ⟨t.off, t.tb, fun b h => t.new b h.1, fun b h y => ⟨t.old b h y, fun w => y i (t.mu i b (by rw [w]; exact hm))⟩, fun j b h => t.mu j b (mu j b h).1, t.stay⟩, ?_, z.rp (fun w => w.2 rfl) fun _ w => w.1, fun _ w => w.1, by rw [List.length_set]⟩
        refine ⟨by rw [List.length_set]; exact er.len, fun j s w => ?_, fun j k b y w => er.dj j k b (mu _ _ y).1 (mu _ _ w).1, fun b h => ⟨er.sub b h, fun w => nS0 (by rw [← w]; exact h)⟩, fun b h => er.dom b h.1, er.fr, er.tb, er.st, fun j b w => ?_⟩
        rotate_left
        · obtain ⟨m2, w2⟩ := er.lt j b w
          have hj : i ≠ j := fun y => by
            subst y
            rw [q] at w2; cases w2
          exact ⟨m2, by rw [List.getElem?_set_ne hj]; exact w2⟩
        by_cases hj : j = i
        · subst hj
          rw [List.getElem?_set_self h2] at w
          cases w
          exact ⟨.ref a, h1, z.rp (fun w => w.2 rfl) fun _ w => w.1⟩
        · rw [List.getElem?_set_ne (Ne.symm hj)] at w
          have y := er.at_ j s w
          cases s with
          | no => trivial
          | val d' => obtain ⟨x, e, h⟩ := y; exact ⟨x, e, h.mono (fun _ _ _ e _ => e) le⟩
          | own m' => obtain ⟨c, e, sc, f, h⟩ := y; exact ⟨c, e, ⟨sc, fun y => hj (er.dj j i a ⟨⟨m', .inl w⟩, by rw [e, y]⟩ hm)⟩, f, h.mono (fun _ _ _ e _ => e) le fun _ _ e => e⟩
          | lent m' => obtain ⟨c, e, l, sc, h⟩ := y; exact ⟨c, e, l, ⟨sc, fun y => hj (er.dj j i a ⟨⟨m', .inr (.inl w)⟩, by rw [e, y]⟩ hm)⟩, h.mono (fun _ _ _ e _ => e) le fun _ _ e => e⟩
          | pin c m' => obtain ⟨e, sc, f, h⟩ := y; exact ⟨e, ⟨sc, fun y => hj (er.dj j i a ⟨⟨m', .inr (.inr ⟨c, w⟩)⟩, by rw [e, y]⟩ hm)⟩, f, h.mono (fun _ _ _ e _ => e) le fun _ _ e => e⟩
          | ins g => exact ins_mono (fun _ _ _ e _ => e) le y
theorem XR.tr {x : XV} {cls : Value} {dx : Option Addr} (h : XR F S H x cls dx) (same : ∀ b o, H b = some o → H' b = some o) (new : ∀ a, S' a → S a ∨ H a = none) : XR F S' H' x cls dx := by
  obtain ⟨e, h⟩ := h
  refine ⟨e, ?_⟩
  cases q : x.fs with
  | none => simp only [q] at h ⊢; exact h
  | some fs =>
    simp only [q] at h ⊢
    obtain ⟨d, vs, h1, h2, h3, h4⟩ := h
    exact ⟨d, vs, h1, same _ _ h2, h3, h4.mono (fun b o _ e _ => same b o e) new⟩
end

/-- a wish about exceptions, and the tables that are held -/
structure Wx where
  w : WX
  T : AS
/-! ### what is wanted behind an expression -/
def PostE (F : Fx) (W : Wx) (S : AS) (H : Hp) (σ : St) (ρ : Rho) (o : Out R) (Q : VK) : Prop := match o with
  | .ok r ρ' => ∀ v S' H', Tr S H σ ρ S' H' ρ' → ER F S' H' σ ρ' → RR F S' H' σ ρ' v r → Frsh H v r → Q v H'
  | .ex x ρ' => ∀ cls dx S' H', Tr S H σ ρ S' H' ρ' → ER F S' H' σ ρ' → XR F S' H' x cls dx → W.w cls dx σ H'
  | .bad => False
structure SE (X : Cx) (W : Wx) (e : Expr) (t : TE) (f : EF) : Prop where
  pe : PE X e t
  sn : ∀ (F : Fx) (S : AS) (H : Hp) (σ : St) (ρ : Rho) (Q : VK), F.K = X.K → F.Ok W.T → ER F S H σ ρ → PostE F W S H σ ρ (f ρ) Q → t σ H Q
def PostT (F : Fx) (W : Wx) (S : AS) (H : Hp) (σ : St) (ρ : Rho) (o : Out Bool) (Q : Bool → Hp → Prop) : Prop := match o with
  | .ok b ρ' => ∀ S' H', Tr S H σ ρ S' H' ρ' → ER F S' H' σ ρ' → Q b H'
  | .ex x ρ' => ∀ cls dx S' H', Tr S H σ ρ S' H' ρ' → ER F S' H' σ ρ' → XR F S' H' x cls dx → W.w cls dx σ H'
  | .bad => False
structure ST (X : Cx) (W : Wx) (e : Expr) (t : TT) (f : TF) : Prop where
  pt : PT X e t
  sn : ∀ (F : Fx) (S : AS) (H : Hp) (σ : St) (ρ : Rho) (Q : Bool → Hp → Prop), F.K = X.K → F.Ok W.T → ER F S H σ ρ → PostT F W S H σ ρ (f ρ) Q → t σ H Q
structure SW (X : Cx) (W : Wx) (e : Expr) (t : TT) (f : TF) : Prop where
  pw : PW X e t
  sn : ∀ (F : Fx) (S : AS) (H : Hp) (σ : St) (ρ : Rho) (Q : Bool → Hp → Prop), F.K = X.K → F.Ok W.T → ER F S H σ ρ → PostT F W S H σ ρ (f ρ) Q → t σ H Q

section
variable {F : Fx} {W : Wx} {K : PySem.W.Frag} {S S1 S2 S' : AS} {H H1 H2 H' : Hp} {σ : St} {ρ ρ1 ρ2 ρ' : Rho} {a : Addr} {v : V} {d : PyData} {m : MO} {r : R} {Q : VK}
theorem Frsh.up (t : Tr S H σ ρ S1 H1 ρ1) (h : Frsh H1 v r) : Frsh H v r := by
  cases r with
  | own m =>
    intro a e
    cases q : H a with
    | none => rfl
    | some o => exact absurd (h a e) (t.stay a (by rw [q]; exact fun z => nomatch z))
  | val d => trivial
  | slot i => trivial
/-- from a later state -/
theorem PostE.shift (er : ER F S H σ ρ) (t : Tr S H σ ρ S1 H1 ρ1) {o : Out R} (h : PostE F W S H σ ρ o Q) : PostE F W S1 H1 σ ρ1 o Q := by
  cases o with
  | ok r ρ' => exact fun v S' H' t' er' rr fr => h v S' H' (t.trans er t') er' rr (fr.up t)
  | ex x ρ' => exact fun cls dx S' H' t' er' xr => h cls dx S' H' (t.trans er t') er' xr
  | bad => exact h
theorem PostT.shift (er : ER F S H σ ρ) (t : Tr S H σ ρ S1 H1 ρ1) {o : Out Bool} {Q : Bool → Hp → Prop} (h : PostT F W S H σ ρ o Q) : PostT F W S1 H1 σ ρ1 o Q := by
  cases o with
  | ok r ρ' => exact fun S' H' t' er' => h S' H' (t.trans er t') er'
  | ex x ρ' => exact fun cls dx S' H' t' er' xr => h cls dx S' H' (t.trans er t') er' xr
  | bad => exact h
end

/-- a wish that hangs on what an outcome is, by a family over states: general form -/
structure Wish (F : Fx) (W : Wx) (σ : St) (β : Type) where
  P : AS → Hp → Rho → Out β → Prop
  sh : ∀ {S H ρ S1 H1 ρ1 o}, ER F S H σ ρ → Tr S H σ ρ S1 H1 ρ1 → P S H ρ o → P S1 H1 ρ1 o
  ex : ∀ {S H ρ x ρ'}, P S H ρ (.ex x ρ') → ∀ cls dx S' H', Tr S H σ ρ S' H' ρ' → ER F S' H' σ ρ' → XR F S' H' x cls dx → W.w cls dx σ H'
  bad : ∀ {S H ρ}, ¬ P S H ρ .bad
def wE (F : Fx) (W : Wx) (σ : St) (Q : VK) : Wish F W σ R := ⟨fun S H ρ o => PostE F W S H σ ρ o Q, fun er t h => h.shift er t, fun h => h, fun h => h⟩
def wT (F : Fx) (W : Wx) (σ : St) (Q : Bool → Hp → Prop) : Wish F W σ Bool := ⟨fun S H ρ o => PostT F W S H σ ρ o Q, fun er t h => h.shift er t, fun h => h, fun h => h⟩

def bindF {β : Type} (o : Out R) (k : PyData → Rho → Out β) : Out β := match o with
  | .ok r ρ => match freeze ρ r with
    | some (d, ρ') => k d ρ'
    | none => .bad
  | .ex x ρ => .ex x ρ
  | .bad => .bad

section
variable {X : Cx} {e : Expr} {t : TE} {tt : TT} {f : EF} {g : TF} {F : Fx} {W : Wx} {S : AS} {H : Hp} {σ : St} {ρ : Rho} {Q : VK} {β : Type}
/-- evaluate e, keep its result where it stands -/
theorem SE.go (h : SE X W e t f) (hK : F.K = X.K) (fok : F.Ok W.T) (er : ER F S H σ ρ) (w : Wish F W σ β) {k : R → Rho → Out β} (hp : w.P S H ρ ((f ρ).bind k))
    (hk : ∀ r ρ1 v S1 H1, Tr S H σ ρ S1 H1 ρ1 → ER F S1 H1 σ ρ1 → RR F S1 H1 σ ρ1 v r → Frsh H v r → w.P S1 H1 ρ1 (k r ρ1) → Q v H1) : t σ H Q := by
  refine h.sn F S H σ ρ Q hK fok er ?_
  cases q : f ρ with
  | ok r ρ1 =>
    rw [q] at hp
    exact fun v S1 H1 t1 er1 rr fr => hk r ρ1 v S1 H1 t1 er1 rr fr (w.sh er t1 hp)
  | ex x ρ1 =>
    rw [q] at hp
    exact w.ex hp
  | bad =>
    rw [q] at hp
    exact w.bad hp
/-- evaluate e, give its result away -/
theorem SE.goF (h : SE X W e t f) (hK : F.K = X.K) (fok : F.Ok W.T) (er : ER F S H σ ρ) (w : Wish F W σ β) {k : PyData → Rho → Out β} (hp : w.P S H ρ (bindF (f ρ) k))
    (hk : ∀ d ρ2 v S2 H1, Tr S H σ ρ S2 H1 ρ2 → ER F S2 H1 σ ρ2 → Rp F.K S2 H1 v d → w.P S2 H1 ρ2 (k d ρ2) → Q v H1) : t σ H Q := by
  refine h.sn F S H σ ρ Q hK fok er ?_
  cases q : f ρ with
  | ok r ρ1 =>
    rw [q] at hp
    intro v S1 H1 t1 er1 rr fr
    unfold bindF at hp
    cases z : freeze ρ1 r with
    | none =>
      simp only [z] at hp
      exact (w.bad hp).elim
    | some p =>
      obtain ⟨d, ρ2⟩ := p
      simp only [z] at hp
      obtain ⟨S2, t2, er2, rp, _, _⟩ := freeze_ok er t1 er1 rr fr z fok
      exact hk d ρ2 v S2 H1 t2 er2 rp (w.sh er t2 hp)
  | ex x ρ1 =>
    rw [q] at hp
    exact w.ex hp
  | bad =>
    rw [q] at hp
    exact w.bad hp
theorem ST.go (h : ST X W e tt g) (hK : F.K = X.K) (fok : F.Ok W.T) (er : ER F S H σ ρ) (w : Wish F W σ β) {k : Bool → Rho → Out β} (hp : w.P S H ρ ((g ρ).bind k)) {Q : Bool → Hp → Prop}
    (hk : ∀ b ρ1 S1 H1, Tr S H σ ρ S1 H1 ρ1 → ER F S1 H1 σ ρ1 → w.P S1 H1 ρ1 (k b ρ1) → Q b H1) : tt σ H Q := by
  refine h.sn F S H σ ρ Q hK fok er ?_
  cases q : g ρ with
  | ok b ρ1 =>
    rw [q] at hp
    exact fun S1 H1 t1 er1 => hk b ρ1 S1 H1 t1 er1 (w.sh er t1 hp)
  | ex x ρ1 =>
    rw [q] at hp
    exact w.ex hp
  | bad =>
    rw [q] at hp
    exact w.bad hp
theorem SW.go (h : SW X W e tt g) (hK : F.K = X.K) (fok : F.Ok W.T) (er : ER F S H σ ρ) (w : Wish F W σ β) {k : Bool → Rho → Out β} (hp : w.P S H ρ ((g ρ).bind k)) {Q : Bool → Hp → Prop}
    (hk : ∀ b ρ1 S1 H1, Tr S H σ ρ S1 H1 ρ1 → ER F S1 H1 σ ρ1 → w.P S1 H1 ρ1 (k b ρ1) → Q b H1) : tt σ H Q := ST.go (X := X) (e := e) ⟨h.pw.pt, h.sn⟩ hK fok er w hp hk
end
end Pv
set_option maxRecDepth 100000
/-! PvC: operators by data. -/
namespace Pv
open PySem PySem.Spec L2

/-- a step that leaves all as it was but for new things; the result -/
def Grow (K : PySem.W.Frag) (S : AS) (H : Hp) (S' : AS) (H' : Hp) (v : V) (r : R) : Prop :=
  (∀ b o, H b = some o → H' b = some o) ∧ match r with
    | .val d => S' = S ∧ Rp K S H' v d
    | .own m => ∃ p, v = .ref p ∧ H p = none ∧ S' = (fun a => S a ∨ a = p) ∧ MOk K S' H' p m
    | .slot _ => False
theorem Grow.val {K : PySem.W.Frag} {S : AS} {H : Hp} {v : V} {d : PyData} (h : Rp K S H v d) : Grow K S H S H v (.val d) := ⟨fun _ _ e => e, rfl, h⟩
theorem Grow.tup {K : PySem.W.Frag} {S : AS} {H : Hp} {p : Addr} {xs : List V} {ds : List PyData} (dom : ∀ a, S a → H a ≠ none) (hp : H p = none) (h : RpA K S H xs ds) : Grow K S H S (upd H p (.tup xs)) (.ref p) (.val (.tuple ds)) := by
  have same : ∀ b o, H b = some o → upd H p (.tup xs) b = some o := fun b o e => by rw [upd_ne (ne_of_none e hp)]; exact e
  exact ⟨same, rfl, .tup (fun z => dom _ z hp) upd_same (h.mono (fun b o _ e _ => same b o e) fun _ z => .inl z)⟩
theorem Grow.lst {K : PySem.W.Frag} {S : AS} {H : Hp} {p : Addr} {xs : List V} {ds : List PyData} (hp : H p = none) (h : RpA K S H xs ds) : Grow K S H (fun a => S a ∨ a = p) (upd H p (.lst xs)) (.ref p) (.own (.lst ds)) := by
  have same : ∀ b o, H b = some o → upd H p (.lst xs) b = some o := fun b o e => by rw [upd_ne (ne_of_none e hp)]; exact e
  refine ⟨same, p, rfl, hp, rfl, xs, upd_same, h.mono (fun b o _ e _ => same b o e) fun a z => ?_⟩
  rcases z with z | z
  · exact .inl z
  · exact .inr (by rw [z]; exact hp)
section
variable {F : Fx} {S S' : AS} {H H' : Hp} {σ : St} {ρ : Rho} {v : V} {r : R}
theorem Grow.step (g : Grow F.K S H S' H' v r) (er : ER F S H σ ρ) (fok : F.Ok T) : Tr S H σ ρ S' H' ρ ∧ ER F S' H' σ ρ ∧ RR F S' H' σ ρ v r ∧ Frsh H v r := by
  obtain ⟨same, g⟩ := g
  have stay : ∀ a, H a ≠ none → H' a ≠ none := fun a h => by
    cases q : H a with
    | none => exact absurd q h
    | some o => rw [same a o q]; exact fun z => nomatch z
  cases r with
  | slot i => exact g.elim
  | val d =>
    obtain ⟨e, h⟩ := g
    subst e
    exact ⟨⟨fun b o _ e _ => same b o e, tab_same same, fun _ h => .inl h, fun _ h _ => h, fun _ _ h => h, stay⟩, er.grow same (fun _ h => .inl h) (fun _ h => h) fun a h => stay a (er.dom a h), h, trivial⟩
  | own m =>
    obtain ⟨p, e, hp, e2, hm⟩ := g
    subst e e2
    have new : ∀ a, (S a ∨ a = p) → S a ∨ H a = none := fun a h => by
      rcases h with h | h
      · exact .inl h
      · exact .inr (by rw [h]; exact hp)
    have nS : ¬ S p := fun z => er.dom p z hp
    refine ⟨⟨fun b o _ e _ => same b o e, tab_same same, new, fun _ h _ => .inl h, fun _ _ h => h, stay⟩, er.grow same new (fun _ h => .inl h) fun a h => ?_, ⟨p, rfl, .inr rfl, ?_, hm, fun i z => nS (er.mutS z)⟩, fun a e => by cases e; exact hp⟩
    · rcases h with q | q
      · exact stay a (er.dom a q)
      · rw [q]; exact MOk.some hm
    · cases q : F.H0 p with
      | none => rfl
      | some o =>
        exfalso
        exact er.st p (by rw [q]; exact fun z => nomatch z) hp
end

/-- an operator's reading r, by data: g -/
def OpG (K : PySem.W.Frag) (r : R2) (g : PyData → PyData → Option R) : Prop := ∀ (S : AS) (H : Hp) (x y : V) (dx dy : PyData) (res : R) (Q : VK), (∀ a, S a → H a ≠ none) → RT K S H x dx → RT K S H y dy → g dx dy = some res →
  (∀ v S' H', Grow K S H S' H' v res → Q v H') → r x y H Q
def res2 (g : PyData → PyData → Option R) (ra rb : R) (ρ : Rho) : Out R := match deref ρ ra, deref ρ rb with
  | some da, some db => (match g da db with
    | some r => .ok r ρ
    | none => .bad)
  | _, _ => .bad
def fOp (g : PyData → PyData → Option R) (fa fb : EF) : EF := fun ρ => (fa ρ).bind fun ra ρ1 => (fb ρ1).bind fun rb ρ2 => res2 g ra rb ρ2
theorem sn_op {X : Cx} {W : Wx} {a b : Expr} {ta tb : TE} {fa fb : EF} {r : R2} {g : PyData → PyData → Option R} (hs : OpG X.K r g) (ha : SE X W a ta fa) (hb : SE X W b tb fb) :
    ∀ (F : Fx) (S : AS) (H : Hp) (σ : St) (ρ : Rho) (Q : VK), F.K = X.K → F.Ok W.T → ER F S H σ ρ → PostE F W S H σ ρ (fOp g fa fb ρ) Q → tOp r ta tb σ H Q := by
  intro F S H σ ρ Q hK fok er hp
  refine ha.go hK fok er (wE F W σ Q) hp fun ra ρ1 v1 S1 H1 t1 er1 rr1 _ hp1 => ?_
  refine hb.go hK fok er1 (wE F W σ Q) hp1 fun rb ρ2 v2 S2 H2 t2 er2 rr2 _ hp2 => ?_
  have rr1' := rr1.tr er1 t2 (er2.len.trans er1.len.symm)
  have hp2 : PostE F W S2 H2 σ ρ2 (res2 g ra rb ρ2) Q := hp2
  unfold res2 at hp2
  cases qa : deref ρ2 ra with
  | none => simp only [qa] at hp2; exact hp2.elim
  | some da =>
    cases qb : deref ρ2 rb with
    | none => simp only [qa, qb] at hp2; exact hp2.elim
    | some db =>
      simp only [qa, qb] at hp2
      cases qg : g da db with
      | none => simp only [qg] at hp2; exact hp2.elim
      | some res =>
        simp only [qg] at hp2
        refine hs S2 H2 v1 v2 da db res Q er2.dom (by rw [← hK]; exact rr1'.rt er2 qa) (by rw [← hK]; exact rr2.rt er2 qb) qg fun v S' H' gr => ?_
        obtain ⟨t, er', rr', fr'⟩ := (show Grow F.K S2 H2 S' H' v res by rw [hK]; exact gr).step er2 fok
        exact hp2 v S' H' t er' rr' fr'
theorem se_op {X : Cx} {W : Wx} {a b : Expr} {ta tb : TE} {fa fb : EF} {op : Operator} {r : R2} {g : PyData → PyData → Option R} {pos : Pos} (ho : OpR X (binaryOp op) r) (hs : OpG X.K r g) (ha : SE X W a ta fa) (hb : SE X W b tb fb) :
    SE X W (.BinOp a op b pos) (tOp r ta tb) (fOp g fa fb) := ⟨pe_op ho ha.pe hb.pe, sn_op hs ha hb⟩
theorem se_cmp {X : Cx} {W : Wx} {a b : Expr} {ta tb : TE} {fa fb : EF} {op : CmpOp} {r : R2} {g : PyData → PyData → Option R} {pos : Pos} (ho : OpR X (compareOp op) r) (hs : OpG X.K r g) (ha : SE X W a ta fa) (hb : SE X W b tb fb) (hm : behindInMarks op b = false) :
    SE X W (.Compare a [op] [b] pos) (tOp r ta tb) (fOp g fa fb) := ⟨pe_cmpR ho ha.pe hb.pe hm, sn_op hs ha hb⟩

/-! ### tests from values -/
def truth : PyData → Option Bool
  | .none => some false
  | .bool b => some b
  | .int i => some (i != 0)
  | .str x => if x.length ≤ sizeLine then some ((x.length : Int) != 0) else none
  | .list ds => some (!ds.isEmpty)
  | .tuple ds => some (!ds.isEmpty)
  | .dict _ => none
def outT (r : R) (ρ : Rho) : Out Bool := match deref ρ r with
  | some d => (match truth d with
    | some b => .ok b ρ
    | none => .bad)
  | none => .bad
def fT (f : EF) : TF := fun ρ => (f ρ).bind outT
/-- a comparison, or anything that yields a bool, as a test -/
def outB (r : R) (ρ : Rho) : Out Bool := match r with
  | .val (.bool b) => .ok b ρ
  | _ => .bad
def fB (f : EF) : TF := fun ρ => (f ρ).bind outB
theorem sn_tB {X : Cx} {W : Wx} {e : Expr} {t : TE} {f : EF} (h : SE X W e t f) :
    ∀ (F : Fx) (S : AS) (H : Hp) (σ : St) (ρ : Rho) (Q : Bool → Hp → Prop), F.K = X.K → F.Ok W.T → ER F S H σ ρ → PostT F W S H σ ρ (fB f ρ) Q → t σ H (fun x H1 => ∃ c, x = .bl c ∧ Q c H1) := by
  intro F S H σ ρ Q hK fok er hp
  refine h.go hK fok er (wT F W σ Q) hp fun r ρ1 v1 S1 H1 t1 er1 rr1 _ hp1 => ?_
  have hp1 : PostT F W S1 H1 σ ρ1 (outB r ρ1) Q := hp1
  match r, rr1, hp1 with
  | .val (.bool b), rr1, hp1 =>
    cases (show Rp F.K S1 H1 v1 (.bool b) from rr1)
    exact ⟨b, rfl, hp1 S1 H1 .refl er1⟩
  | .val .none, _, hp1 => exact hp1.elim
  | .val (.int _), _, hp1 => exact hp1.elim
  | .val (.str _), _, hp1 => exact hp1.elim
  | .val (.list _), _, hp1 => exact hp1.elim
  | .val (.tuple _), _, hp1 => exact hp1.elim
  | .val (.dict _), _, hp1 => exact hp1.elim
  | .own _, _, hp1 => exact hp1.elim
  | .slot _, _, hp1 => exact hp1.elim
theorem st_cmp {X : Cx} {W : Wx} {a b : Expr} {ta tb : TE} {fa fb : EF} {op : CmpOp} {r : R2} {g : PyData → PyData → Option R} {pos : Pos} (ho : OpR X (compareOp op) r) (hs : OpG X.K r g) (ha : SE X W a ta fa) (hb : SE X W b tb fb) (hm : behindInMarks op b = false) :
    ST X W (.Compare a [op] [b] pos) (tTest (tOp r ta tb)) (fB (fOp g fa fb)) := ⟨pt_cmpR ho ha.pe hb.pe hm, sn_tB (se_cmp (pos := pos) ho hs ha hb hm)⟩
end Pv
set_option maxRecDepth 100000
/-! PvD: the operators. -/
namespace Pv
open PySem PySem.Spec L2

section
variable {K : PySem.W.Frag} {S : AS} {H : Hp} {v : V}
theorem RT.none (h : RT K S H v .none) : v = .non := by
  rcases h with h | ⟨a, m, _, e, _⟩
  · cases h; rfl
  · cases m <;> cases e
theorem RT.bool {b : Bool} (h : RT K S H v (.bool b)) : v = .bl b := by
  rcases h with h | ⟨a, m, _, e, _⟩
  · cases h; rfl
  · cases m <;> cases e
theorem RT.int {i : Int} (h : RT K S H v (.int i)) : v = .int i := by
  rcases h with h | ⟨a, m, _, e, _⟩
  · cases h; rfl
  · cases m <;> cases e
theorem RT.str {x : Str} (h : RT K S H v (.str x)) : v = .str x := by
  rcases h with h | ⟨a, m, _, e, _⟩
  · cases h; rfl
  · cases m <;> cases e
theorem RT.tuple {ds : List PyData} (h : RT K S H v (.tuple ds)) : ∃ a xs, v = .ref a ∧ ¬ S a ∧ H a = some (.tup xs) ∧ RpA K S H xs ds := by
  rcases h with h | ⟨a, m, _, e, _⟩
  · cases h with
    | tup n e hs => exact ⟨_, _, rfl, n, e, hs⟩
  · cases m <;> cases e
theorem RT.list {ds : List PyData} (h : RT K S H v (.list ds)) : ∃ a xs, v = .ref a ∧ SqL K H a xs ∧ RpA K S H xs ds := by
  rcases h with h | ⟨a, m, e1, e, h⟩
  · cases h with
    | lst e hs => exact ⟨_, _, rfl, e.seq, hs⟩
  · cases m with
    | lst ds' =>
      cases e
      obtain ⟨vs, e, h⟩ := h
      exact ⟨a, vs, e1, SqL.of e, h⟩
    | dT _ => cases e
    | dK _ => cases e
theorem RT.dict {ds : List (PyData × PyData)} (h : RT K S H v (.dict ds)) : ∃ a, v = .ref a ∧
    ((∃ kvs es, H a = some (.dT kvs) ∧ kvs.map (·.1) = es.map (·.1) ∧ RpA K S H (kvs.map (·.2)) (es.map (·.2)) ∧ ds = dTd es) ∨
     (∃ kvs es, H a = some (.dK kvs) ∧ kvs.map (·.1) = es.map (·.1) ∧ RpA K S H (kvs.map (·.2)) (es.map (·.2)) ∧ ds = dKd es)) := by
  rcases h with h | ⟨a, m, e1, e, h⟩
  · cases h with
    | dT n e k hs e2 => exact ⟨_, rfl, .inl ⟨_, _, e, k, hs, e2⟩⟩
    | dK n e k hs e2 => exact ⟨_, rfl, .inr ⟨_, _, e, k, hs, e2⟩⟩
  · cases m with
    | lst ds' => cases e
    | dT es =>
      cases e
      obtain ⟨kvs, e, k, h⟩ := h
      exact ⟨a, e1, .inl ⟨kvs, es, e, k, h, rfl⟩⟩
    | dK es =>
      cases e
      obtain ⟨kvs, e, k, h⟩ := h
      exact ⟨a, e1, .inr ⟨kvs, es, e, k, h, rfl⟩⟩
theorem RT.dp {d : PyData} (h : RT K S H v d) (hl : d.canLay0 = true) : Dp K H v d := by
  rcases h with h | ⟨a, m, e1, e, h⟩
  · exact h.dp hl
  · cases m with
    | lst ds =>
      subst e e1
      obtain ⟨vs, e, h⟩ := h
      exact .lst (SqL.of e) (h.dp hl)
    | dT _ => subst e; cases hl
    | dK _ => subst e; cases hl
end

/-! ### arithmetic -/
def gSub : PyData → PyData → Option R
  | .int i, .int j => some (.val (.int (i - j)))
  | _, _ => none
def small64 : Int → Bool
  | .ofNat n => decide (n < 18446744073709551616)
  | .negSucc n => decide (n < 18446744073709551615)
theorem small64_ok {i : Int} (h : small64 i = true) : -(2 ^ 64) < i ∧ i < 2 ^ 64 := by
  cases i with
  | ofNat n =>
    have h := of_decide_eq_true (show decide (n < 18446744073709551616) = true from h)
    constructor <;> simp <;> omega
  | negSucc n =>
    have h := of_decide_eq_true (show decide (n < 18446744073709551615) = true from h)
    constructor <;> omega
def gMul : PyData → PyData → Option R
  | .int i, .int j => if small64 i || small64 j then some (.val (.int (i * j))) else none
  | .tuple ds, .int k => if !ds.isEmpty && decide (2 ≤ k) && decide (k ≤ 1000) && decide (ds.length ≤ 1000) then some (.val (.tuple (List.replicate k.toNat ds).flatten)) else none
  | _, _ => none
def gFdiv : PyData → PyData → Option R
  | .int i, .int j => if j ≠ 0 ∧ j.natAbs < 1073741824 then some (.val (.int (i.fdiv j))) else none
  | _, _ => none
def gMod : PyData → PyData → Option R
  | .int i, .int j => if j ≠ 0 then some (.val (.int (i.fmod j))) else none
  | _, _ => none
def gPow : PyData → PyData → Option R
  | .int i, .int j => if 0 ≤ j ∧ j ≤ 1000000 ∧ i.natAbs < 2 ^ 64 then some (.val (.int (i ^ j.toNat))) else none
  | _, _ => none
def gShl : PyData → PyData → Option R
  | .int i, .int j => if 0 ≤ j ∧ j ≤ 1000000 ∧ i.natAbs < 2 ^ 64 then some (.val (.int (i * 2 ^ j.toNat))) else none
  | _, _ => none
def gAdd : PyData → PyData → Option R
  | .int i, .int j => some (.val (.int (i + j)))
  | .str x, .str y => if x.length + y.length ≤ 16777216 then some (.val (.str (x ++ y))) else none
  | .list xs, .list ys => if xs.length + ys.length ≤ 16777216 then some (.own (.lst (xs ++ ys))) else none
  | .tuple xs, .tuple ys => if xs.length + ys.length ≤ 16777216 then some (.val (.tuple (xs ++ ys))) else none
  | _, _ => none

section
variable {X : Cx} {K : PySem.W.Frag}
theorem og_int (r : R2) (g : PyData → PyData → Option R) (f : Int → Int → Option Int) (hg : ∀ dx dy res, g dx dy = some res → ∃ i j k, dx = .int i ∧ dy = .int j ∧ f i j = some k ∧ res = .val (.int k))
    (hr : ∀ (i j k : Int) (H : Hp) (Q : VK), f i j = some k → Q (.int k) H → r (.int i) (.int j) H Q) : OpG K r g := by
  intro S H x y dx dy res Q dom hx hy e q
  obtain ⟨i, j, k, rfl, rfl, e1, rfl⟩ := hg dx dy res e
  cases hx.int
  cases hy.int
  exact hr i j k H Q e1 (q _ S H (.val (.int k)))
theorem og_sub : OpG K (rI0 fun i j => .int (i - j)) gSub := og_int _ _ (fun i j => some (i - j)) (fun dx dy res e => by
  unfold gSub at e
  split at e
  · cases e; exact ⟨_, _, _, rfl, rfl, rfl, rfl⟩
  · cases e) fun i j k H Q e q => by cases e; exact ⟨i, j, rfl, rfl, q⟩
theorem og_fdiv : OpG K (rI CDivN fun i j => .int (i.fdiv j)) gFdiv := og_int _ _ (fun i j => if j ≠ 0 ∧ j.natAbs < 1073741824 then some (i.fdiv j) else none) (fun dx dy res e => by
  unfold gFdiv at e
  split at e
  · split at e
    · rename_i h; cases e; exact ⟨_, _, _, rfl, rfl, by rw [if_pos h], rfl⟩
    · cases e
  · cases e) fun i j k H Q e q => by
    split at e
    · rename_i h; cases e; exact ⟨i, j, rfl, rfl, h, q⟩
    · cases e
theorem og_mod : OpG K (rI (fun _ j => j ≠ 0) fun i j => .int (i.fmod j)) gMod := og_int _ _ (fun i j => if j ≠ 0 then some (i.fmod j) else none) (fun dx dy res e => by
  unfold gMod at e
  split at e
  · split at e
    · rename_i h; cases e; exact ⟨_, _, _, rfl, rfl, by rw [if_pos h], rfl⟩
    · cases e
  · cases e) fun i j k H Q e q => by
    split at e
    · rename_i h; cases e; exact ⟨i, j, rfl, rfl, h, q⟩
    · cases e
theorem og_pow : OpG K (rI CPow fun i j => .int (i ^ j.toNat)) gPow := og_int _ _ (fun i j => if 0 ≤ j ∧ j ≤ 1000000 ∧ i.natAbs < 2 ^ 64 then some (i ^ j.toNat) else none) (fun dx dy res e => by
  unfold gPow at e
  split at e
  · split at e
    · rename_i h; cases e; exact ⟨_, _, _, rfl, rfl, by rw [if_pos h], rfl⟩
    · cases e
  · cases e) fun i j k H Q e q => by
    split at e
    · rename_i h; cases e; exact ⟨i, j, rfl, rfl, h, q⟩
    · cases e
theorem og_shl : OpG K (rI CPow fun i j => .int (i * 2 ^ j.toNat)) gShl := og_int _ _ (fun i j => if 0 ≤ j ∧ j ≤ 1000000 ∧ i.natAbs < 2 ^ 64 then some (i * 2 ^ j.toNat) else none) (fun dx dy res e => by
  unfold gShl at e
  split at e
  · split at e
    · rename_i h; cases e; exact ⟨_, _, _, rfl, rfl, by rw [if_pos h], rfl⟩
    · cases e
  · cases e) fun i j k H Q e q => by
    split at e
    · rename_i h; cases e; exact ⟨i, j, rfl, rfl, h, q⟩
    · cases e
theorem rp_rep {S : AS} {H : Hp} {xs : List V} {ds : List PyData} (h : RpA K S H xs ds) : ∀ n : Nat, RpA K S H (List.replicate n xs).flatten (List.replicate n ds).flatten
  | 0 => .nil
  | n + 1 => by
    rw [List.replicate_succ, List.replicate_succ, List.flatten_cons, List.flatten_cons]
    exact h.append (rp_rep h n)
def rMulA (K : PySem.W.Frag) : R2 := fun x y H Q => rI CMul (fun i j => .int (i * j)) x y H Q ∨ rRepT K x y H Q
theorem op_mulA : OpR X (binaryOp .Mult) (rMulA X.K) := by
  intro pins s σ H x y v u Q I rx ry h
  rcases h with h | h
  · exact op_mul pins s σ H x y v u Q I rx ry h
  · exact op_repT pins s σ H x y v u Q I rx ry h
theorem og_mul : OpG K (rMulA K) gMul := by
  intro S H x y dx dy res Q dom hx hy e q
  unfold gMul at e
  split at e
  · rename_i i j
    split at e
    · rename_i h
      cases e
      cases hx.int
      cases hy.int
      refine .inl ⟨i, j, rfl, rfl, ?_, q _ S H (.val (.int _))⟩
      rw [Bool.or_eq_true] at h
      rcases h with h | h
      · exact .inl (small64_ok h)
      · exact .inr (small64_ok h)
    · cases e
  · rename_i ds k
    split at e
    · rename_i h
      cases e
      cases hy.int
      obtain ⟨a, xs, rfl, n, ha, hs⟩ := hx.tuple
      simp only [Bool.and_eq_true, decide_eq_true_eq] at h
      obtain ⟨⟨⟨h1, h2⟩, h3⟩, h4⟩ := h
      have hl := hs.length
      refine .inr ⟨a, k, xs, rfl, rfl, SqT.of ha, fun z => ?_, h2, h3, by rw [hl]; exact h4, fun p hp => q _ S _ (.tup dom hp (rp_rep hs _))⟩
      subst z
      cases hs
      cases h1
    · cases e
  · cases e
def rCatS (K : PySem.W.Frag) : R2 := fun x y H Q => ∃ l b xs zs, x = .ref l ∧ y = .ref b ∧ SqL K H l xs ∧ SqL K H b zs ∧ xs.length + zs.length ≤ sizeLine ∧ ∀ p, H p = none → Q (.ref p) (upd H p (.lst (xs ++ zs)))
theorem op_catS : OpR X (binaryOp .Add) (rCatS X.K) := by
  intro pins s σ H x y v u Q I rx ry h
  obtain ⟨l, b, xs, zs, rfl, rfl, hH, hB, hz, q⟩ := h
  cases rx
  cases ry
  obtain ⟨its, r, pl, z⟩ := I.list hH
  obtain ⟨its2, r2, pl2, z2⟩ := I.list hB
  obtain ⟨⟨cls, dd, data, sl⟩, n, ho, hc, hdn, hd⟩ := pl
  obtain ⟨⟨cls2, dd2, data2, sl2⟩, n2, ho2, hc2, hdn2, hd2⟩ := pl2
  simp only at hc hd hc2 hd2
  subst hc hd hc2 hd2
  have l1 := r.length
  have l2 := r2.length
  have e : its.toArray ++ its2.toArray = (its ++ its2).toArray := by simp
  refine concat_meets ⟨_, ho, rfl⟩ ⟨_, ho2, rfl⟩ PySem.noFill_list_add PySem.seq_list_add PySem.F.slot_list_add PySem.F.entry_list_add (PySem.F.args_list_add_2 _ _) (PyProof.Rows.list_addW l b its.toArray its2.toArray n n2 dd dd2 sl sl2 (by simp only [List.size_toArray]; omega)) ⟨ho, ho2, ?_⟩
  rw [e]
  exact ⟨.ref _, _, I.lnew (t' := s.toks) (r.append r2) (by rw [List.length_append]; omega), rfl, q _ I.fresh⟩
def rAddA (K : PySem.W.Frag) : R2 := fun x y H Q => rI0 (fun i j => .int (i + j)) x y H Q ∨ (∃ i j, x = .str i ∧ y = .str j ∧ i.length + j.length ≤ sizeLine ∧ Q (.str (i ++ j)) H) ∨ rCatS K x y H Q ∨ rCatA K x y H Q
theorem op_addA : OpR X (binaryOp .Add) (rAddA X.K) := by
  intro pins s σ H x y v u Q I rx ry h
  rcases h with h | h | h | h
  · exact op_add pins s σ H x y v u Q I rx ry h
  · exact op_add_str pins s σ H x y v u Q I rx ry h
  · exact op_catS pins s σ H x y v u Q I rx ry h
  · exact op_catA pins s σ H x y v u Q I rx ry h
theorem og_add : OpG K (rAddA K) gAdd := by
  intro S H x y dx dy res Q dom hx hy e q
  unfold gAdd at e
  split at e
  · rename_i i j
    cases e
    cases hx.int
    cases hy.int
    exact .inl ⟨i, j, rfl, rfl, q _ S H (.val (.int _))⟩
  · rename_i i j
    split at e
    · rename_i h
      cases e
      cases hx.str
      cases hy.str
      exact .inr (.inl ⟨i, j, rfl, rfl, by rw [sizeLine_eq]; exact h, q _ S H (.val (.str _))⟩)
    · cases e
  · rename_i xs ys
    split at e
    · rename_i h
      cases e
      obtain ⟨a, vs, rfl, ha, hs⟩ := hx.list
      obtain ⟨b, ws, rfl, hb, ht⟩ := hy.list
      have l1 := hs.length
      have l2 := ht.length
      exact .inr (.inr (.inl ⟨a, b, vs, ws, rfl, rfl, ha, hb, by rw [sizeLine_eq]; omega, fun p hp => q _ _ _ (.lst hp (hs.append ht))⟩))
    · cases e
  · rename_i xs ys
    split at e
    · rename_i h
      cases e
      obtain ⟨a, vs, rfl, na, ha, hs⟩ := hx.tuple
      obtain ⟨b, ws, rfl, nb, hb, ht⟩ := hy.tuple
      have l1 := hs.length
      have l2 := ht.length
      refine .inr (.inr (.inr ⟨a, b, vs, ws, rfl, rfl, SqT.of ha, SqT.of hb, by rw [sizeLine_eq]; omega, fun z => ?_, fun _ z => ?_, fun _ _ p hp => q _ S _ (.tup dom hp (hs.append ht))⟩))
      · subst z
        cases hs
        exact q _ S H (.val (.tup nb hb ht))
      · subst z
        cases ht
        rw [List.append_nil] at q
        exact q _ S H (.val (.tup na ha hs))
    · cases e
  · cases e

/-! ### comparisons -/
def eqD? (dx dy : PyData) : Option Bool := if SeqAt.shaped dx && SeqAt.shaped dy then some (PyData.eqv dx dy) else none
def gEq (dx dy : PyData) : Option R := (eqD? dx dy).map fun b => .val (.bool b)
def gNe (dx dy : PyData) : Option R := (eqD? dx dy).map fun b => .val (.bool (!b))
theorem canLay_shaped {d : PyData} (h : SeqAt.shaped d = true) : d.canLay0 = true := SeqAt.canLay_of_shaped h
theorem og_eq : OpG K (rEqD K) gEq := by
  intro S H x y dx dy res Q dom hx hy e q
  unfold gEq eqD? at e
  split at e
  · rename_i h
    cases e
    rw [Bool.and_eq_true] at h
    exact ⟨dx, dy, hx.dp (canLay_shaped h.1), hy.dp (canLay_shaped h.2), h.1, h.2, q _ S H (.val (.bl _))⟩
  · cases e
theorem og_ne : OpG K (rNeD K) gNe := by
  intro S H x y dx dy res Q dom hx hy e q
  unfold gNe eqD? at e
  split at e
  · rename_i h
    cases e
    rw [Bool.and_eq_true] at h
    exact ⟨dx, dy, hx.dp (canLay_shaped h.1), hy.dp (canLay_shaped h.2), h.1, h.2, q _ S H (.val (.bl _))⟩
  · cases e
def gCmp (p : Int → Int → Bool) : PyData → PyData → Option R
  | .int i, .int j => some (.val (.bool (p i j)))
  | _, _ => none
abbrev gLt := gCmp fun i j => decide (i < j)
abbrev gLe := gCmp fun i j => decide (i ≤ j)
abbrev gGt := gCmp fun i j => decide (j < i)
abbrev gGe := gCmp fun i j => decide (j ≤ i)
theorem og_cmp (p : Int → Int → Bool) : OpG K (rI0 fun i j => .bl (p i j)) (gCmp p) := by
  intro S H x y dx dy res Q dom hx hy e q
  unfold gCmp at e
  split at e
  · rename_i i j
    cases e
    cases hx.int
    cases hy.int
    exact ⟨i, j, rfl, rfl, q _ S H (.val (.bl _))⟩
  · cases e
def isNoneD : PyData → Bool
  | .none => true
  | _ => false
def gIs : PyData → PyData → Option R
  | d, .none => some (.val (.bool (isNoneD d)))
  | .bool a, .bool b => some (.val (.bool (decide (a = b))))
  | _, _ => none
def gIsNot (dx dy : PyData) : Option R := match gIs dx dy with
  | some (.val (.bool b)) => some (.val (.bool (!b)))
  | _ => none
theorem RT.isNone {S : AS} {H : Hp} {v : V} {d : PyData} (h : RT K S H v d) : decide (v = .non) = isNoneD d := by
  cases d with
  | none => cases h.none; rfl
  | bool b => cases h.bool; rfl
  | int b => cases h.int; rfl
  | str b => cases h.str; rfl
  | list ds => obtain ⟨a, xs, rfl, _⟩ := h.list; rfl
  | tuple ds => obtain ⟨a, xs, rfl, _⟩ := h.tuple; rfl
  | dict ds => obtain ⟨a, rfl, _⟩ := h.dict; rfl
def rIsA : R2 := fun x y H Q => (y = .non ∧ Q (.bl (decide (x = .non))) H) ∨ rIsB x y H Q
def rIsNotA : R2 := fun x y H Q => (y = .non ∧ Q (.bl (!decide (x = .non))) H) ∨ rNotB x y H Q
theorem op_isA : OpR X (compareOp .Is) rIsA := by
  intro pins s σ H x y v u Q I rx ry h
  rcases h with h | h
  · exact op_isN pins s σ H x y v u Q I rx ry h
  · exact op_isBl pins s σ H x y v u Q I rx ry h
theorem op_isNotA : OpR X (compareOp .IsNot) rIsNotA := by
  intro pins s σ H x y v u Q I rx ry h
  rcases h with h | h
  · exact op_notN pins s σ H x y v u Q I rx ry h
  · exact op_notBl pins s σ H x y v u Q I rx ry h
theorem og_is : OpG K rIsA gIs := by
  intro S H x y dx dy res Q dom hx hy e q
  unfold gIs at e
  split at e
  · cases e
    cases hy.none
    refine .inl ⟨rfl, ?_⟩
    rw [hx.isNone]
    exact q _ S H (.val (.bl _))
  · rename_i a b
    cases e
    cases hx.bool
    cases hy.bool
    exact .inr ⟨a, b, rfl, rfl, q _ S H (.val (.bl _))⟩
  · cases e
theorem og_isNot : OpG K rIsNotA gIsNot := by
  intro S H x y dx dy res Q dom hx hy e q
  unfold gIsNot at e
  split at e
  · rename_i b h
    cases e
    unfold gIs at h
    split at h
    · cases h
      cases hy.none
      refine .inl ⟨rfl, ?_⟩
      rw [hx.isNone]
      exact q _ S H (.val (.bl _))
    · rename_i a b
      cases h
      cases hx.bool
      cases hy.bool
      exact .inr ⟨a, b, rfl, rfl, q _ S H (.val (.bl _))⟩
    · cases h
  · cases e

/-! ### in -/
def keyOf : PyData → Option Key
  | .int i => some (.inl i)
  | .str x => some (.inr x)
  | _ => none
def keysOf : List PyData → Option (List Key)
  | [] => some []
  | d :: ds => match keyOf d, keysOf ds with
    | some k, some ks => some (k :: ks)
    | _, _ => none
def dlook (ds : List (PyData × PyData)) (k : PyData) : Option PyData := (ds.find? fun p => PyData.eqv p.1 k).map (·.2)
theorem keyOf_kD {d : PyData} {k : Key} (h : keyOf d = some k) : d = kD k := by
  cases d <;> cases h <;> rfl
theorem keysOf_kD : ∀ {ds : List PyData} {ks : List Key}, keysOf ds = some ks → ds = ks.map kD
  | [], _, h => by cases h; rfl
  | d :: ds, ks, h => by
    unfold keysOf at h
    cases q : keyOf d with
    | none => simp [q] at h
    | some k =>
      cases q2 : keysOf ds with
      | none => simp [q, q2] at h
      | some ks' =>
        simp only [q, q2, Option.some.injEq] at h
        subst h
        rw [keyOf_kD q, keysOf_kD q2] <;> rfl
theorem eqv_kD (a b : Key) : PyData.eqv (kD a) (kD b) = decide (a = b) := by
  cases a with
  | inl i =>
    cases b with
    | inl j =>
      simp only [kD, PyData.eqv, Sum.inl.injEq]
      by_cases h : i = j <;> simp [h]
    | inr y => simp [kD, PyData.eqv]
  | inr x =>
    cases b with
    | inl j => simp [kD, PyData.eqv]
    | inr y =>
      simp only [kD, PyData.eqv, Sum.inr.injEq]
      by_cases h : x = y <;> simp [h]
theorem eqv_kDs : ∀ (a b : List Key), PyData.eqvAll (a.map kD) (b.map kD) = decide (a = b)
  | [], [] => by simp [PyData.eqvAll]
  | [], _ :: _ => by simp [PyData.eqvAll]
  | _ :: _, [] => by simp [PyData.eqvAll]
  | x :: a, y :: b => by
    simp only [List.map_cons, PyData.eqvAll, eqv_kD, eqv_kDs a b, List.cons.injEq]
    by_cases h1 : x = y <;> by_cases h2 : a = b <;> simp [h1, h2]
theorem eqv_kT (a b : List Key) : PyData.eqv (.tuple (a.map kD)) (.tuple (b.map kD)) = decide (a = b) := by
  rw [PyData.eqv]
  exact eqv_kDs a b
def RO (K : PySem.W.Frag) (S : AS) (H : Hp) : Option V → Option PyData → Prop
  | some v, some d => Rp K S H v d
  | none, none => True
  | _, _ => False
theorem kv_look {κ : Type} [DecidableEq κ] (c : κ → PyData) (hc : ∀ a b, PyData.eqv (c a) (c b) = decide (a = b)) {K : PySem.W.Frag} {S : AS} {H : Hp} (k : κ) :
    ∀ {kvs : List (κ × V)} {es : List (κ × PyData)}, kvs.map (·.1) = es.map (·.1) → RpA K S H (kvs.map (·.2)) (es.map (·.2)) →
      RO K S H (valV kvs k) (dlook (es.map fun p => (c p.1, p.2)) (c k))
  | [], [], _, _ => trivial
  | [], _ :: _, e, _ => by simp at e
  | _ :: _, [], e, _ => by simp at e
  | (a, v) :: kvs, (b, d) :: es, e, h => by
    simp only [List.map_cons, List.cons.injEq] at e
    obtain ⟨e1, e2⟩ := e
    subst e1
    cases h with
    | cons h1 h2 =>
      by_cases q : a = k
      · rw [valV_pos q]
        subst q
        simp [dlook, hc]
        exact h1
      · rw [valV_neg (by exact q)]
        have := kv_look c hc k e2 h2
        simpa [dlook, hc, q] using this
theorem rp_kD {K : PySem.W.Frag} {S : AS} {H : Hp} {v : V} {k : Key} (h : Rp K S H v (kD k)) : v = kV k := by
  cases k with
  | inl i => cases h; rfl
  | inr s => cases h; rfl
theorem rp_kDs {K : PySem.W.Frag} {S : AS} {H : Hp} : ∀ {ks : List Key} {vs : List V}, RpA K S H vs (ks.map kD) → vs = ks.map kV
  | [], _, h => by cases h; rfl
  | k :: ks, _, h => by
    cases h with
    | cons h1 h2 => rw [rp_kD h1, rp_kDs h2] <;> rfl
theorem RT.key {K : PySem.W.Frag} {S : AS} {H : Hp} {y : V} {dk : PyData} {k : Key} (hy : RT K S H y dk) (e : keyOf dk = some k) : dk = kD k ∧ y = kV k := by
  have e' := keyOf_kD e
  subst e'
  refine ⟨rfl, ?_⟩
  cases k with
  | inl i => exact hy.int
  | inr s => exact hy.str
theorem RT.keyT {K : PySem.W.Frag} {S : AS} {H : Hp} {y : V} {xs : List PyData} {ks : List Key} (hy : RT K S H y (.tuple xs)) (e : keysOf xs = some ks) : xs = ks.map kD ∧ ∃ b, y = .ref b ∧ H b = some (.tup (ks.map kV)) := by
  have e' := keysOf_kD e
  subst e'
  obtain ⟨b, vs, rfl, nb, hb, hs⟩ := hy.tuple
  rw [rp_kDs hs] at hb
  exact ⟨rfl, b, rfl, hb⟩
/-- what a dict holds at a key; nothing where the key is of another kind -/
def dget? (ds : List (PyData × PyData)) (k : PyData) : Option (Option PyData) := match ds, k with
  | (.none, .bool true) :: es, .tuple xs => if (keysOf xs).isSome then some (dlook es (.tuple xs)) else none
  | (.none, .bool false) :: es, .int i => some (dlook es (.int i))
  | (.none, .bool false) :: es, .str x => some (dlook es (.str x))
  | _, _ => none
theorem RT.look {K : PySem.W.Frag} {S : AS} {H : Hp} {x y : V} {ds : List (PyData × PyData)} {dk : PyData} {o : Option PyData} (hx : RT K S H x (.dict ds)) (hy : RT K S H y dk) (e : dget? ds dk = some o) : ∃ a ov, x = .ref a ∧ DGet H a y ov ∧ RO K S H ov o := by
  obtain ⟨a, rfl, h⟩ := hx.dict
  rcases h with ⟨kvs, es, eh, ek, hs, rfl⟩ | ⟨kvs, es, eh, ek, hs, rfl⟩
  · cases dk with
    | tuple xs =>
      simp only [dTd, dget?] at e
      split at e
      · rename_i q
        cases e
        obtain ⟨ks, q⟩ := Option.isSome_iff_exists.mp q
        obtain ⟨rfl, b, rfl, hb⟩ := hy.keyT q
        exact ⟨a, _, rfl, .t eh hb, kv_look (fun ks : List Key => PyData.tuple (ks.map kD)) eqv_kT ks ek hs⟩
      · cases e
    | _ => simp [dTd, dget?] at e
  · cases dk with
    | int i =>
      simp only [dKd, dget?, Option.some.injEq] at e
      subst e
      cases hy.int
      exact ⟨a, _, rfl, .k (k := Sum.inl i) eh, kv_look kD eqv_kD (Sum.inl i) ek hs⟩
    | str i =>
      simp only [dKd, dget?, Option.some.injEq] at e
      subst e
      cases hy.str
      exact ⟨a, _, rfl, .k (k := Sum.inr i) eh, kv_look kD eqv_kD (Sum.inr i) ek hs⟩
    | _ => simp [dKd, dget?] at e
theorem RO.isSome {K : PySem.W.Frag} {S : AS} {H : Hp} : ∀ {ov : Option V} {o : Option PyData}, RO K S H ov o → ov.isSome = o.isSome
  | some _, some _, _ => rfl
  | none, none, _ => rfl
  | some _, none, h => h.elim
  | none, some _, h => h.elim

/-- one sign (or a text) in a text -/
def inStr (x y : Str) : Bool := !(Builtin.Str.occurrences y x 0 y.length 1).isEmpty
def in? (dx dy : PyData) : Option Bool := match dy with
  | .list ds => if SeqAt.shaped dx && SeqAt.shaped (.list ds) then some (ds.any fun z => PyData.eqv z dx) else none
  | .tuple ds => if SeqAt.shaped dx && SeqAt.shaped (.tuple ds) then some (ds.any fun z => PyData.eqv z dx) else none
  | .dict ds => (dget? ds dx).map (·.isSome)
  | .str y => (match dx with
    | .str x => some (inStr x y)
    | _ => none)
  | _ => none
def gIn (dx dy : PyData) : Option R := (in? dx dy).map fun b => .val (.bool b)
def gNotIn (dx dy : PyData) : Option R := (in? dx dy).map fun b => .val (.bool (!b))
/-- n: whether it is «not in» -/
def rInA (K : PySem.W.Frag) (n : Bool) : R2 := fun x y H Q =>
  (∃ d ds, Dp K H x d ∧ Dp K H y (.list ds) ∧ SeqAt.shaped d = true ∧ SeqAt.shaped (.list ds) = true ∧ Q (.bl (n != ds.any fun z => PyData.eqv z d)) H) ∨
  (∃ d ds, Dp K H x d ∧ Dp K H y (.tuple ds) ∧ SeqAt.shaped d = true ∧ SeqAt.shaped (.tuple ds) = true ∧ Q (.bl (n != ds.any fun z => PyData.eqv z d)) H) ∨
  (∃ a o, y = .ref a ∧ DGet H a x o ∧ Q (.bl (n != o.isSome)) H) ∨
  (∃ i j, x = .str i ∧ y = .str j ∧ Q (.bl (n != inStr i j)) H)
theorem op_inA (hu : X.A.units + 65 < cLine) : OpR X (compareOp .In) (rInA X.K false) := by
  intro pins s σ H x y v u Q I rx ry h
  rcases h with h | ⟨d, ds, hd, he, sd, se, q⟩ | ⟨a, o, rfl, hg, q⟩ | ⟨i, j, rfl, rfl, q⟩
  · obtain ⟨d, ds, hd, he, sd, se, q⟩ := h
    exact op_inD hu pins s σ H x y v u Q I rx ry ⟨d, ds, hd, he, sd, se, by simpa using q⟩
  · obtain ⟨as, r1⟩ := Dp.reads I d x v hd rx
    obtain ⟨bs, r2⟩ := Dp.reads I (.tuple ds) y u he ry
    exact SeqAt.in_tuple_reads r2 r1 (SeqAt.canLay_of_shaped se) (SeqAt.canLay_of_shaped sd) (PyProof.Rows.room_in_shaped sd hu) ⟨.bl _, H, I, rfl, by simpa using q⟩
  · cases (show u = Value.ref a from ry)
    exact d_in (by omega) I hg rx fun s' I' => ⟨.bl _, H, I', rfl, by simpa using q⟩
  · exact op_in_str pins s σ H _ _ v u Q I rx ry ⟨i, j, rfl, rfl, by simpa [inStr] using q⟩
theorem op_notInA (hu : X.A.units + 65 < cLine) : OpR X (compareOp .NotIn) (rInA X.K true) := by
  intro pins s σ H x y v u Q I rx ry h
  rcases h with h | ⟨d, ds, hd, he, sd, se, q⟩ | ⟨a, o, rfl, hg, q⟩ | ⟨i, j, rfl, rfl, q⟩
  · obtain ⟨d, ds, hd, he, sd, se, q⟩ := h
    exact op_notInD hu pins s σ H x y v u Q I rx ry ⟨d, ds, hd, he, sd, se, by simpa using q⟩
  · obtain ⟨as, r1⟩ := Dp.reads I d x v hd rx
    obtain ⟨bs, r2⟩ := Dp.reads I (.tuple ds) y u he ry
    exact SeqAt.notIn_tuple_reads r2 r1 (SeqAt.canLay_of_shaped se) (SeqAt.canLay_of_shaped sd) (PyProof.Rows.room_in_shaped sd hu) ⟨.bl _, H, I, rfl, by simpa using q⟩
  · cases (show u = Value.ref a from ry)
    exact d_notIn (by omega) I hg rx fun s' I' => ⟨.bl _, H, I', rfl, by simpa using q⟩
  · exact op_notIn_str pins s σ H _ _ v u Q I rx ry ⟨i, j, rfl, rfl, by simpa [inStr] using q⟩
theorem og_inA (n : Bool) : OpG K (rInA K n) (fun dx dy => (in? dx dy).map fun b => .val (.bool (n != b))) := by
  intro S H x y dx dy res Q dom hx hy e q
  cases ei : in? dx dy with
  | none => simp [ei] at e
  | some b =>
    simp only [ei, Option.map_some, Option.some.injEq] at e
    subst e
    have q' : Q (.bl (n != b)) H := q _ S H (.val (.bl _))
    cases dy with
    | list ds =>
      simp only [in?] at ei
      split at ei
      · rename_i h
        cases ei
        rw [Bool.and_eq_true] at h
        exact .inl ⟨dx, ds, hx.dp (canLay_shaped h.1), hy.dp (canLay_shaped h.2), h.1, h.2, q'⟩
      · cases ei
    | tuple ds =>
      simp only [in?] at ei
      split at ei
      · rename_i h
        cases ei
        rw [Bool.and_eq_true] at h
        exact .inr (.inl ⟨dx, ds, hx.dp (canLay_shaped h.1), hy.dp (canLay_shaped h.2), h.1, h.2, q'⟩)
      · cases ei
    | dict ds =>
      simp only [in?] at ei
      cases eo : dget? ds dx with
      | none => simp [eo] at ei
      | some o =>
        simp only [eo, Option.map_some, Option.some.injEq] at ei
        subst ei
        obtain ⟨a, ov, rfl, hg, ro⟩ := hy.look hx eo
        exact .inr (.inr (.inl ⟨a, ov, rfl, hg, by rw [ro.isSome]; exact q'⟩))
    | str j =>
      simp only [in?] at ei
      split at ei
      · rename_i i
        cases ei
        cases hx.str
        cases hy.str
        exact .inr (.inr (.inr ⟨i, j, rfl, rfl, q'⟩))
      · cases ei
    | _ => simp [in?] at ei
theorem og_in : OpG K (rInA K false) gIn := by
  have h := og_inA (K := K) false
  have e : (fun dx dy => (in? dx dy).map fun b => R.val (.bool (false != b))) = gIn := by
    funext dx dy
    unfold gIn
    congr 1
    funext b
    cases b <;> rfl
  rw [e] at h
  exact h
theorem og_notIn : OpG K (rInA K true) gNotIn := by
  have h := og_inA (K := K) true
  have e : (fun dx dy => (in? dx dy).map fun b => R.val (.bool (true != b))) = gNotIn := by
    funext dx dy
    unfold gNotIn
    congr 1
    funext b
    cases b <;> rfl
  rw [e] at h
  exact h
end
end Pv
set_option maxRecDepth 100000
/-! PvE: expressions. -/
namespace Pv
open PySem PySem.Spec L2

section
variable {X : Cx} {W : Wx} {e a b c : Expr} {ta tb tc te : TE} {fa fb fc f : EF} {tA tB' : TT} {gA gB : TF} {pos : Pos} {rest : List Expr}

/-! ### names, constants -/
def fVar (i : Nat) : EF := fun ρ => match ρ[i]? with
  | some (.val d) => .ok (.val d) ρ
  | some (.own _) => .ok (.slot i) ρ
  | some (.lent _) => .ok (.slot i) ρ
  | _ => .bad
theorem se_var (i : Nat) {x : Str} {pos : Pos} (hN : X.N[i]? = some x := by rfl) (hv : Vis X.env.scope x := by first | exact Or.inl rfl | exact Or.inr (Or.inl rfl) | exact Or.inr (Or.inr rfl)) (hd : (x == ("__debug__" : Str)) = false := by decide)
    (hcd : (x == ("__classdict__" : Str)) = false := by decide) : SE X W (.Name x pos) (tVar i) (fVar i) := by
  refine ⟨pe_var hN hv hd hcd, fun F S H σ ρ Q hK fok er hp => ?_⟩
  unfold fVar at hp
  cases q : ρ[i]? with
  | none => simp only [q] at hp; exact hp.elim
  | some s =>
    have z := er.at_ i s q
    have hi : i < ρ.length := (List.getElem?_eq_some_iff.mp q).1
    cases s with
    | no => simp only [q] at hp; exact hp.elim
    | val d =>
      simp only [q] at hp
      obtain ⟨x, e, h⟩ := z
      exact ⟨x, e, hp x S H .refl er h trivial⟩
    | own m =>
      simp only [q] at hp
      obtain ⟨a, e, _⟩ := z
      exact ⟨_, e, hp _ S H .refl er ⟨e, hi⟩ trivial⟩
    | lent m =>
      simp only [q] at hp
      obtain ⟨a, e, _⟩ := z
      exact ⟨_, e, hp _ S H .refl er ⟨e, hi⟩ trivial⟩
    | pin b m => simp only [q] at hp; exact hp.elim
    | ins g => simp only [q] at hp; exact hp.elim
def fC (d : PyData) : EF := fun ρ => .ok (.val d) ρ
theorem sn_C {v : V} {d : PyData} (h : ∀ K S H, Rp K S H v d) : ∀ (F : Fx) (S : AS) (H : Hp) (σ : St) (ρ : Rho) (Q : VK), F.K = X.K → F.Ok W.T → ER F S H σ ρ → PostE F W S H σ ρ (fC d ρ) Q → tC v σ H Q :=
  fun F S H σ ρ Q _ _ er hp => hp v S H .refl er (h _ _ _) trivial
theorem se_int {i : Int} {j : Nat} : SE X W (.Constant (.int i) j pos) (tC (.int i)) (fC (.int i)) := ⟨pe_int, sn_C fun _ _ _ => .int i⟩
theorem se_bl {b : Bool} {j : Nat} : SE X W (.Constant (.bool b) j pos) (tC (.bl b)) (fC (.bool b)) := ⟨pe_bl, sn_C fun _ _ _ => .bl b⟩
theorem se_non {j : Nat} : SE X W (.Constant .none j pos) (tC .non) (fC .none) := ⟨pe_non, sn_C fun _ _ _ => .non⟩
theorem se_str {x : Str} {j : Nat} : SE X W (.Constant (.str x) j pos) (tC (.str x)) (fC (.str x)) := ⟨pe_str, sn_C fun _ _ _ => .str x⟩
/-- a module's constant -/
theorem se_globI {x : Str} {i : Int} {t : Tok} (hg : Gl X x) (hm : X.mg x = some (.int i t)) (hd : (x == ("__debug__" : Str)) = false := by decide) : SE X W (.Name x pos) (tC (.int i)) (fC (.int i)) := ⟨pe_glob hg hm ⟨t, rfl⟩ hd, sn_C fun _ _ _ => .int i⟩
theorem se_globS {x y : Str} {t : Tok} (hg : Gl X x) (hm : X.mg x = some (.str y t)) (hd : (x == ("__debug__" : Str)) = false := by decide) : SE X W (.Name x pos) (tC (.str y)) (fC (.str y)) := ⟨pe_glob hg hm ⟨t, rfl⟩ hd, sn_C fun _ _ _ => .str y⟩

/-! ### tests -/
theorem st_truth (ha : SE X W a ta fa) (he : ∀ whole, isTrue a X.env whole = (do let v ← whole; standAt a.pos; holding [v] (truthy v)) := by intro _; rfl) :
    ST X W a (fun σ H Q => ta σ H fun x H1 => ∃ k, TruV X.K x H1 k ∧ Q k H1) (fT fa) := by
  refine ⟨pt_truth ha.pe he, fun F S H σ ρ Q hK fok er hp => ?_⟩
  refine ha.go hK fok er (wT F W σ Q) hp fun r ρ1 v1 S1 H1 t1 er1 rr1 _ hp1 => ?_
  have hp1 : PostT F W S1 H1 σ ρ1 (outT r ρ1) Q := hp1
  unfold outT at hp1
  cases qa : deref ρ1 r with
  | none => simp only [qa] at hp1; exact hp1.elim
  | some d =>
    simp only [qa] at hp1
    have rt := rr1.rt er1 qa
    cases qb : truth d with
    | none => simp only [qb] at hp1; exact hp1.elim
    | some k =>
      simp only [qb] at hp1
      refine ⟨k, ?_, hp1 S1 H1 .refl er1⟩
      rw [hK] at rt
      cases d with
      | none => cases rt.none; cases qb; rfl
      | bool b => cases rt.bool; cases qb; rfl
      | int i => cases rt.int; cases qb; rfl
      | str x =>
        cases rt.str
        simp only [truth] at qb
        by_cases h : x.length ≤ sizeLine
        · rw [if_pos h] at qb
          cases qb
          exact ⟨h, rfl⟩
        · rw [if_neg h] at qb
          cases qb
      | list ds =>
        obtain ⟨a, xs, rfl, hs, hr⟩ := rt.list
        cases qb
        refine .inl ⟨xs, hs, ?_⟩
        cases hr <;> rfl
      | tuple ds =>
        obtain ⟨a, xs, rfl, _, hs, hr⟩ := rt.tuple
        cases qb
        refine .inr (.inl ⟨xs, SqT.of hs, ?_⟩)
        cases hr <;> rfl
      | dict ds => cases qb
def fNot (g : TF) : TF := fun ρ => (g ρ).bind fun b ρ1 => .ok (!b) ρ1
theorem st_not (ha : ST X W a tA gA) : ST X W (.UnaryOp .Not a pos) (tNot tA) (fNot gA) := by
  refine ⟨pt_not ha.pt, fun F S H σ ρ Q hK fok er hp => ?_⟩
  exact ha.go hK fok er (wT F W σ Q) hp fun b ρ1 S1 H1 t1 er1 hp1 => hp1 S1 H1 .refl er1
def fAnd (ga gb : TF) : TF := fun ρ => (ga ρ).bind fun b ρ1 => if b = true then gb ρ1 else .ok false ρ1
def fOr (ga gb : TF) : TF := fun ρ => (ga ρ).bind fun b ρ1 => if b = true then .ok true ρ1 else gb ρ1
theorem sw_and1 (ha : ST X W a tA gA) : SW X W (.BoolOp .And [a] pos) tA gA := ⟨pw_and1 ha.pt, ha.sn⟩
theorem sw_or1 (ha : ST X W a tA gA) : SW X W (.BoolOp .Or [a] pos) tA gA := ⟨pw_or1 ha.pt, ha.sn⟩
theorem sw_and (ha : ST X W a tA gA) (hb : SW X W (.BoolOp .And (b :: rest) pos) tB' gB) : SW X W (.BoolOp .And (a :: b :: rest) pos) (tAnd tA tB') (fAnd gA gB) := by
  refine ⟨pw_and ha.pt hb.pw, fun F S H σ ρ Q hK fok er hp => ?_⟩
  refine ha.go hK fok er (wT F W σ Q) hp fun b ρ1 S1 H1 t1 er1 hp1 => ?_
  cases b with
  | true => exact iteT (hb.sn F S1 H1 σ ρ1 Q hK fok er1 hp1)
  | false => exact iteF (hp1 S1 H1 .refl er1)
theorem sw_or (ha : ST X W a tA gA) (hb : SW X W (.BoolOp .Or (b :: rest) pos) tB' gB) : SW X W (.BoolOp .Or (a :: b :: rest) pos) (tOr tA tB') (fOr gA gB) := by
  refine ⟨pw_or ha.pt hb.pw, fun F S H σ ρ Q hK fok er hp => ?_⟩
  refine ha.go hK fok er (wT F W σ Q) hp fun b ρ1 S1 H1 t1 er1 hp1 => ?_
  cases b with
  | true => exact iteT (hp1 S1 H1 .refl er1)
  | false => exact iteF (hb.sn F S1 H1 σ ρ1 Q hK fok er1 hp1)
theorem SW.st {e : Expr} (h : SW X W e tA gA) : ST X W e tA gA := ⟨h.pw.pt, h.sn⟩
/-- .. as values -/
def fAndV (fa fb : EF) : EF := fun ρ => (fa ρ).bind fun r ρ1 => match r with
  | .val (.bool true) => fb ρ1
  | .val (.bool false) => .ok (.val (.bool false)) ρ1
  | _ => .bad
def fOrV (fa fb : EF) : EF := fun ρ => (fa ρ).bind fun r ρ1 => match r with
  | .val (.bool true) => .ok (.val (.bool true)) ρ1
  | .val (.bool false) => fb ρ1
  | _ => .bad
def fNotV (fa : EF) : EF := fun ρ => (fa ρ).bind fun r ρ1 => match r with
  | .val (.bool b) => .ok (.val (.bool (!b))) ρ1
  | _ => .bad
theorem se_one {op} (h : SE X W a ta fa) : SE X W (.BoolOp op [a] pos) ta fa := ⟨pe_one h.pe, h.sn⟩
theorem se_and (ha : SE X W a ta fa) (hb : SE X W (.BoolOp .And (b :: rest) pos) tb fb) : SE X W (.BoolOp .And (a :: b :: rest) pos) (tAndV ta tb) (fAndV fa fb) := by
  refine ⟨pe_and ha.pe hb.pe, fun F S H σ ρ Q hK fok er hp => ?_⟩
  refine ha.go hK fok er (wE F W σ Q) hp fun r ρ1 v S1 H1 t1 er1 rr _ hp1 => ?_
  match r, rr, hp1 with
  | .val (.bool true), rr, hp1 =>
    cases (show Rp F.K S1 H1 v (.bool true) from rr)
    exact ⟨true, rfl, iteT (hb.sn F S1 H1 σ ρ1 Q hK fok er1 hp1)⟩
  | .val (.bool false), rr, hp1 =>
    cases (show Rp F.K S1 H1 v (.bool false) from rr)
    exact ⟨false, rfl, iteF (hp1 _ S1 H1 .refl er1 (.bl false) trivial)⟩
  | .val .none, _, hp1 => exact hp1.elim
  | .val (.int _), _, hp1 => exact hp1.elim
  | .val (.str _), _, hp1 => exact hp1.elim
  | .val (.list _), _, hp1 => exact hp1.elim
  | .val (.tuple _), _, hp1 => exact hp1.elim
  | .val (.dict _), _, hp1 => exact hp1.elim
  | .own _, _, hp1 => exact hp1.elim
  | .slot _, _, hp1 => exact hp1.elim
theorem se_or (ha : SE X W a ta fa) (hb : SE X W (.BoolOp .Or (b :: rest) pos) tb fb) : SE X W (.BoolOp .Or (a :: b :: rest) pos) (tOrV ta tb) (fOrV fa fb) := by
  refine ⟨pe_or ha.pe hb.pe, fun F S H σ ρ Q hK fok er hp => ?_⟩
  refine ha.go hK fok er (wE F W σ Q) hp fun r ρ1 v S1 H1 t1 er1 rr _ hp1 => ?_
  match r, rr, hp1 with
  | .val (.bool true), rr, hp1 =>
    cases (show Rp F.K S1 H1 v (.bool true) from rr)
    exact ⟨true, rfl, iteT (hp1 _ S1 H1 .refl er1 (.bl true) trivial)⟩
  | .val (.bool false), rr, hp1 =>
    cases (show Rp F.K S1 H1 v (.bool false) from rr)
    exact ⟨false, rfl, iteF (hb.sn F S1 H1 σ ρ1 Q hK fok er1 hp1)⟩
  | .val .none, _, hp1 => exact hp1.elim
  | .val (.int _), _, hp1 => exact hp1.elim
  | .val (.str _), _, hp1 => exact hp1.elim
  | .val (.list _), _, hp1 => exact hp1.elim
  | .val (.tuple _), _, hp1 => exact hp1.elim
  | .val (.dict _), _, hp1 => exact hp1.elim
  | .own _, _, hp1 => exact hp1.elim
  | .slot _, _, hp1 => exact hp1.elim
theorem se_notV (ha : SE X W a ta fa) : SE X W (.UnaryOp .Not a pos) (tNotV ta) (fNotV fa) := by
  refine ⟨pe_not ha.pe, fun F S H σ ρ Q hK fok er hp => ?_⟩
  refine ha.go hK fok er (wE F W σ Q) hp fun r ρ1 v S1 H1 t1 er1 rr _ hp1 => ?_
  match r, rr, hp1 with
  | .val (.bool b), rr, hp1 =>
    cases (show Rp F.K S1 H1 v (.bool b) from rr)
    exact ⟨b, rfl, hp1 _ S1 H1 .refl er1 (.bl (!b)) trivial⟩
  | .val .none, _, hp1 => exact hp1.elim
  | .val (.int _), _, hp1 => exact hp1.elim
  | .val (.str _), _, hp1 => exact hp1.elim
  | .val (.list _), _, hp1 => exact hp1.elim
  | .val (.tuple _), _, hp1 => exact hp1.elim
  | .val (.dict _), _, hp1 => exact hp1.elim
  | .own _, _, hp1 => exact hp1.elim
  | .slot _, _, hp1 => exact hp1.elim
/-- not t, as a value of a test -/
def fIf (g : TF) (fa fb : EF) : EF := fun ρ => (g ρ).bind fun k ρ1 => if k = true then fa ρ1 else fb ρ1
theorem se_if (hc : ST X W c tA gA) (ha : SE X W a ta fa) (hb : SE X W b tb fb) : SE X W (.IfExp c a b pos) (tIf tA ta tb) (fIf gA fa fb) := by
  refine ⟨pe_ifExp hc.pt ha.pe hb.pe, fun F S H σ ρ Q hK fok er hp => ?_⟩
  refine hc.go hK fok er (wE F W σ Q) hp fun k ρ1 S1 H1 t1 er1 hp1 => ?_
  cases k with
  | true => exact iteT (ha.sn F S1 H1 σ ρ1 Q hK fok er1 hp1)
  | false => exact iteF (hb.sn F S1 H1 σ ρ1 Q hK fok er1 hp1)

/-! ### a < b < c -/
def fChain (g g' : PyData → PyData → Option R) (fa fb fc : EF) : EF := fun ρ => (fa ρ).bind fun ra ρ1 => (fb ρ1).bind fun rb ρ2 => (res2 g ra rb ρ2).bind fun r ρ3 => match r with
  | .val (.bool true) => (fc ρ3).bind fun rc ρ4 => res2 g' rb rc ρ4
  | .val (.bool false) => .ok (.val (.bool false)) ρ3
  | _ => .bad
end

/-- what two results give by an operator, at a state -/
theorem res2_go {F : Fx} {W : Wx} {S : AS} {H : Hp} {σ : St} {ρ : Rho} {r : R2} {g : PyData → PyData → Option R} {ra rb : R} {x y : V} {β : Type} (w : Wish F W σ β) {k : R → Rho → Out β} {Q : VK} (hs : OpG F.K r g) (fok : F.Ok W.T) (er : ER F S H σ ρ)
    (rx : RR F S H σ ρ x ra) (ry : RR F S H σ ρ y rb) (hp : w.P S H ρ ((res2 g ra rb ρ).bind k))
    (hk : ∀ res v S1 H1, Tr S H σ ρ S1 H1 ρ → ER F S1 H1 σ ρ → RR F S1 H1 σ ρ v res → Frsh H v res → w.P S1 H1 ρ (k res ρ) → Q v H1) : r x y H Q := by
  unfold res2 at hp
  cases qa : deref ρ ra with
  | none => simp only [qa] at hp; exact (w.bad hp).elim
  | some da =>
    cases qb : deref ρ rb with
    | none => simp only [qa, qb] at hp; exact (w.bad hp).elim
    | some db =>
      simp only [qa, qb] at hp
      cases qg : g da db with
      | none => simp only [qg] at hp; exact (w.bad hp).elim
      | some res =>
        simp only [qg] at hp
        refine hs S H x y da db res Q er.dom (rx.rt er qa) (ry.rt er qb) qg fun v S' H' gr => ?_
        obtain ⟨t, er', rr', fr'⟩ := gr.step er fok
        exact hk res v S' H' t er' rr' fr' (w.sh er t hp)
theorem res2_end {F : Fx} {W : Wx} {S : AS} {H : Hp} {σ : St} {ρ : Rho} {r : R2} {g : PyData → PyData → Option R} {ra rb : R} {x y : V} {Q : VK} (hs : OpG F.K r g) (fok : F.Ok W.T) (er : ER F S H σ ρ)
    (rx : RR F S H σ ρ x ra) (ry : RR F S H σ ρ y rb) (hp : PostE F W S H σ ρ (res2 g ra rb ρ) Q) : r x y H Q := by
  unfold res2 at hp
  cases qa : deref ρ ra with
  | none => simp only [qa] at hp; exact hp.elim
  | some da =>
    cases qb : deref ρ rb with
    | none => simp only [qa, qb] at hp; exact hp.elim
    | some db =>
      simp only [qa, qb] at hp
      cases qg : g da db with
      | none => simp only [qg] at hp; exact hp.elim
      | some res =>
        simp only [qg] at hp
        refine hs S H x y da db res Q er.dom (rx.rt er qa) (ry.rt er qb) qg fun v S' H' gr => ?_
        obtain ⟨t, er', rr', fr'⟩ := gr.step er fok
        exact hp v S' H' t er' rr' fr'
section
variable {X : Cx} {W : Wx} {a b c : Expr} {ta tb tc : TE} {fa fb fc : EF} {pos : Pos} {op op' : CmpOp} {r r' : R2} {g g' : PyData → PyData → Option R}
theorem sn_chain (hs : OpG X.K r g) (hs' : OpG X.K r' g') (ha : SE X W a ta fa) (hb : SE X W b tb fb) (hc : SE X W c tc fc) :
    ∀ (F : Fx) (S : AS) (H : Hp) (σ : St) (ρ : Rho) (Q : VK), F.K = X.K → F.Ok W.T → ER F S H σ ρ → PostE F W S H σ ρ (fChain g g' fa fb fc ρ) Q → tChain r r' ta tb tc σ H Q := by
  intro F S H σ ρ Q hK fok er hp
  refine ha.go hK fok er (wE F W σ Q) hp fun ra ρ1 v1 S1 H1 t1 er1 rr1 _ hp1 => ?_
  refine hb.go hK fok er1 (wE F W σ Q) hp1 fun rb ρ2 v2 S2 H2 t2 er2 rr2 _ hp2 => ?_
  have rr1' := rr1.tr er1 t2 (er2.len.trans er1.len.symm)
  refine res2_go (wE F W σ Q) (by rw [hK]; exact hs) fok er2 rr1' rr2 hp2 fun res v S3 H3 t3 er3 rr3 _ hp3 => ?_
  have rr2' := rr2.tr er2 t3 rfl
  match res, rr3, hp3 with
  | .val (.bool true), rr3, hp3 =>
    cases (show Rp F.K S3 H3 v (.bool true) from rr3)
    refine ⟨true, rfl, iteT ?_⟩
    have hp3 : PostE F W S3 H3 σ ρ2 ((fc ρ2).bind fun rc ρ4 => (res2 g' rb rc ρ4)) Q := hp3
    refine hc.go hK fok er3 (wE F W σ Q) hp3 fun rc ρ4 v4 S4 H4 t4 er4 rr4 _ hp4 => ?_
    have rr2'' := rr2'.tr er3 t4 (er4.len.trans er3.len.symm)
    exact res2_end (by rw [hK]; exact hs') fok er4 rr2'' rr4 hp4
  | .val (.bool false), rr3, hp3 =>
    cases (show Rp F.K S3 H3 v (.bool false) from rr3)
    exact ⟨false, rfl, iteF (hp3 _ S3 H3 .refl er3 (.bl false) trivial)⟩
  | .val .none, _, hp1 => exact hp1.elim
  | .val (.int _), _, hp1 => exact hp1.elim
  | .val (.str _), _, hp1 => exact hp1.elim
  | .val (.list _), _, hp1 => exact hp1.elim
  | .val (.tuple _), _, hp1 => exact hp1.elim
  | .val (.dict _), _, hp1 => exact hp1.elim
  | .own _, _, hp1 => exact hp1.elim
  | .slot _, _, hp1 => exact hp1.elim
theorem se_chain (ho : OpR X (compareOp op) r) (ho' : OpR X (compareOp op') r') (hs : OpG X.K r g) (hs' : OpG X.K r' g') (ha : SE X W a ta fa) (hb : SE X W b tb fb) (hc : SE X W c tc fc)
    (hm : lastMarks [op, op'] [b, c] = false := by with_unfolding_all rfl) : SE X W (.Compare a [op, op'] [b, c] pos) (tChain r r' ta tb tc) (fChain g g' fa fb fc) := ⟨pe_chain ho ho' ha.pe hb.pe hc.pe hm, sn_chain hs hs' ha hb hc⟩
theorem st_chain (ho : OpR X (compareOp op) r) (ho' : OpR X (compareOp op') r') (hs : OpG X.K r g) (hs' : OpG X.K r' g') (ha : SE X W a ta fa) (hb : SE X W b tb fb) (hc : SE X W c tc fc)
    (hm : lastMarks [op, op'] [b, c] = false := by with_unfolding_all rfl) : ST X W (.Compare a [op, op'] [b, c] pos) (tTest (tChain r r' ta tb tc)) (fB (fChain g g' fa fb fc)) :=
  ⟨pt_chain ho ho' ha.pe hb.pe hc.pe hm, sn_tB (se_chain (pos := pos) ho ho' hs hs' ha hb hc hm)⟩
/-- int comparisons -/
theorem se_lt {p : Pos} (ha : SE X W a ta fa) (hb : SE X W b tb fb) : SE X W (.Compare a [.Lt] [b] p) (tOp (rI0 fun i j => .bl (decide (i < j))) ta tb) (fOp gLt fa fb) := se_cmp op_lt (og_cmp _) ha hb (nomark _)
end

/-! ### written items, given away -/
def PostL (F : Fx) (W : Wx) (S : AS) (H : Hp) (σ : St) (ρ : Rho) (o : Out (List PyData)) (Q : List V → Hp → Prop) : Prop := match o with
  | .ok ds ρ' => ∀ vs S' H', Tr S H σ ρ S' H' ρ' → ER F S' H' σ ρ' → RpA F.K S' H' vs ds → Q vs H'
  | .ex x ρ' => ∀ cls dx S' H', Tr S H σ ρ S' H' ρ' → ER F S' H' σ ρ' → XR F S' H' x cls dx → W.w cls dx σ H'
  | .bad => False
theorem PostL.shift {F : Fx} {W : Wx} {S S1 : AS} {H H1 : Hp} {σ : St} {ρ ρ1 : Rho} {Q : List V → Hp → Prop} (er : ER F S H σ ρ) (t : Tr S H σ ρ S1 H1 ρ1) {o : Out (List PyData)} (h : PostL F W S H σ ρ o Q) : PostL F W S1 H1 σ ρ1 o Q := by
  cases o with
  | ok r ρ' => exact fun v S' H' t' er' rr => h v S' H' (t.trans er t') er' rr
  | ex x ρ' => exact fun cls dx S' H' t' er' xr => h cls dx S' H' (t.trans er t') er' xr
  | bad => exact h
def wL (F : Fx) (W : Wx) (σ : St) (Q : List V → Hp → Prop) : Wish F W σ (List PyData) := ⟨fun S H ρ o => PostL F W S H σ ρ o Q, fun er t h => h.shift er t, fun h => h, fun h => h⟩
abbrev AF := Rho → Out (List PyData)
structure SA (X : Cx) (W : Wx) (es : List Expr) (t : TA) (f : AF) : Prop where
  pa : PA X es t
  sn : ∀ (F : Fx) (S : AS) (H : Hp) (σ : St) (ρ : Rho) (Q : List V → Hp → Prop), F.K = X.K → F.Ok W.T → ER F S H σ ρ → PostL F W S H σ ρ (f ρ) Q → t σ H Q
def fNil : AF := fun ρ => .ok [] ρ
def fCons (fa : EF) (fr : AF) : AF := fun ρ => bindF (fa ρ) fun d ρ1 => (fr ρ1).bind fun ds ρ2 => .ok (d :: ds) ρ2
section
variable {X : Cx} {W : Wx} {e : Expr} {es : List Expr} {te : TE} {t : TA} {f : EF} {fr : AF} {pos : Pos}
theorem sa_nil : SA X W [] tNil fNil := ⟨pa_nil, fun F S H σ ρ Q _ _ er hp => hp [] S H .refl er .nil⟩
theorem sa_cons (ha : SE X W e te f) (hr : SA X W es t fr) (hs : starEach (e :: es) X.env = (false, eval e X.env) :: starEach es X.env := by rfl) : SA X W (e :: es) (tCons te t) (fCons f fr) := by
  refine ⟨pa_cons ha.pe hr.pa hs, fun F S H σ ρ Q hK fok er hp => ?_⟩
  refine ha.goF hK fok er (wL F W σ Q) hp fun d ρ1 v S1 H1 t1 er1 rp1 hp1 => ?_
  refine hr.sn F S1 H1 σ ρ1 _ hK fok er1 ?_
  have hp1 : PostL F W S1 H1 σ ρ1 ((fr ρ1).bind fun ds ρ2 => .ok (d :: ds) ρ2) Q := hp1
  cases q : fr ρ1 with
  | ok ds ρ2 =>
    rw [q] at hp1
    exact fun vs S2 H2 t2 er2 rp2 => hp1 (v :: vs) S2 H2 t2 er2 (.cons (rp1.tr er1 t2) rp2)
  | ex x ρ2 => rw [q] at hp1; exact hp1
  | bad => rw [q] at hp1; exact hp1
/-- from the items to what is made of them -/
theorem SA.go (h : SA X W es t fr) {F : Fx} {S : AS} {H : Hp} {σ : St} {ρ : Rho} {β : Type} (hK : F.K = X.K) (fok : F.Ok W.T) (er : ER F S H σ ρ) (w : Wish F W σ β) {k : List PyData → Rho → Out β} (hp : w.P S H ρ ((fr ρ).bind k)) {Q : List V → Hp → Prop}
    (hk : ∀ ds ρ1 vs S1 H1, Tr S H σ ρ S1 H1 ρ1 → ER F S1 H1 σ ρ1 → RpA F.K S1 H1 vs ds → w.P S1 H1 ρ1 (k ds ρ1) → Q vs H1) : t σ H Q := by
  refine h.sn F S H σ ρ Q hK fok er ?_
  cases q : fr ρ with
  | ok b ρ1 =>
    rw [q] at hp
    exact fun vs S1 H1 t1 er1 rp => hk b ρ1 vs S1 H1 t1 er1 rp (w.sh er t1 hp)
  | ex x ρ1 =>
    rw [q] at hp
    exact w.ex hp
  | bad =>
    rw [q] at hp
    exact w.bad hp
def fTup (fr : AF) : EF := fun ρ => (fr ρ).bind fun ds ρ1 => if ds.length ≤ 16777216 then .ok (.val (.tuple ds)) ρ1 else .bad
def fLst (fr : AF) : EF := fun ρ => (fr ρ).bind fun ds ρ1 => if ds.length ≤ 16777216 then .ok (.own (.lst ds)) ρ1 else .bad
theorem se_tup {k : Nat} (h : SA X W es t fr) : SE X W (.Tuple es k pos) (tTup t) (fTup fr) := by
  refine ⟨pe_tup h.pa, fun F S H σ ρ Q hK fok er hp => ?_⟩
  refine h.go hK fok er (wE F W σ Q) hp fun ds ρ1 vs S1 H1 t1 er1 rp hp1 => ?_
  by_cases z : ds.length ≤ 16777216
  · rw [if_pos z] at hp1
    refine ⟨by rw [rp.length, sizeLine_eq]; exact z, fun p hp => ?_⟩
    obtain ⟨t, er', rr', fr'⟩ := (Grow.tup (K := F.K) (S := S1) er1.dom hp rp).step er1 fok
    exact hp1 _ _ _ t er' rr' fr'
  · rw [if_neg z] at hp1
    exact hp1.elim
theorem se_lst (h : SA X W es t fr) : SE X W (.List es pos) (tLst t) (fLst fr) := by
  refine ⟨pe_lst h.pa, fun F S H σ ρ Q hK fok er hp => ?_⟩
  refine h.go hK fok er (wE F W σ Q) hp fun ds ρ1 vs S1 H1 t1 er1 rp hp1 => ?_
  by_cases z : ds.length ≤ 16777216
  · rw [if_pos z] at hp1
    refine ⟨by rw [rp.length, sizeLine_eq]; exact z, fun p hp => ?_⟩
    obtain ⟨t, er', rr', fr'⟩ := (Grow.lst (K := F.K) (S := S1) hp rp).step er1 fok
    exact hp1 _ _ _ t er' rr' fr'
  · rw [if_neg z] at hp1
    exact hp1.elim
/-- an empty dict: of tuple keys, of others -/
def fDT : EF := fun ρ => .ok (.own (.dT [])) ρ
def fDK : EF := fun ρ => .ok (.own (.dK [])) ρ
theorem Grow.dT0 {K : PySem.W.Frag} {S : AS} {H : Hp} {p : Addr} (hp : H p = none) : Grow K S H (fun a => S a ∨ a = p) (upd H p (.dT [])) (.ref p) (.own (.dT [])) :=
  ⟨fun b o e => by rw [upd_ne (ne_of_none e hp)]; exact e, p, rfl, hp, rfl, [], upd_same, rfl, .nil⟩
theorem Grow.dK0 {K : PySem.W.Frag} {S : AS} {H : Hp} {p : Addr} (hp : H p = none) : Grow K S H (fun a => S a ∨ a = p) (upd H p (.dK [])) (.ref p) (.own (.dK [])) :=
  ⟨fun b o e => by rw [upd_ne (ne_of_none e hp)]; exact e, p, rfl, hp, rfl, [], upd_same, rfl, .nil⟩
theorem se_dT : SE X W (.Dict [] [] pos) tDNewT fDT := by
  refine ⟨pe_dnewT, fun F S H σ ρ Q hK fok er hp => ?_⟩
  intro d hd
  obtain ⟨t, er', rr', fr'⟩ := (Grow.dT0 (K := F.K) (S := S) hd).step er fok
  exact hp _ _ _ t er' rr' fr'
theorem se_dK : SE X W (.Dict [] [] pos) tDNewK fDK := by
  refine ⟨pe_dnewK, fun F S H σ ρ Q hK fok er hp => ?_⟩
  intro d hd
  obtain ⟨t, er', rr', fr'⟩ := (Grow.dK0 (K := F.K) (S := S) hd).step er fok
  exact hp _ _ _ t er' rr' fr'
end
end Pv
set_option maxRecDepth 100000
/-! PvF: subscripts, slices, built-in calls, isinstance. -/
namespace Pv
open PySem PySem.Spec L2

/-! ### xs[i] -/
def gIx : PyData → PyData → Option R
  | .list ds, .int i => (atI ds i).map .val
  | .tuple ds, .int i => (atI ds i).map .val
  | .str x, .int i => if x.length ≤ 16777216 then (atI x.cps.toList i).map fun c => .val (.str ⟨#[c]⟩) else none
  | _, _ => none
theorem RpA.atI {K : PySem.W.Frag} {S : AS} {H : Hp} {vs : List V} {ds : List PyData} {i : Int} {d : PyData} (h : RpA K S H vs ds) (e : L2.atI ds i = some d) : ∃ v, L2.atI vs i = some v ∧ Rp K S H v d := by
  unfold L2.atI at e ⊢
  rw [h.length]
  cases q : ixN ds.length i with
  | none => rw [q] at e; cases e
  | some j =>
    rw [q] at e
    exact h.get (i := j) e
theorem og_ix {K : PySem.W.Frag} : OpG K (rIx K) gIx := by
  intro S H x y dx dy res Q dom hx hy e q
  unfold gIx at e
  split at e
  · rename_i ds i
    cases hy.int
    obtain ⟨a, vs, rfl, ha, hs⟩ := hx.list
    obtain ⟨d, e1, rfl⟩ := Option.map_eq_some_iff.mp e
    obtain ⟨v, e2, rp⟩ := hs.atI e1
    exact .inl ⟨a, vs, i, v, rfl, rfl, ha, e2, q _ S H (.val rp)⟩
  · rename_i ds i
    cases hy.int
    obtain ⟨a, vs, rfl, na, ha, hs⟩ := hx.tuple
    obtain ⟨d, e1, rfl⟩ := Option.map_eq_some_iff.mp e
    obtain ⟨v, e2, rp⟩ := hs.atI e1
    exact .inr (.inl ⟨a, vs, i, v, rfl, rfl, SqT.of ha, e2, q _ S H (.val rp)⟩)
  · rename_i z i
    cases hy.int
    cases hx.str
    split at e
    · rename_i hz
      obtain ⟨c, e1, rfl⟩ := Option.map_eq_some_iff.mp e
      exact .inr (.inr ⟨z, i, c, rfl, rfl, by rw [sizeLine_eq]; exact hz, e1, q _ S H (.val (.str _))⟩)
    · cases e
  · cases e
def gDix : PyData → PyData → Option R
  | .dict ds, k => match dget? ds k with
    | some (some d) => some (.val d)
    | _ => none
  | _, _ => none
def rDix : R2 := fun x y H Q => ∃ a v, x = .ref a ∧ DGet H a y (some v) ∧ Q v H
theorem og_dix {K : PySem.W.Frag} : OpG K rDix gDix := by
  intro S H x y dx dy res Q dom hx hy e q
  cases dx with
  | dict ds =>
    simp only [gDix] at e
    cases h : dget? ds dy with
    | none => simp [h] at e
    | some o =>
      cases o with
      | none => simp [h] at e
      | some d =>
        simp only [h, Option.some.injEq] at e
        subst e
        obtain ⟨a, ov, rfl, hg, ro⟩ := hx.look hy h
        cases ov with
        | none => exact ro.elim
        | some v => exact ⟨a, v, rfl, hg, q _ S H (.val ro)⟩
  | _ => simp [gDix] at e
section
variable {X : Cx} {W : Wx} {a b c e : Expr} {ta tb tc te : TE} {fa fb fc f : EF} {pos : Pos}
theorem se_ix (ha : SE X W a ta fa) (hb : SE X W b tb fb) (hs : PlainIx b := by exact fun _ _ => rfl) : SE X W (.Subscript a b pos) (tOp (rIx X.K) ta tb) (fOp gIx fa fb) := ⟨pe_ix ix_seq ha.pe hb.pe hs, sn_op og_ix ha hb⟩
theorem se_dix (hu : X.A.units + 1 < cLine) (ha : SE X W a ta fa) (hb : SE X W b tb fb) (hs : NoSl b := by exact fun _ _ => rfl) : SE X W (.Subscript a b pos) (tDGet ta tb) (fOp gDix fa fb) := ⟨pe_dget hu ha.pe hb.pe hs, sn_op og_dix ha hb⟩

/-! ### xs[lo:hi] -/
def cutD (ds : List PyData) (lo hi : Option Int) : List PyData := (ds.drop (HT.sIx ds.length 0 lo)).take (HT.sIx ds.length ds.length hi - HT.sIx ds.length 0 lo)
def outP (r : R) (ρ : Rho) : Out (Option Int) := match r with
  | .val (.int i) => .ok (some i) ρ
  | _ => .bad
abbrev PF := Rho → Out (Option Int)
def PostP (F : Fx) (W : Wx) (S : AS) (H : Hp) (σ : St) (ρ : Rho) (o : Out (Option Int)) (Q : Option Int → Hp → Prop) : Prop := match o with
  | .ok b ρ' => ∀ S' H', Tr S H σ ρ S' H' ρ' → ER F S' H' σ ρ' → Q b H'
  | .ex x ρ' => ∀ cls dx S' H', Tr S H σ ρ S' H' ρ' → ER F S' H' σ ρ' → XR F S' H' x cls dx → W.w cls dx σ H'
  | .bad => False
theorem PostP.shift {F : Fx} {W : Wx} {S S1 : AS} {H H1 : Hp} {σ : St} {ρ ρ1 : Rho} {Q : Option Int → Hp → Prop} (er : ER F S H σ ρ) (t : Tr S H σ ρ S1 H1 ρ1) {o : Out (Option Int)} (h : PostP F W S H σ ρ o Q) : PostP F W S1 H1 σ ρ1 o Q := by
  cases o with
  | ok r ρ' => exact fun S' H' t' er' => h S' H' (t.trans er t') er'
  | ex x ρ' => exact fun cls dx S' H' t' er' xr => h cls dx S' H' (t.trans er t') er' xr
  | bad => exact h
def wP (F : Fx) (W : Wx) (σ : St) (Q : Option Int → Hp → Prop) : Wish F W σ (Option Int) := ⟨fun S H ρ o => PostP F W S H σ ρ o Q, fun er t h => h.shift er t, fun h => h, fun h => h⟩
structure SPo (X : Cx) (W : Wx) (e : Option Expr) (t : TO) (f : PF) : Prop where
  po : PO X e t
  sn : ∀ (F : Fx) (S : AS) (H : Hp) (σ : St) (ρ : Rho) (Q : Option Int → Hp → Prop), F.K = X.K → F.Ok W.T → ER F S H σ ρ → PostP F W S H σ ρ (f ρ) Q → t σ H Q
def fNoPart : PF := fun ρ => .ok none ρ
def fPart (f : EF) : PF := fun ρ => (f ρ).bind outP
theorem spo_none : SPo X W none tNoPart fNoPart := ⟨po_none, fun F S H σ ρ Q _ _ er hp => hp S H .refl er⟩
theorem spo_some (h : SE X W e te f) : SPo X W (some e) (tPart te) (fPart f) := by
  refine ⟨po_some h.pe, fun F S H σ ρ Q hK fok er hp => ?_⟩
  refine h.go hK fok er (wP F W σ Q) hp fun r ρ1 v S1 H1 t1 er1 rr _ hp1 => ?_
  have hp1 : PostP F W S1 H1 σ ρ1 (outP r ρ1) Q := hp1
  match r, rr, hp1 with
  | .val (.int i), rr, hp1 =>
    cases (show Rp F.K S1 H1 v (.int i) from rr)
    exact ⟨i, rfl, hp1 S1 H1 .refl er1⟩
  | .val .none, _, hp1 => exact hp1.elim
  | .val (.bool _), _, hp1 => exact hp1.elim
  | .val (.str _), _, hp1 => exact hp1.elim
  | .val (.list _), _, hp1 => exact hp1.elim
  | .val (.tuple _), _, hp1 => exact hp1.elim
  | .val (.dict _), _, hp1 => exact hp1.elim
  | .own _, _, hp1 => exact hp1.elim
  | .slot _, _, hp1 => exact hp1.elim
theorem SPo.go {e : Option Expr} {t : TO} {fp : PF} (h : SPo X W e t fp) {F : Fx} {S : AS} {H : Hp} {σ : St} {ρ : Rho} {β : Type} (hK : F.K = X.K) (fok : F.Ok W.T) (er : ER F S H σ ρ) (w : Wish F W σ β) {k : Option Int → Rho → Out β} (hp : w.P S H ρ ((fp ρ).bind k)) {Q : Option Int → Hp → Prop}
    (hk : ∀ b ρ1 S1 H1, Tr S H σ ρ S1 H1 ρ1 → ER F S1 H1 σ ρ1 → w.P S1 H1 ρ1 (k b ρ1) → Q b H1) : t σ H Q := by
  refine h.sn F S H σ ρ Q hK fok er ?_
  cases q : fp ρ with
  | ok b ρ1 =>
    rw [q] at hp
    exact fun S1 H1 t1 er1 => hk b ρ1 S1 H1 t1 er1 (w.sh er t1 hp)
  | ex x ρ1 =>
    rw [q] at hp
    exact w.ex hp
  | bad =>
    rw [q] at hp
    exact w.bad hp
def gSl (d : PyData) (lo hi : Option Int) : Option R := match d with
  | .list ds => some (.own (.lst (cutD ds lo hi)))
  | .tuple ds => some (.val (.tuple (cutD ds lo hi)))
  | _ => none
def outSl (r : R) (lo hi : Option Int) (ρ : Rho) : Out R := match deref ρ r with
  | some d => (match gSl d lo hi with
    | some r => .ok r ρ
    | none => .bad)
  | none => .bad
def fSl (f : EF) (fl fh : PF) : EF := fun ρ => (f ρ).bind fun r ρ1 => (fl ρ1).bind fun lo ρ2 => (fh ρ2).bind fun hi ρ3 => outSl r lo hi ρ3
def rSlX (K : PySem.W.Frag) : V → Option Int → Option Int → Hp → VK → Prop := fun x lo hi H Q => rSlL K x lo hi H Q ∨ rSlA K x lo hi H Q
theorem cut_rp {K : PySem.W.Frag} {S : AS} {H : Hp} {vs : List V} {ds : List PyData} (h : RpA K S H vs ds) (lo hi : Option Int) : RpA K S H (cutV vs lo hi) (cutD ds lo hi) := by
  unfold cutV cutD
  rw [h.length]
  exact (h.drop _).take _
theorem se_sl {lo hi : Option Expr} {tl th : TO} {fl fh : PF} {p2 : Pos} (he : SE X W e te f) (hl : SPo X W lo tl fl) (hu : SPo X W hi th fh) : SE X W (.Subscript e (.Slice lo hi none p2) pos) (tSl (rSlX X.K) te tl th) (fSl f fl fh) := by
  refine ⟨pe_slice (sl_list.or sl_tupA) he.pe hl.po hu.po, fun F S H σ ρ Q hK fok er hp => ?_⟩
  refine he.go hK fok er (wE F W σ Q) hp fun r ρ1 v S1 H1 t1 er1 rr1 _ hp1 => ?_
  refine hl.go hK fok er1 (wE F W σ Q) hp1 fun lo ρ2 S2 H2 t2 er2 hp2 => ?_
  refine hu.go hK fok er2 (wE F W σ Q) hp2 fun hi ρ3 S3 H3 t3 er3 hp3 => ?_
  have rr3 := (rr1.tr er1 t2 (er2.len.trans er1.len.symm)).tr er2 t3 (er3.len.trans er2.len.symm)
  have hp3 : PostE F W S3 H3 σ ρ3 (outSl r lo hi ρ3) Q := hp3
  unfold outSl at hp3
  cases qa : deref ρ3 r with
  | none => simp only [qa] at hp3; exact hp3.elim
  | some d =>
    simp only [qa] at hp3
    have rt := rr3.rt er3 qa
    rw [← hK]
    cases d with
    | list ds =>
      obtain ⟨a, vs, rfl, ha, hs⟩ := rt.list
      refine .inl ⟨a, vs, rfl, ha, fun p hp => ?_⟩
      obtain ⟨t, er', rr', fr'⟩ := (Grow.lst (K := F.K) (S := S3) hp (cut_rp hs lo hi)).step er3 fok
      exact hp3 _ _ _ t er' rr' fr'
    | tuple ds =>
      obtain ⟨a, vs, rfl, na, ha, hs⟩ := rt.tuple
      have hp3 : PostE F W S3 H3 σ ρ3 (.ok (.val (.tuple (cutD ds lo hi))) ρ3) Q := hp3
      refine .inr ⟨a, vs, rfl, SqT.of ha, fun w => ?_, fun _ p hp => ?_⟩
      · have ec : cutD ds lo hi = ds := by
          unfold cutD
          rw [← hs.length, w.1, w.2]
          simp [hs.length]
        refine hp3 _ S3 H3 .refl er3 ?_ trivial
        rw [ec]
        exact .tup na ha hs
      · obtain ⟨t, er', rr', fr'⟩ := (Grow.tup (K := F.K) (S := S3) er3.dom hp (cut_rp hs lo hi)).step er3 fok
        exact hp3 _ _ _ t er' rr' fr'
    | none => exact hp3.elim
    | bool _ => exact hp3.elim
    | int _ => exact hp3.elim
    | str _ => exact hp3.elim
    | dict _ => exact hp3.elim
end

/-! ### calls of built-ins, by data -/
/-- read in a row -/
inductive RTs (K : PySem.W.Frag) (S : AS) (H : Hp) : List V → List PyData → Prop
  | nil : RTs K S H [] []
  | cons {v : V} {vs : List V} {d : PyData} {ds : List PyData} : RT K S H v d → RTs K S H vs ds → RTs K S H (v :: vs) (d :: ds)
inductive RRs (F : Fx) (S : AS) (H : Hp) (σ : St) (ρ : Rho) : List V → List R → Prop
  | nil : RRs F S H σ ρ [] []
  | cons {v : V} {vs : List V} {r : R} {rs : List R} : RR F S H σ ρ v r → RRs F S H σ ρ vs rs → RRs F S H σ ρ (v :: vs) (r :: rs)
def derefs (ρ : Rho) : List R → Option (List PyData)
  | [] => some []
  | r :: rs => match deref ρ r, derefs ρ rs with
    | some d, some ds => some (d :: ds)
    | _, _ => none
section
variable {F : Fx} {S S' : AS} {H H' : Hp} {σ : St} {ρ ρ' : Rho}
theorem RRs.tr (er : ER F S H σ ρ) (t : Tr S H σ ρ S' H' ρ') (hl : ρ'.length = ρ.length) : ∀ {vs : List V} {rs : List R}, RRs F S H σ ρ vs rs → RRs F S' H' σ ρ' vs rs
  | _, _, .nil => .nil
  | _, _, .cons h hs => .cons (h.tr er t hl) (RRs.tr er t hl hs)
theorem RRs.rt (er : ER F S H σ ρ) : ∀ {vs : List V} {rs : List R} {ds : List PyData}, RRs F S H σ ρ vs rs → derefs ρ rs = some ds → RTs F.K S H vs ds
  | _, _, _, .nil, e => by cases e; exact .nil
  | _, _, _, .cons (r := r) (rs := rs) h hs, e => by
    unfold derefs at e
    cases q1 : deref ρ r with
    | none => simp only [q1] at e; cases e
    | some d =>
      cases q2 : derefs ρ rs with
      | none => simp only [q1, q2] at e; cases e
      | some ds =>
        simp only [q1, q2] at e
        cases e
        exact .cons (h.rt er q1) (RRs.rt er hs q2)
end
def PostR (F : Fx) (W : Wx) (S : AS) (H : Hp) (σ : St) (ρ : Rho) (o : Out (List R)) (Q : List V → Hp → Prop) : Prop := match o with
  | .ok rs ρ' => ∀ vs S' H', Tr S H σ ρ S' H' ρ' → ER F S' H' σ ρ' → RRs F S' H' σ ρ' vs rs → Q vs H'
  | .ex x ρ' => ∀ cls dx S' H', Tr S H σ ρ S' H' ρ' → ER F S' H' σ ρ' → XR F S' H' x cls dx → W.w cls dx σ H'
  | .bad => False
theorem PostR.shift {F : Fx} {W : Wx} {S S1 : AS} {H H1 : Hp} {σ : St} {ρ ρ1 : Rho} {Q : List V → Hp → Prop} (er : ER F S H σ ρ) (t : Tr S H σ ρ S1 H1 ρ1) {o : Out (List R)} (h : PostR F W S H σ ρ o Q) : PostR F W S1 H1 σ ρ1 o Q := by
  cases o with
  | ok r ρ' => exact fun v S' H' t' er' rr => h v S' H' (t.trans er t') er' rr
  | ex x ρ' => exact fun cls dx S' H' t' er' xr => h cls dx S' H' (t.trans er t') er' xr
  | bad => exact h
def wR (F : Fx) (W : Wx) (σ : St) (Q : List V → Hp → Prop) : Wish F W σ (List R) := ⟨fun S H ρ o => PostR F W S H σ ρ o Q, fun er t h => h.shift er t, fun h => h, fun h => h⟩
abbrev RF := Rho → Out (List R)
/-- items as they stand -/
structure SAr (X : Cx) (W : Wx) (es : List Expr) (t : TA) (f : RF) : Prop where
  pa : PA X es t
  sn : ∀ (F : Fx) (S : AS) (H : Hp) (σ : St) (ρ : Rho) (Q : List V → Hp → Prop), F.K = X.K → F.Ok W.T → ER F S H σ ρ → PostR F W S H σ ρ (f ρ) Q → t σ H Q
def rNil : RF := fun ρ => .ok [] ρ
def rCons (fa : EF) (fr : RF) : RF := fun ρ => (fa ρ).bind fun r ρ1 => (fr ρ1).bind fun rs ρ2 => .ok (r :: rs) ρ2
def CallG (K : PySem.W.Frag) (r : List V → Hp → VK → Prop) (g : List PyData → Option R) : Prop := ∀ (S : AS) (H : Hp) (vs : List V) (ds : List PyData) (res : R) (Q : VK), (∀ a, S a → H a ≠ none) → RTs K S H vs ds → g ds = some res →
  (∀ v S' H', Grow K S H S' H' v res → Q v H') → r vs H Q
def outC (g : List PyData → Option R) (rs : List R) (ρ : Rho) : Out R := match derefs ρ rs with
  | some ds => (match g ds with
    | some r => .ok r ρ
    | none => .bad)
  | none => .bad
def fCB (g : List PyData → Option R) (fr : RF) : EF := fun ρ => (fr ρ).bind (outC g)
section
variable {X : Cx} {W : Wx} {e : Expr} {es : List Expr} {te : TE} {t : TA} {f : EF} {fr : RF} {pos p : Pos} {x : Str} {id T : String} {r : List V → Hp → VK → Prop} {g : List PyData → Option R}
theorem sr_nil : SAr X W [] tNil rNil := ⟨pa_nil, fun F S H σ ρ Q _ _ er hp => hp [] S H .refl er .nil⟩
theorem sr_cons (ha : SE X W e te f) (hr : SAr X W es t fr) (hs : starEach (e :: es) X.env = (false, eval e X.env) :: starEach es X.env := by rfl) : SAr X W (e :: es) (tCons te t) (rCons f fr) := by
  refine ⟨pa_cons ha.pe hr.pa hs, fun F S H σ ρ Q hK fok er hp => ?_⟩
  refine ha.go hK fok er (wR F W σ Q) hp fun r ρ1 v S1 H1 t1 er1 rr1 _ hp1 => ?_
  refine hr.sn F S1 H1 σ ρ1 _ hK fok er1 ?_
  have hp1 : PostR F W S1 H1 σ ρ1 ((fr ρ1).bind fun rs ρ2 => .ok (r :: rs) ρ2) Q := hp1
  cases q : fr ρ1 with
  | ok rs ρ2 =>
    rw [q] at hp1
    exact fun vs S2 H2 t2 er2 rr2 => hp1 (v :: vs) S2 H2 t2 er2 (.cons (rr1.tr er1 t2 (er2.len.trans er1.len.symm)) rr2)
  | ex x ρ2 => rw [q] at hp1; exact hp1
  | bad => rw [q] at hp1; exact hp1
theorem SAr.go (h : SAr X W es t fr) {F : Fx} {S : AS} {H : Hp} {σ : St} {ρ : Rho} {β : Type} (hK : F.K = X.K) (fok : F.Ok W.T) (er : ER F S H σ ρ) (w : Wish F W σ β) {k : List R → Rho → Out β} (hp : w.P S H ρ ((fr ρ).bind k)) {Q : List V → Hp → Prop}
    (hk : ∀ rs ρ1 vs S1 H1, Tr S H σ ρ S1 H1 ρ1 → ER F S1 H1 σ ρ1 → RRs F S1 H1 σ ρ1 vs rs → w.P S1 H1 ρ1 (k rs ρ1) → Q vs H1) : t σ H Q := by
  refine h.sn F S H σ ρ Q hK fok er ?_
  cases q : fr ρ with
  | ok b ρ1 =>
    rw [q] at hp
    exact fun vs S1 H1 t1 er1 rp => hk b ρ1 vs S1 H1 t1 er1 rp (w.sh er t1 hp)
  | ex x ρ1 =>
    rw [q] at hp
    exact w.ex hp
  | bad =>
    rw [q] at hp
    exact w.bad hp
theorem sn_cb (hs : CallG X.K r g) (ha : SAr X W es t fr) : ∀ (F : Fx) (S : AS) (H : Hp) (σ : St) (ρ : Rho) (Q : VK), F.K = X.K → F.Ok W.T → ER F S H σ ρ → PostE F W S H σ ρ (fCB g fr ρ) Q → tCB r t σ H Q := by
  intro F S H σ ρ Q hK fok er hp
  refine ha.go hK fok er (wE F W σ Q) hp fun rs ρ1 vs S1 H1 t1 er1 rr1 hp1 => ?_
  have hp1 : PostE F W S1 H1 σ ρ1 (outC g rs ρ1) Q := hp1
  unfold outC at hp1
  cases qa : derefs ρ1 rs with
  | none => simp only [qa] at hp1; exact hp1.elim
  | some ds =>
    simp only [qa] at hp1
    cases qg : g ds with
    | none => simp only [qg] at hp1; exact hp1.elim
    | some res =>
      simp only [qg] at hp1
      refine hs S1 H1 vs ds res Q er1.dom (by rw [← hK]; exact rr1.rt er1 qa) qg fun v S' H' gr => ?_
      obtain ⟨t, er', rr', fr'⟩ := (show Grow F.K S1 H1 S' H' v res by rw [hK]; exact gr).step er1 fok
      exact hp1 v S' H' t er' rr' fr'
theorem se_cb (hc : CallR X (.builtin id) r) (hs : CallG X.K r g) (hg : Gl X x) (hm : X.mg x = none) (hv : bootBuiltins x = some (.builtin id)) (ha : SAr X W (e :: es) t fr) (hn : x ≠ "__name__" := by decide) (hdb : (x == ("__debug__" : Str)) = false := by decide)
    (he : starEach (e :: es) X.env = (false, eval e X.env) :: starEach es X.env := by rfl) (hpl : (backTo pos (starEach es X.env)).any (·.1) = false := by rfl) : SE X W (.Call (.Name x p) (e :: es) [] pos) (tCB r t) (fCB g fr) :=
  ⟨pe_callB hc hg hm hv ha.pa hn hdb he hpl, sn_cb hs ha⟩
theorem se_ct (hc : CallR X (.type T) r) (hs : CallG X.K r g) (hg : Gl X x) (hm : X.mg x = none) (hv : bootBuiltins x = some (.type T)) (ha : SAr X W (e :: es) t fr) (hn : x ≠ "__name__" := by decide) (hdb : (x == ("__debug__" : Str)) = false := by decide)
    (he : starEach (e :: es) X.env = (false, eval e X.env) :: starEach es X.env := by rfl) (hpl : (backTo pos (starEach es X.env)).any (·.1) = false := by rfl) : SE X W (.Call (.Name x p) (e :: es) [] pos) (tCB r t) (fCB g fr) :=
  ⟨pe_callTy hc hg hm hv ha.pa hn hdb he hpl, sn_cb hs ha⟩
end

/-! ### the built-ins -/
section
variable {X : Cx} {K : PySem.W.Frag}
theorem RTs.one {S : AS} {H : Hp} {vs : List V} {d : PyData} (h : RTs K S H vs [d]) : ∃ v, vs = [v] ∧ RT K S H v d := by
  cases h with
  | cons h1 h2 => cases h2; exact ⟨_, rfl, h1⟩
theorem RTs.two {S : AS} {H : Hp} {vs : List V} {d e : PyData} (h : RTs K S H vs [d, e]) : ∃ v w, vs = [v, w] ∧ RT K S H v d ∧ RT K S H w e := by
  cases h with
  | cons h1 h2 =>
    obtain ⟨w, rfl, h3⟩ := h2.one
    exact ⟨_, w, rfl, h1, h3⟩
def dlen (ds : List (PyData × PyData)) : Nat := ds.length - 1
def gLen : List PyData → Option R
  | [.list ds] => some (.val (.int ds.length))
  | [.tuple ds] => some (.val (.int ds.length))
  | [.dict ds] => some (.val (.int (dlen ds)))
  | [.str x] => if x.length ≤ 16777216 then some (.val (.int x.length)) else none
  | _ => none
def rLenA (K : PySem.W.Frag) : List V → Hp → VK → Prop := fun xs H Q => (∃ p ys, xs = [.ref p] ∧ (SqL K H p ys ∨ SqT K H p ys) ∧ Q (.int ys.length) H) ∨ (∃ z : Str, xs = [.str z] ∧ z.length ≤ sizeLine ∧ Q (.int z.length) H) ∨
  (∃ a kvs, xs = [V.ref a] ∧ H a = some (.dK kvs) ∧ Q (.int kvs.length) H) ∨ rLenT xs H Q
theorem call_lenA : CallR X (.builtin "len") (rLenA X.K) := by
  intro pins s σ H xs us Q I r h
  rcases h with h | h | h | h
  · exact call_len_seq pins s σ H xs us Q I r h
  · exact call_len_str pins s σ H xs us Q I r h
  · exact call_lenD pins s σ H xs us Q I r h
  · exact call_len_dT pins s σ H xs us Q I r h
theorem cg_len : CallG K (rLenA K) gLen := by
  intro S H vs ds res Q dom hs e q
  unfold gLen at e
  split at e
  · rename_i ds
    obtain ⟨v, rfl, rt⟩ := hs.one
    obtain ⟨a, xs, rfl, ha, h⟩ := rt.list
    cases e
    refine .inl ⟨a, xs, rfl, .inl ha, ?_⟩
    rw [h.length]
    exact q _ S H (.val (.int _))
  · rename_i ds
    obtain ⟨v, rfl, rt⟩ := hs.one
    obtain ⟨a, xs, rfl, _, ha, h⟩ := rt.tuple
    cases e
    refine .inl ⟨a, xs, rfl, .inr (SqT.of ha), ?_⟩
    rw [h.length]
    exact q _ S H (.val (.int _))
  · rename_i ds
    obtain ⟨v, rfl, rt⟩ := hs.one
    obtain ⟨a, rfl, h⟩ := rt.dict
    cases e
    rcases h with ⟨kvs, es, eh, ek, hr, rfl⟩ | ⟨kvs, es, eh, ek, hr, rfl⟩
    · have e2 := congrArg List.length ek
      simp only [List.length_map] at e2
      refine .inr (.inr (.inr ⟨a, kvs, rfl, eh, ?_⟩))
      have e3 : ((kvs.length : Nat) : Int) = (dlen (dTd es) : Nat) := by simp [dlen, dTd, e2]
      rw [e3]
      exact q _ S H (.val (.int _))
    · have e2 := congrArg List.length ek
      simp only [List.length_map] at e2
      refine .inr (.inr (.inl ⟨a, kvs, rfl, eh, ?_⟩))
      have e3 : ((kvs.length : Nat) : Int) = (dlen (dKd es) : Nat) := by simp [dlen, dKd, e2]
      rw [e3]
      exact q _ S H (.val (.int _))
  · rename_i x
    split at e
    · rename_i hx
      obtain ⟨v, rfl, rt⟩ := hs.one
      cases rt.str
      cases e
      exact .inr (.inl ⟨x, rfl, by rw [sizeLine_eq]; exact hx, q _ S H (.val (.int _))⟩)
    · cases e
  · cases e
def gMin2 : List PyData → Option R
  | [.int i, .int j] => some (.val (.int (if j < i then j else i)))
  | _ => none
def gMax2 : List PyData → Option R
  | [.int i, .int j] => some (.val (.int (if j > i then j else i)))
  | _ => none
theorem cg_min2 : CallG K (fun xs H Q => ∃ i j, xs = [.int i, .int j] ∧ Q (.int (if j < i then j else i)) H) gMin2 := by
  intro S H vs ds res Q dom hs e q
  unfold gMin2 at e
  split at e
  · rename_i i j
    obtain ⟨v, w, rfl, r1, r2⟩ := hs.two
    cases r1.int
    cases r2.int
    cases e
    exact ⟨i, j, rfl, q _ S H (.val (.int _))⟩
  · cases e
theorem cg_max2 : CallG K (fun xs H Q => ∃ i j, xs = [.int i, .int j] ∧ Q (.int (if j > i then j else i)) H) gMax2 := by
  intro S H vs ds res Q dom hs e q
  unfold gMax2 at e
  split at e
  · rename_i i j
    obtain ⟨v, w, rfl, r1, r2⟩ := hs.two
    cases r1.int
    cases r2.int
    cases e
    exact ⟨i, j, rfl, q _ S H (.val (.int _))⟩
  · cases e
def gInt1 : List PyData → Option R
  | [.int i] => some (.val (.int i))
  | [.str x] => (match PySem.intText? x with
    | some n => if x.length ≤ 640 then some (.val (.int n)) else none
    | none => none)
  | _ => none
def rInt1 : List V → Hp → VK → Prop := fun xs H Q => (∃ i, xs = [.int i] ∧ Q (.int i) H) ∨ ∃ a n, xs = [.str a] ∧ PySem.intText? a = some n ∧ a.length ≤ 640 ∧ Q (.int n) H
theorem call_intA (hc : X.calm = true) : CallR X (.type "int") rInt1 := by
  intro pins s σ H xs us Q I r h
  rcases h with ⟨i, rfl, q⟩ | h
  · exact call_int1 pins s σ H _ us Q I r (.inl ⟨i, rfl, q⟩)
  · exact call_int_str pins s σ H xs us Q I r h
theorem cg_int1 : CallG K rInt1 gInt1 := by
  intro S H vs ds res Q dom hs e q
  unfold gInt1 at e
  split at e
  · rename_i i
    obtain ⟨v, rfl, rt⟩ := hs.one
    cases rt.int
    cases e
    exact .inl ⟨i, rfl, q _ S H (.val (.int _))⟩
  · rename_i x
    split at e
    · rename_i n hn
      split at e
      · rename_i hx
        obtain ⟨v, rfl, rt⟩ := hs.one
        cases rt.str
        cases e
        exact .inr ⟨x, n, rfl, hn, hx, q _ S H (.val (.int _))⟩
      · cases e
    · cases e
  · cases e
def gTuple : List PyData → Option R
  | [.list ds] => some (.val (.tuple ds))
  | [.tuple ds] => some (.val (.tuple ds))
  | _ => none
theorem cg_tuple : CallG K (fun xs H Q => ∃ p ys, xs = [.ref p] ∧ ((SqL K H p ys ∧ ∀ l, H l = none → Q (.ref l) (upd H l (.tup ys))) ∨ (SqT K H p ys ∧ Q (.ref p) H))) gTuple := by
  intro S H vs ds res Q dom hs e q
  unfold gTuple at e
  split at e
  · rename_i ds
    obtain ⟨v, rfl, rt⟩ := hs.one
    obtain ⟨a, xs, rfl, ha, h⟩ := rt.list
    cases e
    exact ⟨a, xs, rfl, .inl ⟨ha, fun l hl => q _ S _ (.tup dom hl h)⟩⟩
  · rename_i ds
    obtain ⟨v, rfl, rt⟩ := hs.one
    obtain ⟨a, xs, rfl, na, ha, h⟩ := rt.tuple
    cases e
    exact ⟨a, xs, rfl, .inr ⟨SqT.of ha, q _ S H (.val (.tup na ha h))⟩⟩
  · cases e
def gList : List PyData → Option R
  | [.list ds] => some (.own (.lst ds))
  | [.tuple ds] => some (.own (.lst ds))
  | _ => none
theorem cg_list : CallG K (fun xs H Q => ∃ p ys, xs = [.ref p] ∧ (SqL K H p ys ∨ SqT K H p ys) ∧ ∀ l, H l = none → Q (.ref l) (upd H l (.lst ys))) gList := by
  intro S H vs ds res Q dom hs e q
  unfold gList at e
  split at e
  · rename_i ds
    obtain ⟨v, rfl, rt⟩ := hs.one
    obtain ⟨a, xs, rfl, ha, h⟩ := rt.list
    cases e
    exact ⟨a, xs, rfl, .inl ha, fun l hl => q _ _ _ (.lst hl h)⟩
  · rename_i ds
    obtain ⟨v, rfl, rt⟩ := hs.one
    obtain ⟨a, xs, rfl, na, ha, h⟩ := rt.tuple
    cases e
    exact ⟨a, xs, rfl, .inr (SqT.of ha), fun l hl => q _ _ _ (.lst hl h)⟩
  · cases e
def intsD : List PyData → Option (List Int)
  | [] => some []
  | .int i :: ds => (intsD ds).map (i :: ·)
  | _ => none
theorem intsD_rp {S : AS} {H : Hp} : ∀ {ds : List PyData} {vs : List V} {ns : List Int}, RpA K S H vs ds → intsD ds = some ns → vs = ns.map V.int
  | [], _, _, h, e => by cases h; cases e; rfl
  | .int i :: ds, _, ns, h, e => by
    obtain ⟨ms, e1, e2⟩ := Option.map_eq_some_iff.mp (show (intsD ds).map (i :: ·) = some ns from e)
    subst e2
    cases h with
    | cons h1 h2 =>
      cases h1
      rw [intsD_rp h2 e1] <;> rfl
  | .none :: _, _, _, _, e => by cases e
  | .bool _ :: _, _, _, _, e => by cases e
  | .str _ :: _, _, _, _, e => by cases e
  | .list _ :: _, _, _, _, e => by cases e
  | .tuple _ :: _, _, _, _, e => by cases e
  | .dict _ :: _, _, _, _, e => by cases e
def gSum : List PyData → Option R
  | [.list ds] => (intsD ds).map fun ns => .val (.int ns.sum)
  | _ => none
theorem cg_sum : CallG K (rSum K) gSum := by
  intro S H vs ds res Q dom hs e q
  unfold gSum at e
  split at e
  · rename_i ds
    obtain ⟨v, rfl, rt⟩ := hs.one
    obtain ⟨a, xs, rfl, ha, h⟩ := rt.list
    obtain ⟨ns, e1, rfl⟩ := Option.map_eq_some_iff.mp e
    have ex := intsD_rp h e1
    subst ex
    exact ⟨a, ns, rfl, ha, q _ S H (.val (.int _))⟩
  · cases e
end
end Pv
set_option maxRecDepth 100000
/-! PvG: isinstance; calls of the text's own defs. -/
namespace Pv
open PySem PySem.Spec L2

def tyD : PyData → String
  | .none => "NoneType"
  | .bool _ => "bool"
  | .int _ => "int"
  | .str _ => "str"
  | .list _ => "list"
  | .tuple _ => "tuple"
  | .dict _ => "dict"
theorem RT.ty {K : PySem.W.Frag} {S : AS} {H : Hp} {v : V} {d : PyData} (h : RT K S H v d) : TyX K H v (.type (tyD d)) := by
  cases d with
  | none => cases h.none; exact .base .non
  | bool b => cases h.bool; exact .base (.bl b)
  | int i => cases h.int; exact .base (.int i)
  | str x => cases h.str; exact .base (.str x)
  | list ds =>
    obtain ⟨a, xs, rfl, hs, _⟩ := h.list
    rcases hs with (hs | ⟨o, hs⟩) | ⟨o, its, n, e, c, _⟩
    · exact .base (.lst hs)
    · exact .base (.frz hs)
    · exact .kList e c
  | tuple ds => obtain ⟨a, xs, rfl, _, hs, _⟩ := h.tuple; exact .base (.tup hs)
  | dict ds =>
    obtain ⟨a, rfl, hs⟩ := h.dict
    rcases hs with ⟨kvs, es, e, _⟩ | ⟨kvs, es, e, _⟩
    · exact .base (.dT e)
    · exact .base (.dK e)
/-- isinstance, by the types' names -/
def isiD (d : PyData) (T : String) : Bool := tyD d == T || (T == "int" && tyD d == "bool")
def okT (T : String) : Bool := ["int", "bool", "str", "list", "tuple", "dict"].contains T
theorem isiD_ok : ∀ (d : PyData) (T : String), okT T = true → kitB (tyD d) T = some (isiD d T) := by
  have key : ∀ a ∈ ["NoneType", "bool", "int", "str", "list", "tuple", "dict"], ∀ T ∈ ["int", "bool", "str", "list", "tuple", "dict"], kitB a T = some (a == T || (T == "int" && a == "bool")) := by decide +kernel
  intro d T h
  have hT : T ∈ ["int", "bool", "str", "list", "tuple", "dict"] := by
    unfold okT at h
    rw [List.contains_iff_mem] at h
    exact h
  exact key (tyD d) (by cases d <;> simp [tyD]) T hT
def outI (T : String) (r : R) (ρ : Rho) : Out R := match deref ρ r with
  | some d => .ok (.val (.bool (isiD d T))) ρ
  | none => .bad
def fIsi (f : EF) (T : String) : EF := fun ρ => (f ρ).bind (outI T)
section
variable {X : Cx} {W : Wx} {e : Expr} {te : TE} {f : EF} {pos p p2 p3 : Pos} {x y : Str} {T : String}
theorem se_isi (he : SE X W e te f) (hT : okT T = true) (hg : Gl X "isinstance") (hm : X.mg "isinstance" = none) (hgT : Gl X y) (hmT : X.mg y = none) (hvT : bootBuiltins y = some (.type T)) (hn : y ≠ "__name__" := by decide) (hd : (y == ("__debug__" : Str)) = false := by decide)
    (hs1 : starEach [e, .Name y p2] X.env = (false, eval e X.env) :: starEach [.Name y p2] X.env := by rfl) (hs2 : starEach [.Name y p2] X.env = (false, eval (.Name y p2) X.env) :: starEach [] X.env := by rfl)
    (hpl : (backTo pos (starEach [.Name y p2] X.env)).any (·.1) = false := by rfl) :
    SE X W (.Call (.Name "isinstance" p) [e, .Name y p2] [] pos) (tCB (rIsi X.K) (tCons te (tCons (tC (.ty T)) tNil))) (fIsi f T) := by
  refine ⟨pe_callB call_isi hg hm PyProof.Rows.boot_isinstance (pa_cons he.pe (pa_cons (pe_bltn hgT hmT hvT rfl hn hd) pa_nil hs2) hs1) (by decide) (by decide) hs1 hpl, fun F S H σ ρ Q hK fok er hp => ?_⟩
  refine he.go hK fok er (wE F W σ Q) hp fun r ρ1 v S1 H1 t1 er1 rr1 _ hp1 => ?_
  have hp1 : PostE F W S1 H1 σ ρ1 (outI T r ρ1) Q := hp1
  unfold outI at hp1
  cases qa : deref ρ1 r with
  | none => simp only [qa] at hp1; exact hp1.elim
  | some d =>
    simp only [qa] at hp1
    have rt := rr1.rt er1 qa
    rw [hK] at rt
    exact ⟨v, .ty T, _, _, _, rfl, .ty T, rt.ty, kit_ty (isiD_ok d T hT), hp1 _ S1 H1 .refl er1 (.bl _) trivial⟩
/-- isinstance(e, (T1, T2)) -/
def outI2 (T U : String) (r : R) (ρ : Rho) : Out R := match deref ρ r with
  | some d => .ok (.val (.bool (isiD d T || isiD d U))) ρ
  | none => .bad
def fIsi2 (f : EF) (T U : String) : EF := fun ρ => (f ρ).bind (outI2 T U)
theorem se_isi2 {U : String} {z : Str} {kk : Nat} {p4 p5 : Pos} (he : SE X W e te f) (hT : okT T = true) (hU : okT U = true) (hg : Gl X "isinstance") (hm : X.mg "isinstance" = none) (hgT : Gl X y) (hmT : X.mg y = none) (hvT : bootBuiltins y = some (.type T))
    (hgU : Gl X z) (hmU : X.mg z = none) (hvU : bootBuiltins z = some (.type U)) (hn : y ≠ "__name__" := by decide) (hd : (y == ("__debug__" : Str)) = false := by decide) (hn2 : z ≠ "__name__" := by decide) (hd2 : (z == ("__debug__" : Str)) = false := by decide)
    (hs1 : starEach [e, .Tuple [.Name y p2, .Name z p4] kk p5] X.env = (false, eval e X.env) :: starEach [.Tuple [.Name y p2, .Name z p4] kk p5] X.env := by rfl)
    (hs2 : starEach [.Tuple [.Name y p2, .Name z p4] kk p5] X.env = (false, eval (.Tuple [.Name y p2, .Name z p4] kk p5) X.env) :: starEach [] X.env := by rfl)
    (hs3 : starEach [.Name y p2, .Name z p4] X.env = (false, eval (.Name y p2) X.env) :: starEach [.Name z p4] X.env := by rfl) (hs4 : starEach [.Name z p4] X.env = (false, eval (.Name z p4) X.env) :: starEach [] X.env := by rfl)
    (hpl : (backTo pos (starEach [.Tuple [.Name y p2, .Name z p4] kk p5] X.env)).any (·.1) = false := by rfl) :
    SE X W (.Call (.Name "isinstance" p) [e, .Tuple [.Name y p2, .Name z p4] kk p5] [] pos) (tCB (rIsiT X.K) (tCons te (tCons (tTup (tCons (tC (.ty T)) (tCons (tC (.ty U)) tNil))) tNil))) (fIsi2 f T U) := by
  refine ⟨pe_callB call_isiT hg hm PyProof.Rows.boot_isinstance (pa_cons he.pe (pa_cons (pe_tup (pa_cons (pe_bltn hgT hmT hvT rfl hn hd) (pa_cons (pe_bltn hgU hmU hvU rfl hn2 hd2) pa_nil hs4) hs3)) pa_nil hs2) hs1) (by decide) (by decide) hs1 hpl, fun F S H σ ρ Q hK fok er hp => ?_⟩
  refine he.go hK fok er (wE F W σ Q) hp fun r ρ1 v S1 H1 t1 er1 rr1 _ hp1 => ?_
  have hp1 : PostE F W S1 H1 σ ρ1 (outI2 T U r ρ1) Q := hp1
  unfold outI2 at hp1
  cases qa : deref ρ1 r with
  | none => simp only [qa] at hp1; exact hp1.elim
  | some d =>
    simp only [qa] at hp1
    refine ⟨by show 2 ≤ sizeLine; decide, fun tp htp => ?_⟩
    have ta := Tr.alloc (S := S1) (σ := σ) (ρ := ρ1) (o := .tup [.ty T, .ty U]) htp
    have era := er1.alloc (o := .tup [.ty T, .ty U]) htp
    have rt := (rr1.tr er1 ta rfl).rt era qa
    rw [hK] at rt
    refine ⟨v, tp, [.ty T, .ty U], _, [.type T, .type U], isiD d T || isiD d U, rfl, upd_same, .cons (.ty T) (.cons (.ty U) .nil), rt.ty, ?_, hp1 _ S1 _ ta era (.bl _) trivial⟩
    refine kitAny_cons (kit_ty (isiD_ok d T hT)) (fun e1 => ?_) fun e1 => by rw [e1]; rfl
    rw [e1, Bool.false_or]
    refine kitAny_cons (kit_ty (isiD_ok d U hU)) (fun e2 => by rw [e2]; exact kitAny_nil) fun e2 => e2
end

/-! ### a def's contract at the pure level -/
inductive FOut where
  | ok (r : R) (m : Option MO)
  | ex (x : XV) (m : Option MO)
  | bad
abbrev FN := List Slot → FOut
def SlR (K : PySem.W.Frag) (S : AS) (H : Hp) (v : V) : Slot → Prop
  | .val d => Rp K S H v d
  | .lent m => ∃ a, v = .ref a ∧ S a ∧ MOk K S H a m
  | _ => False
inductive ArgsR (K : PySem.W.Frag) (S : AS) (H : Hp) : List V → List Slot → Prop
  | nil : ArgsR K S H [] []
  | cons {v : V} {vs : List V} {s : Slot} {ss : List Slot} : SlR K S H v s → ArgsR K S H vs ss → ArgsR K S H (v :: vs) (s :: ss)
/-- the place of the one lent argument -/
def LentA (vs : List V) (ss : List Slot) (a : Addr) : Prop := ∃ (i : Nat) (m : MO), ss[i]? = some (Slot.lent m) ∧ vs[i]? = some (V.ref a)
def oneLent : List Slot → Bool
  | [] => true
  | .lent _ :: ss => ss.all fun s => match s with | .lent _ => false | _ => true
  | _ :: ss => oneLent ss
structure CTr (vs : List V) (ss : List Slot) (S : AS) (H : Hp) (S' : AS) (H' : Hp) : Prop where
  off : ∀ b o, NT o → H b = some o → ¬ LentA vs ss b → H' b = some o
  tb : ∀ a, GxR.TabG H a → GxR.TabG H' a
  new : ∀ a, S' a → S a ∨ H a = none
  old : ∀ a, S a → S' a
  dom : ∀ a, S' a → H' a ≠ none
  stay : ∀ a, H a ≠ none → H' a ≠ none
def LentR (K : PySem.W.Frag) (S : AS) (H : Hp) (vs : List V) (ss : List Slot) (m : Option MO) : Prop := ∀ a, LentA vs ss a → ∃ m', m = some m' ∧ MOk K S H a m'
def RRc (K : PySem.W.Frag) (H : Hp) (S' : AS) (H' : Hp) (v : V) : R → Prop
  | .val d => Rp K S' H' v d
  | .own m => ∃ a, v = .ref a ∧ S' a ∧ H a = none ∧ MOk K S' H' a m
  | .slot _ => False
def XRc (K : PySem.W.Frag) (S : AS) (H : Hp) (x : XV) (cls : Value) (dx : Option Addr) : Prop := XR ⟨K, fun _ => none, fun _ => False, fun _ => none⟩ S H x cls dx
def spF (K : PySem.W.Frag) (T : AS) (n : Nat) (Fn : FN) : Sp := fun vs H Q E => ∃ (S : AS) (ss : List Slot), ss.length = n ∧ ArgsR K S H vs ss ∧ oneLent ss = true ∧ (∀ a, S a → H a ≠ none) ∧ (∀ a, T a → GxR.TabG H a) ∧ match Fn ss with
  | .ok r m => ∀ v S' H', CTr vs ss S H S' H' → LentR K S' H' vs ss m → RRc K H S' H' v r → Q v H'
  | .ex x m => ∀ cls dx S' H', CTr vs ss S H S' H' → LentR K S' H' vs ss m → XRc K S' H' x cls dx → E cls dx H'
  | .bad => False
theorem ArgsR.length {K : PySem.W.Frag} {S : AS} {H : Hp} : ∀ {vs : List V} {ss : List Slot}, ArgsR K S H vs ss → vs.length = ss.length
  | _, _, .nil => rfl
  | _, _, .cons _ h => by rw [List.length_cons, List.length_cons, h.length]
theorem spF_len {K : PySem.W.Frag} {T : AS} {n : Nat} {Fn : FN} : ∀ vs H Q E, spF K T n Fn vs H Q E → vs.length = n := fun vs H Q E h => by
  obtain ⟨S, ss, e, h, _⟩ := h
  rw [h.length, e]
theorem ArgsR.get {K : PySem.W.Frag} {S : AS} {H : Hp} : ∀ {vs : List V} {ss : List Slot} {i : Nat} {s : Slot}, ArgsR K S H vs ss → ss[i]? = some s → ∃ v, vs[i]? = some v ∧ SlR K S H v s
  | _, _, _, _, .nil, e => by simp at e
  | _, _, 0, _, .cons h _, e => by simp at e; subst e; exact ⟨_, rfl, h⟩
  | _, _, i + 1, _, .cons _ hs, e => by
    obtain ⟨v, h1, h2⟩ := ArgsR.get (i := i) hs (by simpa using e)
    exact ⟨v, by simpa using h1, h2⟩
theorem oneLent_none : ∀ {ss : List Slot}, (ss.all fun s => match s with | .lent _ => false | _ => true) = true → oneLent ss = true
  | [], _ => rfl
  | .lent _ :: ss, h => by
    rw [List.all_cons, Bool.and_eq_true] at h
    cases h.1
  | .no :: ss, h => by
    rw [List.all_cons, Bool.and_eq_true] at h
    exact oneLent_none (ss := ss) h.2
  | .val _ :: ss, h => by
    rw [List.all_cons, Bool.and_eq_true] at h
    exact oneLent_none (ss := ss) h.2
  | .own _ :: ss, h => by
    rw [List.all_cons, Bool.and_eq_true] at h
    exact oneLent_none (ss := ss) h.2
  | .pin _ _ :: ss, h => by
    rw [List.all_cons, Bool.and_eq_true] at h
    exact oneLent_none (ss := ss) h.2
  | .ins _ :: ss, h => by
    rw [List.all_cons, Bool.and_eq_true] at h
    exact oneLent_none (ss := ss) h.2
theorem oneLent_tail : ∀ {s : Slot} {ss : List Slot}, oneLent (s :: ss) = true → oneLent ss = true
  | .lent _, ss, h => oneLent_none h
  | .no, _, h => h
  | .val _, _, h => h
  | .own _, _, h => h
  | .pin _ _, _, h => h
  | .ins _, _, h => h
theorem oneLent_inj : ∀ {ss : List Slot} {i j : Nat} {m m' : MO}, oneLent ss = true → ss[i]? = some (.lent m) → ss[j]? = some (.lent m') → i = j
  | [], i, _, _, _, _, h, _ => by simp at h
  | s :: ss, 0, 0, _, _, _, _, _ => rfl
  | s :: ss, 0, j + 1, m, m', h, h1, h2 => by
    simp at h1
    subst h1
    have h : (ss.all fun s => match s with | .lent _ => false | _ => true) = true := h
    have h3 := List.all_eq_true.mp h _ (List.mem_of_getElem? (show ss[j]? = some (.lent m') by simpa using h2))
    cases h3
  | s :: ss, i + 1, 0, m, m', h, h1, h2 => by
    simp at h2
    subst h2
    have h : (ss.all fun s => match s with | .lent _ => false | _ => true) = true := h
    have h3 := List.all_eq_true.mp h _ (List.mem_of_getElem? (show ss[i]? = some (.lent m) by simpa using h1))
    cases h3
  | s :: ss, i + 1, j + 1, m, m', h, h1, h2 => by
    rw [oneLent_inj (oneLent_tail h) (show ss[i]? = some (.lent m) by simpa using h1) (show ss[j]? = some (.lent m') by simpa using h2)]

/-! ### the call -/
/-- an argument: a slot's own thing is lent, all else is given away -/
def argOf (r : R) (ρ : Rho) : Option (R × Rho) := match r with
  | .val d => some (.val d, ρ)
  | .own m => some (.val m.data, ρ)
  | .slot i => some (.slot i, ρ)
def cCons (fa : EF) (fr : RF) : RF := fun ρ => (fa ρ).bind fun r ρ1 => match argOf r ρ1 with
  | some (r', ρ1) => (fr ρ1).bind fun rs ρ2 => .ok (r' :: rs) ρ2
  | none => .bad
structure SAc (X : Cx) (W : Wx) (es : List Expr) (t : TA) (f : RF) : Prop where
  pa : PA X es t
  sn : ∀ (F : Fx) (S : AS) (H : Hp) (σ : St) (ρ : Rho) (Q : List V → Hp → Prop), F.K = X.K → F.Ok W.T → ER F S H σ ρ → PostR F W S H σ ρ (f ρ) (fun vs H => Q vs H) → t σ H Q
  ln : ∀ ρ rs ρ', f ρ = .ok rs ρ' → rs.length = es.length
section
variable {X : Cx} {W : Wx} {e : Expr} {es : List Expr} {te : TE} {t : TA} {f : EF} {fr : RF}
theorem sc_nil : SAc X W [] tNil rNil := ⟨pa_nil, fun F S H σ ρ Q _ _ er hp => hp [] S H .refl er .nil, fun ρ rs ρ' e => by cases e; rfl⟩
theorem sc_cons (ha : SE X W e te f) (hr : SAc X W es t fr) (hs : starEach (e :: es) X.env = (false, eval e X.env) :: starEach es X.env := by rfl) : SAc X W (e :: es) (tCons te t) (cCons f fr) := by
  refine ⟨pa_cons ha.pe hr.pa hs, fun F S H σ ρ Q hK fok er hp => ?_, fun ρ rs ρ' eq => ?_⟩
  · -- as a step with its result given away, where it is not a slot's
    have fin : ∀ (r' : R) (ρ1 : Rho) (v : V) (S1 : AS) (H1 : Hp), Tr S H σ ρ S1 H1 ρ1 → ER F S1 H1 σ ρ1 → RR F S1 H1 σ ρ1 v r' → PostR F W S1 H1 σ ρ1 ((fr ρ1).bind fun rs ρ2 => .ok (r' :: rs) ρ2) Q → t σ H1 (fun xs H2 => Q (v :: xs) H2) := by
      intro r' ρ1 v S1 H1 t1 er1 rr1 hp1
      refine hr.sn F S1 H1 σ ρ1 _ hK fok er1 ?_
      cases q : fr ρ1 with
      | ok rs ρ2 =>
        rw [q] at hp1
        exact fun vs S2 H2 t2 er2 rr2 => hp1 (v :: vs) S2 H2 t2 er2 (.cons (rr1.tr er1 t2 (er2.len.trans er1.len.symm)) rr2)
      | ex x ρ2 => rw [q] at hp1; exact hp1
      | bad => rw [q] at hp1; exact hp1
    refine ha.sn F S H σ ρ _ hK fok er ?_
    unfold cCons at hp
    cases q : f ρ with
    | ex x ρ1 => rw [q] at hp; exact hp
    | bad => rw [q] at hp; exact hp
    | ok r ρ1 =>
      rw [q] at hp
      intro v S1 H1 t1 er1 rr1 fr1
      cases r with
      | val d =>
        have hp : PostR F W S H σ ρ ((fr ρ1).bind fun rs ρ2 => .ok (.val d :: rs) ρ2) Q := hp
        exact fin _ _ v S1 H1 t1 er1 rr1 (hp.shift er t1)
      | slot i =>
        have hp : PostR F W S H σ ρ ((fr ρ1).bind fun rs ρ2 => .ok (.slot i :: rs) ρ2) Q := hp
        exact fin _ _ v S1 H1 t1 er1 rr1 (hp.shift er t1)
      | own m =>
        have hp : PostR F W S H σ ρ ((fr ρ1).bind fun rs ρ2 => .ok (.val m.data :: rs) ρ2) Q := hp
        obtain ⟨S2, t2, er2, rp, _, _⟩ := freeze_ok (d := m.data) (ρ2 := ρ1) er t1 er1 rr1 fr1 rfl fok
        exact fin (.val m.data) _ v S2 H1 t2 er2 rp (hp.shift er t2)
  · unfold cCons at eq
    cases q : f ρ with
    | ex x ρ1 => rw [q] at eq; cases eq
    | bad => rw [q] at eq; cases eq
    | ok r0 ρ1 =>
      rw [q] at eq
      have fin : ∀ (r' : R), ((fr ρ1).bind fun rs ρ2 => Out.ok (r' :: rs) ρ2) = .ok rs ρ' → rs.length = (e :: es).length := by
        intro r' h
        cases q2 : fr ρ1 with
        | ex x ρ1 => rw [q2] at h; cases h
        | bad => rw [q2] at h; cases h
        | ok rs2 ρ2 =>
          rw [q2] at h
          cases h
          rw [List.length_cons, List.length_cons, hr.ln _ _ _ q2]
      cases r0 with
      | val d => exact fin (.val d) eq
      | own m' => exact fin (.val m'.data) eq
      | slot i => exact fin (.slot i) eq
end
/-- the callee's slots -/
def slotOf (ρ : Rho) : R → Option Slot
  | .val d => some (.val d)
  | .own _ => none
  | .slot i => (match ρ[i]? with
    | some (.val d) => some (.val d)
    | some (.own m) => some (.lent m)
    | some (.lent m) => some (.lent m)
    | _ => none)
def callSlots (ρ : Rho) : List R → Option (List Slot)
  | [] => some []
  | r :: rs => match slotOf ρ r, callSlots ρ rs with
    | some s, some ss => some (s :: ss)
    | _, _ => none
/-- the slot that is lent -/
def lentIx : List R → List Slot → Option Nat
  | .slot j :: _, .lent _ :: _ => some j
  | _ :: rs, _ :: ss => lentIx rs ss
  | _, _ => none
/-- .. takes the thing back -/
def backSlots (ρ : Rho) (rs : List R) (ss : List Slot) (m : Option MO) : Option Rho := match lentIx rs ss with
  | none => some ρ
  | some j => match m, ρ[j]? with
    | some m, some s => some (ρ.set j (s.put m))
    | _, _ => none
def outF (Fn : FN) (rs : List R) (ρ : Rho) : Out R := match callSlots ρ rs with
  | some ss => if oneLent ss = true then (match Fn ss with
    | .ok r m => (match backSlots ρ rs ss m with
      | some ρ' => (match r with
        | .slot _ => .bad
        | r => .ok r ρ')
      | none => .bad)
    | .ex x m => (match backSlots ρ rs ss m with
      | some ρ' => .ex x ρ'
      | none => .bad)
    | .bad => .bad) else .bad
  | none => .bad
def fCall (Fn : FN) (fr : RF) : EF := fun ρ => (fr ρ).bind (outF Fn)

theorem callSlots_cons {ρ : Rho} {r : R} {rs : List R} {ss : List Slot} (h : callSlots ρ (r :: rs) = some ss) : ∃ s ss', ss = s :: ss' ∧ slotOf ρ r = some s ∧ callSlots ρ rs = some ss' := by
  unfold callSlots at h
  cases q1 : slotOf ρ r with
  | none => simp [q1] at h
  | some s =>
    cases q2 : callSlots ρ rs with
    | none => simp [q1, q2] at h
    | some ss' =>
      simp only [q1, q2, Option.some.injEq] at h
      exact ⟨s, ss', h.symm, rfl, rfl⟩
section
variable {F : Fx} {S S' : AS} {H H' : Hp} {σ : St} {ρ ρ' : Rho}
theorem RRs.length : ∀ {vs : List V} {rs : List R}, RRs F S H σ ρ vs rs → vs.length = rs.length
  | _, _, .nil => rfl
  | _, _, .cons _ h => by rw [List.length_cons, List.length_cons, h.length]
theorem slotOf_lent {r : R} {m : MO} (h : slotOf ρ r = some (.lent m)) : ∃ i s, r = .slot i ∧ ρ[i]? = some s ∧ s.mo = some m := by
  cases r with
  | val d => cases h
  | own m' => cases h
  | slot i =>
    unfold slotOf at h
    cases q : ρ[i]? with
    | none => simp [q] at h
    | some s =>
      cases s with
      | no => simp [q] at h
      | val d => simp [q] at h
      | own m' =>
        simp only [q, Option.some.injEq, Slot.lent.injEq] at h
        subst h
        exact ⟨i, _, rfl, q, rfl⟩
      | lent m' =>
        simp only [q, Option.some.injEq, Slot.lent.injEq] at h
        subst h
        exact ⟨i, _, rfl, q, rfl⟩
      | pin b m' => simp [q] at h
      | ins g => simp [q] at h
theorem call_args (er : ER F S H σ ρ) : ∀ {rs : List R} {ss : List Slot} {vs : List V}, callSlots ρ rs = some ss → RRs F S H σ ρ vs rs → ArgsR F.K S H vs ss
  | [], ss, _, h, .nil => by cases h; exact .nil
  | r :: rs, ss, _, h, .cons (v := v) hr hrs => by
    obtain ⟨s, ss', rfl, h1, h2⟩ := callSlots_cons h
    refine .cons ?_ (call_args er h2 hrs)
    cases r with
    | val d => cases h1; exact hr
    | own m => cases h1
    | slot i =>
      unfold slotOf at h1
      cases q : ρ[i]? with
      | none => simp [q] at h1
      | some s0 =>
        have z := er.at_ i s0 q
        cases s0 with
        | no => simp [q] at h1
        | val d =>
          simp only [q, Option.some.injEq] at h1
          subst h1
          obtain ⟨x, e, z⟩ := z
          rw [hr.1] at e; cases e
          exact z
        | own m =>
          simp only [q, Option.some.injEq] at h1
          subst h1
          obtain ⟨a, e, s, _, z⟩ := z
          rw [hr.1] at e; cases e
          exact ⟨a, rfl, s, z⟩
        | lent m =>
          simp only [q, Option.some.injEq] at h1
          subst h1
          obtain ⟨a, e, _, s, z⟩ := z
          rw [hr.1] at e; cases e
          exact ⟨a, rfl, s, z⟩
        | pin b m => simp [q] at h1
        | ins g => simp [q] at h1
theorem lentIx_skip {r : R} {s : Slot} {rs : List R} {ss : List Slot} (h : ∀ m, s ≠ .lent m) : lentIx (r :: rs) (s :: ss) = lentIx rs ss := by
  cases s with
  | lent m => exact absurd rfl (h m)
  | no => cases r <;> rfl
  | val d => cases r <;> rfl
  | own m => cases r <;> rfl
  | pin b m => cases r <;> rfl
  | ins g => cases r <;> rfl
theorem call_lent : ∀ {rs : List R} {ss : List Slot} {vs : List V}, callSlots ρ rs = some ss → RRs F S H σ ρ vs rs → oneLent ss = true →
    (∀ a, LentA vs ss a → ∃ j s m, lentIx rs ss = some j ∧ ρ[j]? = some s ∧ s.mo = some m ∧ σ[j]? = some (some (.ref a))) ∧
    (∀ j, lentIx rs ss = some j → ∃ s m, ρ[j]? = some s ∧ s.mo = some m ∧ ∀ a, σ[j]? = some (some (.ref a)) → LentA vs ss a)
  | [], ss, _, h, .nil, _ => by
    cases h
    refine ⟨fun a ⟨i, m, e, _⟩ => by simp at e, fun j e => by cases e⟩
  | r :: rs, ss, _, h, .cons (v := v) (vs := vs) hr hrs, ho => by
    obtain ⟨s, ss', rfl, h1, h2⟩ := callSlots_cons h
    by_cases hs : ∃ m, s = .lent m
    · obtain ⟨m, rfl⟩ := hs
      obtain ⟨i, s, rfl, e, em⟩ := slotOf_lent h1
      have ei : lentIx (.slot i :: rs) (.lent m :: ss') = some i := rfl
      refine ⟨fun a ⟨k, m', e1, e2⟩ => ?_, fun j ej => ?_⟩
      · have k0 : k = 0 := oneLent_inj ho e1 (show (Slot.lent m :: ss')[0]? = some (.lent m) from rfl)
        subst k0
        have ev : v = .ref a := by simpa using e2
        subst ev
        exact ⟨i, s, m, ei, e, em, hr.1⟩
      · rw [ei] at ej
        cases ej
        refine ⟨s, m, e, em, fun a ea => ⟨0, m, rfl, ?_⟩⟩
        have := hr.1
        rw [ea] at this
        cases this
        rfl
    · have hs' : ∀ m, s ≠ .lent m := fun m z => hs ⟨m, z⟩
      obtain ⟨i1, i2⟩ := call_lent h2 hrs (oneLent_tail ho)
      refine ⟨fun a ⟨k, m', e1, e2⟩ => ?_, fun j ej => ?_⟩
      · cases k with
        | zero =>
          simp at e1
          exact absurd e1 (hs' m')
        | succ k =>
          obtain ⟨j, s2, m2, a1, a2⟩ := i1 a ⟨k, m', by simpa using e1, by simpa using e2⟩
          exact ⟨j, s2, m2, by rw [lentIx_skip hs']; exact a1, a2⟩
      · rw [lentIx_skip hs'] at ej
        obtain ⟨s2, m2, a1, a2, a3⟩ := i2 j ej
        refine ⟨s2, m2, a1, a2, fun a ea => ?_⟩
        obtain ⟨k, m', e1, e2⟩ := a3 a ea
        exact ⟨k + 1, m', by simpa using e1, by simpa using e2⟩
/-- behind the call: the slots again -/
theorem call_back (er : ER F S H σ ρ) (fok : F.Ok T) {rs : List R} {ss : List Slot} {vs : List V} (h : callSlots ρ rs = some ss) (hr : RRs F S H σ ρ vs rs) (ho : oneLent ss = true) {m : Option MO} (c : CTr vs ss S H S' H') (l : LentR F.K S' H' vs ss m)
    (hb : backSlots ρ rs ss m = some ρ') : Tr S H σ ρ S' H' ρ' ∧ ER F S' H' σ ρ' ∧ ρ'.length = ρ.length := by
  obtain ⟨i1, i2⟩ := call_lent h hr ho
  have lentMut : ∀ a, LentA vs ss a → ∃ j, MutAt σ ρ j a ∧ lentIx rs ss = some j := fun a z => by
    obtain ⟨j, s, m', a1, a2, a3, a4⟩ := i1 a z
    refine ⟨j, ⟨⟨m', ?_⟩, a4⟩, a1⟩
    rcases Slot.mo_cases a3 with q | q | ⟨c, q⟩ <;> subst q
    · exact .inl a2
    · exact .inr (.inl a2)
    · exact .inr (.inr ⟨c, a2⟩)
  have offS : ∀ b o, NT o → H b = some o → ¬ S b → H' b = some o := fun b o nt e n => c.off b o nt e fun z => by
    obtain ⟨j, hm, _⟩ := lentMut b z
    exact n (er.mutS hm)
  have frOk : ∀ b o, NT o → F.H0 b = some o → ¬ F.lentA b → H' b = some o := fun b o nt e n => c.off b o nt (er.fr b o nt e n) fun z => by
    obtain ⟨j, ⟨⟨m', hm⟩, hσ⟩, _⟩ := lentMut b z
    rcases hm with hm | hm | ⟨a, hm⟩
    · obtain ⟨a, ea, _, f, _⟩ := er.at_ j _ hm
      rw [hσ] at ea; cases ea
      rw [f] at e; cases e
    · obtain ⟨a, ea, f, _⟩ := er.at_ j _ hm
      rw [hσ] at ea; cases ea
      exact n ⟨j, f⟩
    · obtain ⟨ea, _, f, _⟩ := er.at_ j _ hm
      rw [hσ] at ea; cases ea
      rw [f] at e; cases e
  -- a slot that isn't lent
  have keepS : ∀ i s, lentIx rs ss ≠ some i → ρ[i]? = some s → SR F S' H' i σ[i]? s := fun i s ni e => by
    have z := er.at_ i s e
    have nl : ∀ a, MutAt σ ρ i a → ¬ LentA vs ss a := fun a hm q => by
      obtain ⟨j, hm2, hj⟩ := lentMut a q
      exact ni (by rw [hj, er.dj i j a hm hm2])
    cases s with
    | no => trivial
    | val d => obtain ⟨x, e1, z⟩ := z; exact ⟨x, e1, z.mono offS c.new⟩
    | own m' => obtain ⟨a, e1, sa, f, z⟩ := z; exact ⟨a, e1, c.old a sa, f, z.mono offS c.new fun o nt q => c.off a o nt q (nl a ⟨⟨m', .inl e⟩, e1⟩)⟩
    | lent m' => obtain ⟨a, e1, f, sa, z⟩ := z; exact ⟨a, e1, f, c.old a sa, z.mono offS c.new fun o nt q => c.off a o nt q (nl a ⟨⟨m', .inr (.inl e)⟩, e1⟩)⟩
    | pin a m' => obtain ⟨e1, sa, f, z⟩ := z; exact ⟨e1, c.old a sa, f, z.mono offS c.new fun o nt q => c.off a o nt q (nl a ⟨⟨m', .inr (.inr ⟨a, e⟩)⟩, e1⟩)⟩
    | ins g => exact ins_mono offS c.new z
  have offM : ∀ b o, NT o → H b = some o → (∀ i, ¬ MutAt σ ρ i b) → H' b = some o := fun b o nt e n => c.off b o nt e fun z => by
    obtain ⟨j, hm, _⟩ := lentMut b z
    exact n j hm
  unfold backSlots at hb
  cases q : lentIx rs ss with
  | none =>
    simp only [q] at hb
    cases hb
    exact ⟨⟨offM, c.tb, c.new, fun a sa _ => c.old a sa, fun _ _ z => z, c.stay⟩, ⟨er.len, fun i s e => keepS i s (by rw [q]; exact fun z => nomatch z) e, er.dj, fun a z => c.old a (er.sub a z), c.dom, frOk, (fun a h => c.tb a (er.tb a h)), (fun a h => c.stay a (er.st a h)), er.lt⟩, rfl⟩
  | some j =>
    obtain ⟨s, m0, e, em, lj⟩ := i2 j q
    cases m with
    | none => simp [q] at hb
    | some m1 =>
      simp only [q, e] at hb
      cases hb
      obtain ⟨a, ea, sa, fa, ok, hm⟩ := er.mo e em
      obtain ⟨m', em', ok'⟩ := l a (lj a ea)
      cases em'
      have hj : j < ρ.length := (List.getElem?_eq_some_iff.mp e).1
      have mu : ∀ i b, MutAt σ (ρ.set j (s.put m1)) i b → MutAt σ ρ i b := (Tr.write (S := S) (H := H) (o := .lst []) hm (by rcases Slot.mo_cases em with z | z | ⟨_, z⟩ <;> (subst z; exact fun z => nomatch z)) (MOk.nt ok)).mu
      refine ⟨⟨offM, c.tb, c.new, fun b sb _ => c.old b sb, mu, c.stay⟩, ⟨by rw [List.length_set]; exact er.len, fun i t et => ?_, fun i k b y z => er.dj i k b (mu i b y) (mu k b z), fun b z => c.old b (er.sub b z), c.dom, frOk, (fun a h => c.tb a (er.tb a h)), (fun a h => c.stay a (er.st a h)), er.putLt e em⟩, List.length_set⟩
      by_cases hi : i = j
      · subst hi
        rw [List.getElem?_set_self hj] at et
        cases et
        have z := er.at_ i s e
        rcases Slot.mo_cases em with w | w | ⟨b, w⟩ <;> subst w
        · obtain ⟨b, eb, sb, fb, _⟩ := z
          rw [ea] at eb; cases eb
          exact ⟨a, ea, c.old a sb, fb, ok'⟩
        · obtain ⟨b, eb, fb, sb, _⟩ := z
          rw [ea] at eb; cases eb
          exact ⟨a, ea, fb, c.old a sb, ok'⟩
        · obtain ⟨eb, sb, fb, _⟩ := z
          rw [ea] at eb; cases eb
          exact ⟨ea, c.old a sb, fb, ok'⟩
      · rw [List.getElem?_set_ne (Ne.symm hi)] at et
        exact keepS i t (by rw [q]; exact fun z => hi (Option.some.inj z).symm) et
end
section
variable {X : Cx} {W : Wx} {e : Expr} {es : List Expr} {t : TA} {fr : RF} {k n : Nat} {f : Addr} {fd : FuncData} {ps : List Str} {Fn : FN} {x : Str} {p pos : Pos}
theorem sn_callS (ha : SAc X W (e :: es) t fr) (hn : (e :: es).length = n) : ∀ (F : Fx) (S : AS) (H : Hp) (σ : St) (ρ : Rho) (Q : VK), F.K = X.K → F.Ok W.T → ER F S H σ ρ → PostE F W S H σ ρ (fCall Fn fr ρ) Q → tCallS (spF X.K W.T n Fn) (WE W.w) t σ H Q := by
  intro F S H σ ρ Q hK fok er hp
  refine ha.sn F S H σ ρ _ hK fok er ?_
  unfold fCall at hp
  cases q : fr ρ with
  | ex x ρ1 => rw [q] at hp; exact hp
  | bad => rw [q] at hp; exact hp
  | ok rs ρ1 =>
    rw [q] at hp
    intro vs S1 H1 t1 er1 rr1
    have hp1 : PostE F W S1 H1 σ ρ1 (outF Fn rs ρ1) Q := PostE.shift er t1 hp
    unfold outF at hp1
    cases qs : callSlots ρ1 rs with
    | none => simp only [qs] at hp1; exact hp1.elim
    | some ss =>
      simp only [qs] at hp1
      by_cases ho : oneLent ss = true
      · rw [if_pos ho] at hp1
        have ar := call_args er1 qs rr1
        have lss : ss.length = n := by
          rw [← ar.length, ← hn, ← ha.ln _ _ _ q]
          exact rr1.length
        refine ⟨S1, ss, lss, by rw [← hK]; exact ar, ho, er1.dom, (fun a h => er1.tb a (fok.tab a h)), ?_⟩
        cases qf : Fn ss with
        | bad => simp only [qf] at hp1; exact hp1.elim
        | ex x m =>
          simp only [qf] at hp1
          cases qb : backSlots ρ1 rs ss m with
          | none => simp only [qb] at hp1; exact hp1.elim
          | some ρ2 =>
            simp only [qb] at hp1
            intro cls dx S' H' c l xr
            rw [← hK] at l xr
            obtain ⟨t2, er2, _⟩ := call_back er1 fok qs rr1 ho c l qb
            exact hp1 cls dx S' H' t2 er2 xr
        | ok r m =>
          simp only [qf] at hp1
          cases qb : backSlots ρ1 rs ss m with
          | none => simp only [qb] at hp1; exact hp1.elim
          | some ρ2 =>
            simp only [qb] at hp1
            intro v S' H' c l rc
            rw [← hK] at l rc
            obtain ⟨t2, er2, _⟩ := call_back er1 fok qs rr1 ho c l qb
            cases r with
            | slot i => exact rc.elim
            | val d => exact hp1 v S' H' t2 er2 rc trivial
            | own m' =>
              obtain ⟨a, rfl, sa, na, ok⟩ := rc
              have nS : ¬ S1 a := fun z => er1.dom a z na
              refine hp1 _ S' H' t2 er2 ⟨a, rfl, sa, ?_, ok, fun i z => nS (er1.mutS (t2.mu i a z))⟩ fun b e => by cases e; exact na
              cases q0 : F.H0 a with
              | none => rfl
              | some o =>
                exfalso
                exact er1.st a (by rw [q0]; exact fun z => nomatch z) na
      · rw [if_neg ho] at hp1
        exact hp1.elim
theorem se_call (G : FnOk X.prog X.w X.K X.mg X.base (L2N.CX X.prog X.w) k f fd ps (spF X.K W.T n Fn)) (hr : Room k X.A) (tk : L2N.Takes X W.w) (hg : Gl X x) (hm : X.mg x = some (.ref f)) (hk : PySem.W.keepIn X.K (.ref f) = true) (hb : Binds X.K fd ps [])
    (ha : SAc X W (e :: es) t fr) (hn : (e :: es).length = n := by rfl) (hdb : (x == ("__debug__" : Str)) = false := by decide) (he : starEach (e :: es) X.env = (false, eval e X.env) :: starEach es X.env := by rfl) (hpl : (backTo pos (starEach es X.env)).any (·.1) = false := by rfl) :
    SE X W (.Call (.Name x p) (e :: es) [] pos) (tCallS (spF X.K W.T n Fn) (WE W.w) t) (fCall Fn fr) :=
  ⟨pe_callS G hr hg hm hk hb (L2N.passAt tk) ha.pa hdb he hpl, sn_callS ha hn⟩
end
end Pv
set_option maxRecDepth 100000
/-! PvH: statements, loops, a def's body. -/
namespace Pv
open PySem PySem.Spec L2

inductive SO where
  | nx (ρ : Rho)
  | rt (r : R) (ρ : Rho)
  | bk (ρ : Rho)
  | ct (ρ : Rho)
  | ex (x : XV) (ρ : Rho)
  | bad
abbrev SF := Rho → SO
structure TrS (S : AS) (H : Hp) (S' : AS) (H' : Hp) : Prop where
  off : ∀ b o, NT o → H b = some o → ¬ S b → H' b = some o
  tb : ∀ a, GxR.TabG H a → GxR.TabG H' a
  new : ∀ a, S' a → S a ∨ H a = none
  stay : ∀ a, H a ≠ none → H' a ≠ none
theorem TrS.refl {S : AS} {H : Hp} : TrS S H S H := ⟨fun _ _ _ e _ => e, fun _ h => h, fun _ h => .inl h, fun _ h => h⟩
theorem TrS.trans {S S1 S2 : AS} {H H1 H2 : Hp} (t : TrS S H S1 H1) (u : TrS S1 H1 S2 H2) : TrS S H S2 H2 where
  tb := fun a h => u.tb a (t.tb a h)
  off := fun b o nt e n => u.off b o nt (t.off b o nt e n) fun z => by
    rcases t.new b z with z | z
    · exact n z
    · rw [e] at z; cases z
  new := fun a h => by
    rcases u.new a h with h | h
    · exact t.new a h
    · cases q : H a with
      | none => exact .inr rfl
      | some o => exact absurd h (t.stay a (by rw [q]; exact fun z => nomatch z))
  stay := fun a h => u.stay a (t.stay a h)
theorem Tr.s {F : Fx} {S S' : AS} {H H' : Hp} {σ : St} {ρ ρ' : Rho} (er : ER F S H σ ρ) (t : Tr S H σ ρ S' H' ρ') : TrS S H S' H' := ⟨t.offS er, t.tb, t.new, t.stay⟩
theorem Rp.trS {K : PySem.W.Frag} {S S' : AS} {H H' : Hp} {v : V} {d : PyData} (h : Rp K S H v d) (t : TrS S H S' H') : Rp K S' H' v d := h.mono t.off t.new
theorem RpA.trS {K : PySem.W.Frag} {S S' : AS} {H H' : Hp} {v : List V} {d : List PyData} (h : RpA K S H v d) (t : TrS S H S' H') : RpA K S' H' v d := h.mono t.off t.new
def PostS (F : Fx) (W : Wx) (S : AS) (H : Hp) (o : SO) (D : Ends) : Prop := match o with
  | .nx ρ' => ∀ σ' S' H', TrS S H S' H' → ER F S' H' σ' ρ' → D.nx σ' H'
  | .rt r ρ' => ∀ v σ' S' H', TrS S H S' H' → ER F S' H' σ' ρ' → RR F S' H' σ' ρ' v r → D.rt v H'
  | .bk ρ' => ∀ σ' S' H', TrS S H S' H' → ER F S' H' σ' ρ' → D.bk σ' H'
  | .ct ρ' => ∀ σ' S' H', TrS S H S' H' → ER F S' H' σ' ρ' → D.ct σ' H'
  | .ex x ρ' => ∀ cls dx σ' S' H', TrS S H S' H' → ER F S' H' σ' ρ' → XR F S' H' x cls dx → W.w cls dx σ' H'
  | .bad => False
theorem PostS.shift {F : Fx} {W : Wx} {S S1 : AS} {H H1 : Hp} {D : Ends} (t : TrS S H S1 H1) {o : SO} (h : PostS F W S H o D) : PostS F W S1 H1 o D := by
  cases o with
  | nx ρ' => exact fun σ' S' H' t' er => h σ' S' H' (t.trans t') er
  | rt r ρ' => exact fun v σ' S' H' t' er rr => h v σ' S' H' (t.trans t') er rr
  | bk ρ' => exact fun σ' S' H' t' er => h σ' S' H' (t.trans t') er
  | ct ρ' => exact fun σ' S' H' t' er => h σ' S' H' (t.trans t') er
  | ex x ρ' => exact fun cls dx σ' S' H' t' er xr => h cls dx σ' S' H' (t.trans t') er xr
  | bad => exact h
structure SS (X : Cx) (W : Wx) (st : Stmt) (t : TS) (g : SF) : Prop where
  ps : PS X st t
  sn : ∀ (F : Fx) (S : AS) (H : Hp) (σ : St) (ρ : Rho) (D : Ends), F.K = X.K → F.Ok W.T → ER F S H σ ρ → PostS F W S H (g ρ) D → t D σ H
structure SSs (X : Cx) (W : Wx) (st : List Stmt) (t : TS) (g : SF) : Prop where
  ps : PSs X st t
  sn : ∀ (F : Fx) (S : AS) (H : Hp) (σ : St) (ρ : Rho) (D : Ends), F.K = X.K → F.Ok W.T → ER F S H σ ρ → PostS F W S H (g ρ) D → t D σ H
/-- an expression's outcome, then a statement's -/
def toS {α : Type} (o : Out α) (k : α → Rho → SO) : SO := match o with
  | .ok a ρ => k a ρ
  | .ex x ρ => .ex x ρ
  | .bad => .bad
def toSF (o : Out R) (k : PyData → Rho → SO) : SO := match o with
  | .ok r ρ => match freeze ρ r with
    | some (d, ρ') => k d ρ'
    | none => .bad
  | .ex x ρ => .ex x ρ
  | .bad => .bad
section
variable {X : Cx} {W : Wx} {e c : Expr} {te : TE} {tA : TT} {f : EF} {gA : TF} {F : Fx} {S : AS} {H : Hp} {σ : St} {ρ : Rho} {D : Ends}
theorem SE.goS (h : SE X W e te f) (hK : F.K = X.K) (fok : F.Ok W.T) (er : ER F S H σ ρ) {k : R → Rho → SO} (hp : PostS F W S H (toS (f ρ) k) D) {Q : VK}
    (hk : ∀ r ρ1 v S1 H1, Tr S H σ ρ S1 H1 ρ1 → ER F S1 H1 σ ρ1 → RR F S1 H1 σ ρ1 v r → Frsh H v r → PostS F W S1 H1 (k r ρ1) D → Q v H1) : te σ H Q := by
  refine h.sn F S H σ ρ Q hK fok er ?_
  cases q : f ρ with
  | ok r ρ1 =>
    rw [q] at hp
    exact fun v S1 H1 t1 er1 rr fr => hk r ρ1 v S1 H1 t1 er1 rr fr (hp.shift (t1.s er))
  | ex x ρ1 =>
    rw [q] at hp
    exact fun cls dx S1 H1 t1 er1 xr => hp cls dx σ S1 H1 (t1.s er) er1 xr
  | bad =>
    rw [q] at hp
    exact hp
theorem SE.goSF (h : SE X W e te f) (hK : F.K = X.K) (fok : F.Ok W.T) (er : ER F S H σ ρ) {k : PyData → Rho → SO} (hp : PostS F W S H (toSF (f ρ) k) D) {Q : VK}
    (hk : ∀ d ρ2 v S2 H1, Tr S H σ ρ S2 H1 ρ2 → ER F S2 H1 σ ρ2 → Rp F.K S2 H1 v d → PostS F W S2 H1 (k d ρ2) D → Q v H1) : te σ H Q := by
  refine h.sn F S H σ ρ Q hK fok er ?_
  cases q : f ρ with
  | ok r ρ1 =>
    rw [q] at hp
    intro v S1 H1 t1 er1 rr fr
    unfold toSF at hp
    cases z : freeze ρ1 r with
    | none =>
      simp only [z] at hp
      exact hp.elim
    | some p =>
      obtain ⟨d, ρ2⟩ := p
      simp only [z] at hp
      obtain ⟨S2, t2, er2, rp, _, _⟩ := freeze_ok er t1 er1 rr fr z fok
      exact hk d ρ2 v S2 H1 t2 er2 rp (hp.shift (t2.s er))
  | ex x ρ1 =>
    rw [q] at hp
    exact fun cls dx S1 H1 t1 er1 xr => hp cls dx σ S1 H1 (t1.s er) er1 xr
  | bad =>
    rw [q] at hp
    exact hp
theorem ST.goS (h : ST X W e tA gA) (hK : F.K = X.K) (fok : F.Ok W.T) (er : ER F S H σ ρ) {k : Bool → Rho → SO} (hp : PostS F W S H (toS (gA ρ) k) D) {Q : Bool → Hp → Prop}
    (hk : ∀ b ρ1 S1 H1, Tr S H σ ρ S1 H1 ρ1 → ER F S1 H1 σ ρ1 → PostS F W S1 H1 (k b ρ1) D → Q b H1) : tA σ H Q := by
  refine h.sn F S H σ ρ Q hK fok er ?_
  cases q : gA ρ with
  | ok b ρ1 =>
    rw [q] at hp
    exact fun S1 H1 t1 er1 => hk b ρ1 S1 H1 t1 er1 (hp.shift (t1.s er))
  | ex x ρ1 =>
    rw [q] at hp
    exact fun cls dx S1 H1 t1 er1 xr => hp cls dx σ S1 H1 (t1.s er) er1 xr
  | bad =>
    rw [q] at hp
    exact hp
end

/-! ### blocks -/
section
variable {X : Cx} {W : Wx} {st : Stmt} {rest : List Stmt} {t u : TS} {g h : SF} {e : Expr} {te : TE} {f : EF} {pos : Pos}
def gSkip : SF := fun ρ => .nx ρ
def gSeq (g h : SF) : SF := fun ρ => match g ρ with
  | .nx ρ1 => h ρ1
  | o => o
theorem ss_nil : SSs X W [] tNext gSkip := ⟨pss_nil, fun F S H σ ρ D _ _ er hp => hp σ S H .refl er⟩
theorem ss_cons (h1 : SS X W st t g) (h2 : SSs X W rest u h) : SSs X W (st :: rest) (tSeq t u) (gSeq g h) := by
  refine ⟨pss_cons h1.ps h2.ps, fun F S H σ ρ D hK fok er hp => ?_⟩
  refine h1.sn F S H σ ρ _ hK fok er ?_
  unfold gSeq at hp
  cases q : g ρ with
  | nx ρ1 =>
    rw [q] at hp
    exact fun σ' S' H' t' er' => h2.sn F S' H' σ' ρ1 D hK fok er' (hp.shift t')
  | rt r ρ1 => rw [q] at hp; exact hp
  | bk ρ1 => rw [q] at hp; exact hp
  | ct ρ1 => rw [q] at hp; exact hp
  | ex x ρ1 => rw [q] at hp; exact hp
  | bad => rw [q] at hp; exact hp
theorem ss_one (h1 : SS X W st t g) : SSs X W [st] t g := ⟨pss_one h1.ps, h1.sn⟩
theorem ss_pass : SS X W (.Pass pos) tNext gSkip := ⟨ps_pass, fun F S H σ ρ D _ _ er hp => hp σ S H .refl er⟩
/-- what isn't reached -/
def gNever : SF := fun _ => .bad
theorem ss_never : SS X W st tNever gNever := ⟨ps_never, fun _ _ _ _ _ _ _ _ _ hp => hp⟩
theorem sss_never {sts : List Stmt} : SSs X W sts tNever gNever := ⟨pss_never, fun _ _ _ _ _ _ _ _ _ hp => hp⟩
def gExpr (f : EF) : SF := fun ρ => toS (f ρ) fun _ ρ1 => .nx ρ1
theorem ss_expr (he : SE X W e te f) (hs : swapsWith e none pos.line X.env = pure false := by rfl) : SS X W (.Expr e pos) (tDrop te) (gExpr f) := by
  refine ⟨ps_expr he.pe hs, fun F S H σ ρ D hK fok er hp => ?_⟩
  exact he.goS hK fok er hp fun r ρ1 v S1 H1 t1 er1 rr _ hp1 => hp1 σ S1 H1 .refl er1
def gRet (f : EF) : SF := fun ρ => toS (f ρ) fun r ρ1 => .rt r ρ1
theorem ss_ret (he : SE X W e te f) : SS X W (.Return (some e) pos) (tRet te) (gRet f) := by
  refine ⟨ps_ret he.pe, fun F S H σ ρ D hK fok er hp => ?_⟩
  exact he.goS hK fok er hp fun r ρ1 v S1 H1 t1 er1 rr _ hp1 => hp1 v σ S1 H1 .refl er1 rr
def gRetN : SF := fun ρ => .rt (.val .none) ρ
theorem ss_retN : SS X W (.Return none pos) tRetN gRetN := ⟨ps_retN, fun F S H σ ρ D _ _ er hp => hp .non σ S H .refl er .non⟩
def gIf (t : TF) (g h : SF) : SF := fun ρ => toS (t ρ) fun b ρ1 => if b = true then g ρ1 else h ρ1
theorem ss_if {c : Expr} {a b : List Stmt} {tc : TT} {gc : TF} (hc : ST X W c tc gc) (ha : SSs X W a t g) (hb : SSs X W b u h) : SS X W (.If c a b pos) (tIfS tc t u) (gIf gc g h) := by
  refine ⟨ps_if hc.pt ha.ps hb.ps, fun F S H σ ρ D hK fok er hp => ?_⟩
  refine hc.goS hK fok er hp fun k ρ1 S1 H1 t1 er1 hp1 => ?_
  cases k with
  | true => exact iteT (ha.sn F S1 H1 σ ρ1 D hK fok er1 hp1)
  | false => exact iteF (hb.sn F S1 H1 σ ρ1 D hK fok er1 hp1)
end

/-! ### names stored -/
/-- a result comes to a slot -/
def toSlot : R → Option Slot
  | .val d => some (.val d)
  | .own m => some (.own m)
  | .slot _ => none
def isLent : Slot → Bool
  | .lent _ => true
  | .pin _ _ => true
  | .ins _ => true
  | _ => false
def storeR (i : Nat) (r : R) (ρ : Rho) : Option Rho := match ρ[i]? with
  | none => none
  | some s => if isLent s then none else (match r with
    | .val d => some (ρ.set i (.val d))
    | .own m => some (ρ.set i (.own m))
    | .slot j => (match freeze ρ (.slot j) with
      | some (d, ρ') => some (ρ'.set i (.val d))
      | none => none))
theorem ER.store {F : Fx} {S : AS} {H : Hp} {σ : St} {ρ : Rho} (er : ER F S H σ ρ) {i : Nat} {s0 s : Slot} {r : R} {v : V} (e : ρ[i]? = some s0) (hl : isLent s0 = false) (rr : RR F S H σ ρ v r) (hs : toSlot r = some s) : ER F S H (σ.set i (some v)) (ρ.set i s) := by
  have hi : i < ρ.length := (List.getElem?_eq_some_iff.mp e).1
  have hiσ : i < σ.length := by rw [← er.len]; exact hi
  have mu : ∀ j b, MutAt (σ.set i (some v)) (ρ.set i s) j b → (j ≠ i ∧ MutAt σ ρ j b) ∨ (j = i ∧ ∃ m, r = .own m ∧ v = .ref b) := fun j b ⟨⟨m, h1⟩, h2⟩ => by
    by_cases q : j = i
    · subst q
      rw [List.getElem?_set_self hi] at h1
      rw [List.getElem?_set_self hiσ] at h2
      cases h2
      refine .inr ⟨rfl, ?_⟩
      cases r with
      | val d => cases hs; rcases h1 with h1 | h1 | ⟨_, h1⟩ <;> cases h1
      | own m' => exact ⟨m', rfl, rfl⟩
      | slot k => cases hs
    · rw [List.getElem?_set_ne (Ne.symm q)] at h1
      rw [List.getElem?_set_ne (Ne.symm q)] at h2
      exact .inl ⟨q, ⟨m, h1⟩, h2⟩
  refine ⟨by rw [List.length_set, List.length_set]; exact er.len, fun j t et => ?_, fun j k b h1 h2 => ?_, er.sub, er.dom, er.fr, er.tb, er.st, fun j a h => ?_⟩
  · by_cases q : j = i
    · subst q
      rw [List.getElem?_set_self hi] at et
      cases et
      rw [List.getElem?_set_self hiσ]
      cases r with
      | val d => cases hs; exact ⟨v, rfl, rr⟩
      | own m => cases hs; obtain ⟨a, rfl, sa, f, ok, _⟩ := rr; exact ⟨a, rfl, sa, f, ok⟩
      | slot k => cases hs
    · rw [List.getElem?_set_ne (Ne.symm q)] at et
      rw [List.getElem?_set_ne (Ne.symm q)]
      exact er.at_ j t et
  · have no : ∀ (k : Nat) (m : MO), r = .own m → v = .ref b → ¬ MutAt σ ρ k b := fun k m er' ev z => by
      subst er'
      obtain ⟨a, ea, _, _, _, n⟩ := rr
      rw [ev] at ea
      cases ea
      exact n k z
    rcases mu j b h1 with ⟨n1, m1⟩ | ⟨q1, m1, r1, v1⟩
    · rcases mu k b h2 with ⟨n2, m2⟩ | ⟨q2, m2, r2, v2⟩
      · exact er.dj j k b m1 m2
      · exact absurd m1 (no j m2 r2 v2)
    · rcases mu k b h2 with ⟨n2, m2⟩ | ⟨q2, m2, r2, v2⟩
      · exact absurd m2 (no k m1 r1 v1)
      · rw [q1, q2]
  · obtain ⟨m, hm⟩ := er.lt j a h
    have q : i ≠ j := fun z => by
      subst z
      rw [e] at hm
      cases hm
      cases hl
    exact ⟨m, by rw [List.getElem?_set_ne q]; exact hm⟩
theorem store_ok {F : Fx} {S : AS} {H : Hp} {σ : St} {ρ ρ' : Rho} (er : ER F S H σ ρ) (fok : F.Ok T) {i : Nat} {r : R} {v : V} (rr : RR F S H σ ρ v r) (e : storeR i r ρ = some ρ') : ∃ S', TrS S H S' H ∧ ER F S' H (σ.set i (some v)) ρ' := by
  unfold storeR at e
  cases q : ρ[i]? with
  | none => simp [q] at e
  | some s0 =>
    simp only [q] at e
    by_cases hl : isLent s0 = true
    · rw [if_pos hl] at e; cases e
    · rw [if_neg hl] at e
      have hl : isLent s0 = false := by simpa using hl
      cases r with
      | val d => cases e; exact ⟨S, .refl, er.store q hl rr rfl⟩
      | own m => cases e; exact ⟨S, .refl, er.store q hl rr rfl⟩
      | slot j =>
        simp only at e
        cases z : freeze ρ (.slot j) with
        | none => simp [z] at e
        | some p =>
          obtain ⟨d, ρ1⟩ := p
          simp only [z, Option.some.injEq] at e
          subst e
          obtain ⟨S2, t2, er2, rp, le, _⟩ := freeze_ok er .refl er rr trivial z fok
          have q' : ∃ s1, ρ1[i]? = some s1 ∧ isLent s1 = false := by
            unfold freeze at z
            cases w : ρ[j]? with
            | none => simp [w] at z
            | some s =>
              cases s with
              | no => simp [w] at z
              | lent m => simp [w] at z
              | pin b m => simp [w] at z
              | ins g => simp [w] at z
              | val d' => simp only [w, Option.some.injEq, Prod.mk.injEq] at z; rw [← z.2]; exact ⟨s0, q, hl⟩
              | own m =>
                simp only [w, Option.some.injEq, Prod.mk.injEq] at z
                rw [← z.2]
                have hj : j < ρ.length := (List.getElem?_eq_some_iff.mp w).1
                by_cases y : j = i
                · subst y; exact ⟨_, List.getElem?_set_self hj, rfl⟩
                · exact ⟨s0, by rw [List.getElem?_set_ne y]; exact q, hl⟩
          obtain ⟨s1, q1, l1⟩ := q'
          exact ⟨S2, t2.s er, er2.store (r := .val d) q1 l1 rp rfl⟩
def gSet (i : Nat) (f : EF) : SF := fun ρ => toS (f ρ) fun r ρ1 => match storeR i r ρ1 with
  | some ρ2 => .nx ρ2
  | none => .bad
section
variable {X : Cx} {W : Wx} {e : Expr} {te : TE} {f : EF} {pos pos' : Pos} {x : Str}
theorem ss_set {i : Nat} (hN : X.N.Nodup) (hi : X.N[i]? = some x) (hx : Loc X.env.scope x) (he : SE X W e te f) (hs : swapsWith e (some (.Name x pos')) pos.line X.env = pure false := by rfl) (hf : X.fn x = true ∨ X.env.scope.names.lookup x = some .local := by first | exact .inl rfl | exact .inr rfl | assumption) :
    SS X W (.Assign [.Name x pos'] e pos) (tAsg te (gName i)) (gSet i f) := by
  refine ⟨ps_set hN hi hx he.pe hs hf, fun F S H σ ρ D hK fok er hp => ?_⟩
  refine he.goS hK fok er hp fun r ρ1 v S1 H1 t1 er1 rr _ hp1 => ?_
  have hp1 : PostS F W S1 H1 (match storeR i r ρ1 with | some ρ2 => .nx ρ2 | none => .bad) D := hp1
  cases q : storeR i r ρ1 with
  | none => simp only [q] at hp1; exact hp1.elim
  | some ρ2 =>
    simp only [q] at hp1
    obtain ⟨S2, t2, er2⟩ := store_ok er1 fok rr q
    exact hp1 _ S2 H1 t2 er2
end

/-! ### targets of data -/
abbrev GF := PyData → Rho → Option Rho
/-- the slots of is alone may have changed, to values -/
structure Asg (is : List Nat) (σ : St) (ρ : Rho) (σ' : St) (ρ' : Rho) : Prop where
  len : σ'.length = σ.length
  out : ∀ j, j ∉ is → σ'[j]? = σ[j]?
  mu : ∀ i a, MutAt σ' ρ' i a → MutAt σ ρ i a
structure SG (X : Cx) (tg : Expr) (t : TG) (g : GF) (is : List Nat) : Prop where
  pg : PG X tg t
  sn : ∀ (F : Fx) (S : AS) (H : Hp) (σ : St) (ρ ρ' : Rho) (v : V) (d : PyData) (Q : St → Hp → Prop), F.K = X.K → F.Ok (fun _ => False) → ER F S H σ ρ → Rp F.K S H v d → g d ρ = some ρ' → (∀ σ', Asg is σ ρ σ' ρ' → ER F S H σ' ρ' → Q σ' H) → t v σ H Q
abbrev GsF := List PyData → Rho → Option Rho
structure SGs (X : Cx) (ts : List Expr) (t : TGs) (g : GsF) (is : List Nat) : Prop where
  pg : PGs X ts t
  sn : ∀ (F : Fx) (S : AS) (H : Hp) (σ : St) (ρ ρ' : Rho) (vs : List V) (ds : List PyData) (Q : St → Hp → Prop), F.K = X.K → F.Ok (fun _ => False) → ER F S H σ ρ → RpA F.K S H vs ds → g ds ρ = some ρ' → (∀ σ', Asg is σ ρ σ' ρ' → ER F S H σ' ρ' → Q σ' H) → t vs σ H Q
def gtName (i : Nat) : GF := fun d ρ => match ρ[i]? with
  | none => none
  | some s => if isLent s then none else some (ρ.set i (.val d))
def gtNil : GsF := fun ds ρ => match ds with
  | [] => some ρ
  | _ => none
def gtCons (g : GF) (gs : GsF) : GsF := fun ds ρ => match ds with
  | d :: ds => (match g d ρ with
    | some ρ1 => gs ds ρ1
    | none => none)
  | [] => none
def gtTup (n : Nat) (gs : GsF) : GF := fun d ρ => match d with
  | .tuple ds => if ds.length = n then gs ds ρ else none
  | _ => none
section
variable {X : Cx} {x : Str} {pos : Pos} {e : Expr} {es : List Expr} {t : TG} {u : TGs} {g : GF} {gs : GsF} {is js : List Nat}
theorem sg_name {i : Nat} (hN : X.N.Nodup) (hi : X.N[i]? = some x) (hx : Loc X.env.scope x) (hf : X.fn x = true ∨ X.env.scope.names.lookup x = some .local := by first | exact .inl rfl | exact .inr rfl | assumption) : SG X (.Name x pos) (gName i) (gtName i) [i] := by
  refine ⟨pg_name hN hi hx hf, fun F S H σ ρ ρ' v d Q hK fok er rp e k => ?_⟩
  unfold gtName at e
  cases q : ρ[i]? with
  | none => simp [q] at e
  | some s =>
    simp only [q] at e
    by_cases hl : isLent s = true
    · rw [if_pos hl] at e; cases e
    · rw [if_neg hl] at e
      cases e
      exact k _ ⟨List.length_set, fun j hj => List.getElem?_set_ne (fun z => hj (by simp [z])), fun j a ⟨⟨m, h1⟩, h2⟩ => by
        have hi' : i < ρ.length := (List.getElem?_eq_some_iff.mp q).1
        by_cases y : i = j
        · subst y
          rw [List.getElem?_set_self hi'] at h1
          rcases h1 with h1 | h1 | ⟨_, h1⟩ <;> cases h1
        · rw [List.getElem?_set_ne y] at h1
          rw [List.getElem?_set_ne y] at h2
          exact ⟨⟨m, h1⟩, h2⟩⟩ (er.store (r := .val d) q (by simpa using hl) rp rfl)
theorem sgs_nil : SGs X [] gNil gtNil [] := by
  refine ⟨pgs_nil, fun F S H σ ρ ρ' vs ds Q hK fok er rp e k => ?_⟩
  cases rp with
  | nil => cases e; exact ⟨rfl, k σ ⟨rfl, fun _ _ => rfl, fun _ _ z => z⟩ er⟩
  | cons _ _ => cases e
theorem sgs_cons (h1 : SG X e t g is) (h2 : SGs X es u gs js) (hs : (assignEach (e :: es) X.env).map (·.2) = assign e X.env :: (assignEach es X.env).map (·.2) := by rfl) : SGs X (e :: es) (gCons t u) (gtCons g gs) (is ++ js) := by
  refine ⟨pgs_cons h1.pg h2.pg hs, fun F S H σ ρ ρ' vs ds Q hK fok er rp e k => ?_⟩
  cases rp with
  | nil => cases e
  | cons r1 r2 =>
    rename_i v vs d ds
    simp only [gtCons] at e
    cases q : g d ρ with
    | none => simp [q] at e
    | some ρ1 =>
      simp only [q] at e
      refine ⟨v, vs, rfl, h1.sn F S H σ ρ ρ1 v d _ hK fok er r1 q fun σ1 o1 er1 => ?_⟩
      exact h2.sn F S H σ1 ρ1 ρ' vs ds Q hK fok er1 r2 e fun σ2 o2 er2 => k σ2 ⟨o2.len.trans o1.len, fun j hj => by
        rw [List.mem_append, not_or] at hj
        exact (o2.out j hj.2).trans (o1.out j hj.1), fun i a z => o1.mu i a (o2.mu i a z)⟩ er2
theorem sg_tup {k n : Nat} (hc : X.calm = true) (h : SGs X es u gs is) (hn : (assignEach es X.env).length = n := by rfl) (hst : (assignEach es X.env).findIdx? (·.1) = none := by rfl) : SG X (.Tuple es k pos) (gTup X.K n u) (gtTup n gs) is := by
  refine ⟨pg_tup hc h.pg hn hst, fun F S H σ ρ ρ' v d Q hK fok er rp e kk => ?_⟩
  cases d with
  | tuple ds =>
    simp only [gtTup] at e
    by_cases q : ds.length = n
    · rw [if_pos q] at e
      cases rp with
      | tup na ha hs => exact ⟨_, _, rfl, SqT.of ha, by rw [hs.length]; exact q, h.sn F S H σ ρ ρ' _ ds Q hK fok er hs e kk⟩
    · rw [if_neg q] at e; cases e
  | _ => simp [gtTup] at e
def gAsg (f : EF) (g : GF) : SF := fun ρ => toSF (f ρ) fun d ρ1 => match g d ρ1 with
  | some ρ2 => .nx ρ2
  | none => .bad
theorem ss_asg {W : Wx} {tg e : Expr} {te : TE} {f : EF} (he : SE X W e te f) (hg : SG X tg t g is) (hs : swapsWithSole [tg] e pos.line X.env = pure false := by rfl) (hw : swappedStores [tg] e X.env = pure none := by rfl)
    (h1 : (assignEach [tg] X.env).map (·.2) = [assign tg X.env] := by rfl) : SS X W (.Assign [tg] e pos) (tAsg te t) (gAsg f g) := by
  refine ⟨ps_asg he.pe hg.pg hs hw h1, fun F S H σ ρ D hK fok er hp => ?_⟩
  refine he.goSF hK fok er hp fun d ρ1 v S1 H1 t1 er1 rp hp1 => ?_
  have hp1 : PostS F W S1 H1 (match g d ρ1 with | some ρ2 => .nx ρ2 | none => .bad) D := hp1
  cases q : g d ρ1 with
  | none => simp only [q] at hp1; exact hp1.elim
  | some ρ2 =>
    simp only [q] at hp1
    exact hg.sn F S1 H1 σ ρ1 ρ2 v d _ hK fok.nil er1 rp q fun σ' _ er2 => hp1 σ' S1 H1 .refl er2
end
end Pv
set_option maxRecDepth 100000
/-! PvI: several names at once, stores into lists and dicts, append, pop, loops, a def's body. -/
namespace Pv
open PySem PySem.Spec L2

/-! ### a, b = e1, e2 -/
def FrD (H : Hp) : List V → List R → Prop
  | [], [] => True
  | v :: vs, r :: rs => Frsh H v r ∧ FrD H vs rs ∧ ∀ (a : Addr) (m : MO), r = .own m → v = .ref a → ∀ (j : Nat) (m' : MO), rs[j]? = some (.own m') → vs[j]? ≠ some (V.ref a)
  | _, _ => False
/-- values and new things alone -/
def plainR : R → Bool
  | .slot _ => false
  | _ => true
def PostO (F : Fx) (W : Wx) (S : AS) (H : Hp) (σ : St) (ρ : Rho) (o : Out (List R)) (Q : List V → Hp → Prop) : Prop := match o with
  | .ok rs ρ' => ∀ vs S' H', Tr S H σ ρ S' H' ρ' → ER F S' H' σ ρ' → RRs F S' H' σ ρ' vs rs → FrD H vs rs → Q vs H'
  | .ex x ρ' => ∀ cls dx S' H', Tr S H σ ρ S' H' ρ' → ER F S' H' σ ρ' → XR F S' H' x cls dx → W.w cls dx σ H'
  | .bad => False
structure SAo (X : Cx) (W : Wx) (es : List Expr) (t : TA) (f : RF) : Prop where
  pa : PA X es t
  sn : ∀ (F : Fx) (S : AS) (H : Hp) (σ : St) (ρ : Rho) (Q : List V → Hp → Prop), F.K = X.K → F.Ok W.T → ER F S H σ ρ → PostO F W S H σ ρ (f ρ) Q → t σ H Q
theorem RRs.get {F : Fx} {S : AS} {H : Hp} {σ : St} {ρ : Rho} : ∀ {vs : List V} {rs : List R} {i : Nat} {r : R}, RRs F S H σ ρ vs rs → rs[i]? = some r → ∃ v, vs[i]? = some v ∧ RR F S H σ ρ v r
  | _, _, _, _, .nil, e => by simp at e
  | _, _, 0, _, .cons h _, e => by simp at e; subst e; exact ⟨_, rfl, h⟩
  | _, _, i + 1, _, .cons _ hs, e => by
    obtain ⟨v, h1, h2⟩ := RRs.get (i := i) hs (by simpa using e)
    exact ⟨v, by simpa using h1, h2⟩
theorem FrD.up {H H1 : Hp} (st : ∀ a, H a ≠ none → H1 a ≠ none) : ∀ {vs : List V} {rs : List R}, FrD H1 vs rs → FrD H vs rs
  | [], [], _ => trivial
  | [], _ :: _, h => h.elim
  | _ :: _, [], h => h.elim
  | v :: vs, r :: rs, ⟨h1, h2, h3⟩ => ⟨by
      cases r with
      | own m =>
        intro a e
        cases q : H a with
        | none => rfl
        | some o => exact absurd (h1 a e) (st a (by rw [q]; exact fun z => nomatch z))
      | val d => trivial
      | slot i => trivial, h2.up st, h3⟩
theorem FrD.at {H : Hp} : ∀ {vs : List V} {rs : List R} {j : Nat} {m : MO} {a : Addr}, FrD H vs rs → rs[j]? = some (.own m) → vs[j]? = some (.ref a) → H a = none
  | [], [], _, _, _, _, e, _ => by simp at e
  | [], _ :: _, _, _, _, h, _, _ => h.elim
  | _ :: _, [], _, _, _, h, _, _ => h.elim
  | v :: vs, r :: rs, 0, m, a, ⟨h1, _, _⟩, e, e2 => by
    simp at e e2
    subst e e2
    exact h1 a rfl
  | v :: vs, r :: rs, j + 1, m, a, ⟨_, h2, _⟩, e, e2 => FrD.at (j := j) h2 (by simpa using e) (by simpa using e2)
/-- a slot's thing is given away -/
def oCons (fa : EF) (fr : RF) : RF := fun ρ => (fa ρ).bind fun r ρ1 => if plainR r = true then ((fr ρ1).bind fun rs ρ2 => .ok (r :: rs) ρ2) else (match freeze ρ1 r with
  | some (d, ρ2) => (fr ρ2).bind fun rs ρ3 => .ok (.val d :: rs) ρ3
  | none => .bad)
section
variable {X : Cx} {W : Wx} {e : Expr} {es : List Expr} {te : TE} {t : TA} {f : EF} {fr : RF}
theorem so_nil : SAo X W [] tNil rNil := ⟨pa_nil, fun F S H σ ρ Q _ _ er hp => hp [] S H .refl er .nil trivial⟩
theorem so_cons (ha : SE X W e te f) (hr : SAo X W es t fr) (hs : starEach (e :: es) X.env = (false, eval e X.env) :: starEach es X.env := by rfl) : SAo X W (e :: es) (tCons te t) (oCons f fr) := by
  refine ⟨pa_cons ha.pe hr.pa hs, fun F S H σ ρ Q hK fok er hp => ?_⟩
  have fin : ∀ (r' : R) (ρ1 : Rho) (v : V) (S1 : AS) (H1 : Hp), Tr S H σ ρ S1 H1 ρ1 → ER F S1 H1 σ ρ1 → RR F S1 H1 σ ρ1 v r' → Frsh H v r' → PostO F W S H σ ρ ((fr ρ1).bind fun rs ρ2 => .ok (r' :: rs) ρ2) Q → t σ H1 (fun xs H2 => Q (v :: xs) H2) := by
    intro r' ρ1 v S1 H1 t1 er1 rr1 fr1 hp1
    refine hr.sn F S1 H1 σ ρ1 _ hK fok er1 ?_
    cases q : fr ρ1 with
    | ok rs ρ2 =>
      rw [q] at hp1
      intro vs S2 H2 t2 er2 rr2 fd
      refine hp1 (v :: vs) S2 H2 (t1.trans er t2) er2 (.cons (rr1.tr er1 t2 (er2.len.trans er1.len.symm)) rr2) ⟨fr1, fd.up t1.stay, fun a m em ev j m' ej ez => ?_⟩
      subst em ev
      have h1 : H1 a = none := fd.at ej ez
      obtain ⟨b, eb, sb, _⟩ := rr1
      cases eb
      exact er1.dom a sb h1
    | ex x ρ2 => rw [q] at hp1; exact fun cls dx S2 H2 t2 er2 xr => hp1 cls dx S2 H2 (t1.trans er t2) er2 xr
    | bad => rw [q] at hp1; exact hp1
  refine ha.sn F S H σ ρ _ hK fok er ?_
  unfold oCons at hp
  cases q : f ρ with
  | ex x ρ1 => rw [q] at hp; exact hp
  | bad => rw [q] at hp; exact hp
  | ok r ρ1 =>
    rw [q] at hp
    intro v S1 H1 t1 er1 rr1 fr1
    by_cases pl : plainR r = true
    · have hp : PostO F W S H σ ρ (if plainR r = true then ((fr ρ1).bind fun rs ρ2 => .ok (r :: rs) ρ2) else (match freeze ρ1 r with | some (d, ρ2) => (fr ρ2).bind fun rs ρ3 => .ok (.val d :: rs) ρ3 | none => .bad)) Q := hp
      rw [if_pos pl] at hp
      exact fin r ρ1 v S1 H1 t1 er1 rr1 fr1 hp
    · have hp : PostO F W S H σ ρ (if plainR r = true then ((fr ρ1).bind fun rs ρ2 => .ok (r :: rs) ρ2) else (match freeze ρ1 r with | some (d, ρ2) => (fr ρ2).bind fun rs ρ3 => .ok (.val d :: rs) ρ3 | none => .bad)) Q := hp
      rw [if_neg pl] at hp
      cases z : freeze ρ1 r with
      | none => simp only [z] at hp; exact hp.elim
      | some p =>
        obtain ⟨d, ρ2⟩ := p
        simp only [z] at hp
        obtain ⟨S2, t2, er2, rp, _, _⟩ := freeze_ok er t1 er1 rr1 fr1 z fok
        exact fin (.val d) ρ2 v S2 H1 t2 er2 rp trivial hp
end
/-- new values come to slots -/
def storeP (i : Nat) (r : R) (ρ : Rho) : Option Rho := match ρ[i]?, toSlot r with
  | some s0, some s => if isLent s0 then none else some (ρ.set i s)
  | _, _ => none
theorem storeP_ok {F : Fx} {S : AS} {H : Hp} {σ : St} {ρ ρ' : Rho} (er : ER F S H σ ρ) {i : Nat} {r : R} {v : V} (rr : RR F S H σ ρ v r) (e : storeP i r ρ = some ρ') : ER F S H (σ.set i (some v)) ρ' ∧ ρ'.length = ρ.length ∧
    ∀ j b, MutAt (σ.set i (some v)) ρ' j b → MutAt σ ρ j b ∨ ∃ m, r = .own m ∧ v = .ref b := by
  unfold storeP at e
  cases q : ρ[i]? with
  | none => simp [q] at e
  | some s0 =>
    cases z : toSlot r with
    | none => simp [q, z] at e
    | some s =>
      simp only [q, z] at e
      by_cases hl : isLent s0 = true
      · rw [if_pos hl] at e; cases e
      · rw [if_neg hl] at e
        cases e
        have hi : i < ρ.length := (List.getElem?_eq_some_iff.mp q).1
        have hiσ : i < σ.length := by rw [← er.len]; exact hi
        refine ⟨er.store q (by simpa using hl) rr z, List.length_set, fun j b ⟨⟨m, h1⟩, h2⟩ => ?_⟩
        by_cases y : i = j
        · subst y
          rw [List.getElem?_set_self hi] at h1
          rw [List.getElem?_set_self hiσ] at h2
          cases h2
          cases r with
          | val d => cases z; rcases h1 with h1 | h1 | ⟨_, h1⟩ <;> cases h1
          | own m' => exact .inr ⟨m', rfl, rfl⟩
          | slot k => cases z
        · rw [List.getElem?_set_ne y] at h1
          rw [List.getElem?_set_ne y] at h2
          exact .inl ⟨⟨m, h1⟩, h2⟩
/-- a result beside a slot that has been stored -/
theorem RR.past {F : Fx} {S : AS} {H : Hp} {σ σ' : St} {ρ ρ' : Rho} {r r0 : R} {v v0 : V} (h : RR F S H σ ρ v r) (hp : plainR r = true) (mu : ∀ j b, MutAt σ' ρ' j b → MutAt σ ρ j b ∨ ∃ m, r0 = .own m ∧ v0 = .ref b) (ne : ∀ a m m', r0 = .own m → v0 = .ref a → r = .own m' → v ≠ .ref a) : RR F S H σ' ρ' v r := by
  cases r with
  | val d => exact h
  | slot i => cases hp
  | own m =>
    obtain ⟨a, e, s, f, ok, n⟩ := h
    refine ⟨a, e, s, f, ok, fun i z => ?_⟩
    rcases mu i a z with z | ⟨m', e1, e2⟩
    · exact n i z
    · exact ne a m' m e1 e2 rfl e
def gPar2 (i j : Nat) (fr : RF) : SF := fun ρ => toS (fr ρ) fun rs ρ1 => match rs with
  | [r, q] => if plainR r && plainR q then (match storeP i r ρ1 with
    | some ρ2 => (match storeP j q ρ2 with
      | some ρ3 => .nx ρ3
      | none => .bad)
    | none => .bad) else .bad
  | _ => .bad
def gPar3 (i j l : Nat) (fr : RF) : SF := fun ρ => toS (fr ρ) fun rs ρ1 => match rs with
  | [r, q, u] => if plainR r && plainR q && plainR u then (match storeP i r ρ1 with
    | some ρ2 => (match storeP j q ρ2 with
      | some ρ3 => (match storeP l u ρ3 with
        | some ρ4 => .nx ρ4
        | none => .bad)
      | none => .bad)
    | none => .bad) else .bad
  | _ => .bad
section
variable {X : Cx} {W : Wx} {ta : TA} {fr : RF}
theorem sn_par2 {es : List Expr} {i j : Nat} (ha : SAo X W es ta fr) : ∀ (F : Fx) (S : AS) (H : Hp) (σ : St) (ρ : Rho) (D : Ends), F.K = X.K → F.Ok W.T → ER F S H σ ρ → PostS F W S H (gPar2 i j fr ρ) D → tPar i j ta D σ H := by
  intro F S H σ ρ D hK fok er hp
  refine ha.sn F S H σ ρ _ hK fok er ?_
  unfold gPar2 at hp
  cases q : fr ρ with
  | ex x ρ1 => rw [q] at hp; exact fun cls dx S1 H1 t1 er1 xr => hp cls dx σ S1 H1 (t1.s er) er1 xr
  | bad => rw [q] at hp; exact hp
  | ok rs ρ1 =>
    rw [q] at hp
    intro vs S1 H1 t1 er1 rr1 fd
    match rs, rr1, fd, hp with
    | [r, u], .cons (v := v) h1 (.cons (v := w) h2 .nil), ⟨f1, f2, f3⟩, hp =>
      have hp1 := PostS.shift (t1.s er) hp
      simp only [toS] at hp1
      by_cases pl : (plainR r && plainR u) = true
      · rw [if_pos pl] at hp1
        rw [Bool.and_eq_true] at pl
        cases q1 : storeP i r ρ1 with
        | none => simp only [q1] at hp1; exact hp1.elim
        | some ρ2 =>
          simp only [q1] at hp1
          obtain ⟨er2, l2, mu2⟩ := storeP_ok er1 h1 q1
          have h2' : RR F S1 H1 (σ.set i (some v)) ρ2 w u := h2.past pl.2 mu2 fun a m m' e1 e2 e3 e4 => f3 a m e1 e2 0 m' (by rw [e3]; rfl) (by rw [e4]; rfl)
          cases q2 : storeP j u ρ2 with
          | none => simp only [q2] at hp1; exact hp1.elim
          | some ρ3 =>
            simp only [q2] at hp1
            obtain ⟨er3, _, _⟩ := storeP_ok er2 h2' q2
            exact ⟨v, w, rfl, hp1 _ S1 H1 .refl er3⟩
      · rw [if_neg pl] at hp1
        exact hp1.elim
    | [], .nil, _, hp => exact hp.elim
    | [_], .cons _ .nil, _, hp => exact hp.elim
    | _ :: _ :: _ :: _, .cons _ (.cons _ (.cons _ _)), _, hp => exact hp.elim
theorem sn_par3 {es : List Expr} {i j l : Nat} (ha : SAo X W es ta fr) : ∀ (F : Fx) (S : AS) (H : Hp) (σ : St) (ρ : Rho) (D : Ends), F.K = X.K → F.Ok W.T → ER F S H σ ρ → PostS F W S H (gPar3 i j l fr ρ) D → tPar3 i j l ta D σ H := by
  intro F S H σ ρ D hK fok er hp
  refine ha.sn F S H σ ρ _ hK fok er ?_
  unfold gPar3 at hp
  cases q : fr ρ with
  | ex x ρ1 => rw [q] at hp; exact fun cls dx S1 H1 t1 er1 xr => hp cls dx σ S1 H1 (t1.s er) er1 xr
  | bad => rw [q] at hp; exact hp
  | ok rs ρ1 =>
    rw [q] at hp
    intro vs S1 H1 t1 er1 rr1 fd
    match rs, rr1, fd, hp with
    | [r, u, y], .cons (v := v) h1 (.cons (v := w) h2 (.cons (v := z) h3 .nil)), ⟨f1, ⟨g1, g2, g3⟩, f3⟩, hp =>
      have hp1 := PostS.shift (t1.s er) hp
      simp only [toS] at hp1
      by_cases pl : (plainR r && plainR u && plainR y) = true
      · rw [if_pos pl] at hp1
        rw [Bool.and_eq_true, Bool.and_eq_true] at pl
        cases q1 : storeP i r ρ1 with
        | none => simp only [q1] at hp1; exact hp1.elim
        | some ρ2 =>
          simp only [q1] at hp1
          obtain ⟨er2, l2, mu2⟩ := storeP_ok er1 h1 q1
          have h2' : RR F S1 H1 (σ.set i (some v)) ρ2 w u := h2.past pl.1.2 mu2 fun a m m' e1 e2 e3 e4 => f3 a m e1 e2 0 m' (by rw [e3]; rfl) (by rw [e4]; rfl)
          have h3' : RR F S1 H1 (σ.set i (some v)) ρ2 z y := h3.past pl.2 mu2 fun a m m' e1 e2 e3 e4 => f3 a m e1 e2 1 m' (by rw [e3]; rfl) (by rw [e4]; rfl)
          cases q2 : storeP j u ρ2 with
          | none => simp only [q2] at hp1; exact hp1.elim
          | some ρ3 =>
            simp only [q2] at hp1
            obtain ⟨er3, _, mu3⟩ := storeP_ok er2 h2' q2
            have h3'' : RR F S1 H1 ((σ.set i (some v)).set j (some w)) ρ3 z y := h3'.past pl.2 mu3 fun a m m' e1 e2 e3 e4 => g3 a m e1 e2 0 m' (by rw [e3]; rfl) (by rw [e4]; rfl)
            cases q3 : storeP l y ρ3 with
            | none => simp only [q3] at hp1; exact hp1.elim
            | some ρ4 =>
              simp only [q3] at hp1
              obtain ⟨er4, _, _⟩ := storeP_ok er3 h3'' q3
              exact ⟨v, w, z, rfl, hp1 _ S1 H1 .refl er4⟩
      · rw [if_neg pl] at hp1
        exact hp1.elim
    | [], .nil, _, hp => exact hp.elim
    | [_], .cons _ .nil, _, hp => exact hp.elim
    | [_, _], .cons _ (.cons _ .nil), _, hp => exact hp.elim
    | _ :: _ :: _ :: _ :: _, .cons _ (.cons _ (.cons _ (.cons _ _))), _, hp => exact hp.elim
theorem ss_par2 {i j : Nat} {x y : Str} {a b : Expr} {px py pt pos : Pos} {kt k2 pt2} (hc : X.calm = true) (hN : X.N.Nodup) (hi : X.N[i]? = some x) (hj : X.N[j]? = some y) (hij : i ≠ j)
    (hx : X.env.scope.names.lookup x = some .local) (hy : X.env.scope.names.lookup y = some .local) (ha : SAo X W [a, b] ta fr)
    (hw : swappedStores [.Tuple [.Name x px, .Name y py] kt pt] (.Tuple [a, b] k2 pt2) X.env = pure (some [x, y]))
    (hs : swapsWithSole [.Tuple [.Name x px, .Name y py] kt pt] (.Tuple [a, b] k2 pt2) pos.line X.env = pure false := by rfl) :
    SS X W (.Assign [.Tuple [.Name x px, .Name y py] kt pt] (.Tuple [a, b] k2 pt2) pos) (tPar i j ta) (gPar2 i j fr) := ⟨ps_par hc hN hi hj hij hx hy ha.pa hw hs, sn_par2 ha⟩
theorem ss_par3 {i j l : Nat} {x y z : Str} {a b c : Expr} {px py pz pt pos : Pos} {kt k2 pt2} (hc : X.calm = true) (hN : X.N.Nodup) (hi : X.N[i]? = some x) (hj : X.N[j]? = some y) (hl : X.N[l]? = some z) (hij : i ≠ j) (hil : i ≠ l) (hjl : j ≠ l)
    (hx : X.env.scope.names.lookup x = some .local) (hy : X.env.scope.names.lookup y = some .local) (hz : X.env.scope.names.lookup z = some .local) (ha : SAo X W [a, b, c] ta fr)
    (hw : swappedStores [.Tuple [.Name x px, .Name y py, .Name z pz] kt pt] (.Tuple [a, b, c] k2 pt2) X.env = pure (some [x, y, z]))
    (hs : swapsWithSole [.Tuple [.Name x px, .Name y py, .Name z pz] kt pt] (.Tuple [a, b, c] k2 pt2) pos.line X.env = pure false := by rfl) :
    SS X W (.Assign [.Tuple [.Name x px, .Name y py, .Name z pz] kt pt] (.Tuple [a, b, c] k2 pt2) pos) (tPar3 i j l ta) (gPar3 i j l fr) := ⟨ps_par3 hc hN hi hj hl hij hil hjl hx hy hz ha.pa hw hs, sn_par3 ha⟩
end

/-! ### x[i] = e, x.append(e), x.pop() on a thing of a slot -/
def withSlot (ρ : Rho) (r : R) (k : Nat → Slot → MO → Option Rho) : Option Rho := match r with
  | .slot j => (match ρ[j]? with
    | some s => (match s.mo with
      | some m => k j s m
      | none => none)
    | none => none)
  | _ => none
theorem withSlot_some {ρ ρ' : Rho} {r : R} {k : Nat → Slot → MO → Option Rho} (h : withSlot ρ r k = some ρ') : ∃ j s m, r = .slot j ∧ ρ[j]? = some s ∧ s.mo = some m ∧ k j s m = some ρ' := by
  unfold withSlot at h
  cases r with
  | val d => cases h
  | own m => cases h
  | slot j =>
    simp only at h
    cases q : ρ[j]? with
    | none => simp [q] at h
    | some s =>
      simp only [q] at h
      cases z : s.mo with
      | none => simp [z] at h
      | some m =>
        simp only [z] at h
        exact ⟨j, s, m, rfl, q, z, h⟩
section
variable {F : Fx} {S : AS} {H : Hp} {σ : St} {ρ : Rho}
/-- a list's thing written -/
theorem ER.wLst (er : ER F S H σ ρ) {j : Nat} {s : Slot} {ds es : List PyData} {a : Addr} {vs : List V} (e : ρ[j]? = some s) (em : s.mo = some (.lst ds)) (ea : σ[j]? = some (some (.ref a))) (h : RpA F.K S H vs es) :
    Tr S H σ ρ S (upd H a (.lst vs)) (ρ.set j (s.put (.lst es))) ∧ ER F S (upd H a (.lst vs)) σ (ρ.set j (s.put (.lst es))) := by
  obtain ⟨b, eb, sb, _, ok0, mb⟩ := er.mo e em
  rw [ea] at eb; cases eb
  have ne : s.put (.lst es) ≠ .no := by rcases Slot.mo_cases em with q | q | ⟨_, q⟩ <;> (subst q; exact fun z => nomatch z)
  have off : ∀ b o', NT o' → H b = some o' → ¬ S b → upd H a (.lst vs) b = some o' := fun b o' _ e n => by
    rw [upd_ne fun z => n (by rw [z]; exact sb)]
    exact e
  exact ⟨Tr.write mb ne (MOk.nt ok0), er.write e em ea ⟨vs, upd_same, h.mono off fun _ z => .inl z⟩⟩
end
def appD (j : Nat) (s : Slot) (d : PyData) : MO → Rho → Option Rho
  | .lst ds, ρ => if ds.length < 16777216 then some (ρ.set j (s.put (.lst (ds ++ [d])))) else none
  | _, _ => none
def isLst (ρ : Rho) (r : R) : Bool := match deref ρ r with
  | some (.list _) => true
  | _ => false
def fAppend (fo fa : EF) : EF := fun ρ => (fo ρ).bind fun r ρ1 => if isLst ρ1 r = true then bindF (fa ρ1) fun d ρ2 => (match withSlot ρ2 r fun j s m => appD j s d m ρ2 with
  | some ρ3 => .ok (.val .none) ρ3
  | none => .bad) else .bad
theorem isLst_ty {F : Fx} {S : AS} {H : Hp} {σ : St} {ρ : Rho} {r : R} {v : V} (rr : RR F S H σ ρ v r) (er : ER F S H σ ρ) (h : isLst ρ r = true) : tyV F.K "list" v H := by
  unfold isLst at h
  cases q : deref ρ r with
  | none => simp [q] at h
  | some d =>
    cases d with
    | list ds =>
      obtain ⟨a, xs, rfl, hs, _⟩ := (rr.rt er q).list
      exact .inl ⟨rfl, xs, hs⟩
    | _ => simp [q] at h
section
variable {X : Cx} {W : Wx} {o e : Expr} {to te : TE} {fo fe : EF} {apos cpos pos : Pos}
theorem se_append (ho : SE X W o to fo) (he : SE X W e te fe) (hbase : attributeBase o "append" X.env (eval o X.env) = eval o X.env := by rfl)
    (hfew : ((backTo cpos (starEach [e] X.env)).all (fun x => !x.1) && (backToKw cpos (keywordEach [] X.env)).all (fun x => x.1.isSome)
      && decide ([e].length + ([] : List Keyword).length + (if ([] : List Keyword).isEmpty then 0 else 1) < 30)) = true := by rfl)
    (hline : (apos.endLine == cpos.line) = true := by rfl) (hs : starEach [e] X.env = (false, eval e X.env) :: starEach [] X.env := by rfl) (hplain : (backTo cpos (starEach [] X.env)).any (·.1) = false := by rfl) :
    SE X W (.Call (.Attribute o "append" apos) [e] [] cpos) (tBM X.K "list" rAppend to (tCons te tNil)) (fAppend fo fe) := by
  refine ⟨pe_bm PySem.F.plainAttrs_list PySem.F.slot_list_append PySem.F.type_list_append mt_append ho.pe (pa_cons he.pe pa_nil hs) hbase hfew hline hs hplain, fun F S H σ ρ Q hK fok er hp => ?_⟩
  refine ho.go hK fok er (wE F W σ Q) hp fun r ρ1 v S1 H1 t1 er1 rr1 _ hp1 => ?_
  by_cases hl : isLst ρ1 r = true
  · have hp1 : PostE F W S1 H1 σ ρ1 (bindF (fe ρ1) fun d ρ2 => (match withSlot ρ2 r fun j s m => appD j s d m ρ2 with | some ρ3 => .ok (.val .none) ρ3 | none => .bad)) Q := by
      have z := hp1
      simp only [hl, if_true] at z
      exact z
    refine ⟨by rw [← hK]; exact isLst_ty rr1 er1 hl, he.goF hK fok er1 (wE F W σ Q) hp1 fun d ρ2 w S2 H2 t2 er2 rp2 hp2 => ?_⟩
    have hp2 : PostE F W S2 H2 σ ρ2 (match withSlot ρ2 r fun j s m => appD j s d m ρ2 with | some ρ3 => .ok (.val .none) ρ3 | none => .bad) Q := hp2
    cases q : withSlot ρ2 r fun j s m => appD j s d m ρ2 with
    | none => simp only [q] at hp2; exact hp2.elim
    | some ρ3 =>
      simp only [q] at hp2
      obtain ⟨j, s, m, rfl, e1, em, ek⟩ := withSlot_some q
      obtain ⟨a, ea, sa, _, ok, _⟩ := er2.mo e1 em
      rw [rr1.1] at ea
      cases ea
      cases m with
      | lst ds =>
        simp only [appD] at ek
        by_cases hz : ds.length < 16777216
        · rw [if_pos hz] at ek
          cases ek
          obtain ⟨vs, eh, hr⟩ := ok
          obtain ⟨t3, er3⟩ := er2.wLst e1 em rr1.1 (hr.append (RpA.one rp2))
          exact ⟨a, vs, w, rfl, rfl, eh, by rw [hr.length, sizeLine_eq]; exact hz, hp2 _ S2 _ t3 er3 .non trivial⟩
        · rw [if_neg hz] at ek
          cases ek
      | dT _ => cases ek
      | dK _ => cases ek
  · have z := hp1
    simp only [hl] at z
    exact z.elim
def popD (j : Nat) (s : Slot) (ρ : Rho) : MO → Option (PyData × Rho)
  | .lst ds => (match ds[ds.length - 1]? with
    | some d => some (d, ρ.set j (s.put (.lst ds.dropLast)))
    | none => none)
  | _ => none
def fPop (fo : EF) : EF := fun ρ => (fo ρ).bind fun r ρ1 => match r with
  | .slot j => (match ρ1[j]? with
    | some s => (match s.mo with
      | some m => (match popD j s ρ1 m with
        | some (d, ρ2) => .ok (.val d) ρ2
        | none => .bad)
      | none => .bad)
    | none => .bad)
  | _ => .bad
theorem RpA.dropLast {K : PySem.W.Frag} {S : AS} {H : Hp} : ∀ {vs : List V} {ds : List PyData}, RpA K S H vs ds → RpA K S H vs.dropLast ds.dropLast
  | _, _, .nil => .nil
  | _, _, .cons h .nil => .nil
  | _, _, .cons h (.cons h2 hs) => .cons h (RpA.dropLast (.cons h2 hs))
theorem se_pop (ho : SE X W o to fo) (hbase : attributeBase o "pop" X.env (eval o X.env) = eval o X.env := by rfl) (hline : (apos.endLine == cpos.line) = true := by rfl) :
    SE X W (.Call (.Attribute o "pop" apos) [] [] cpos) (tBM0 X.K "list" rPop to) (fPop fo) := by
  refine ⟨pe_bm0 PySem.F.plainAttrs_list PySem.F.slot_list_pop PySem.F.type_list_pop mt_pop ho.pe hbase hline, fun F S H σ ρ Q hK fok er hp => ?_⟩
  refine ho.go hK fok er (wE F W σ Q) hp fun r ρ1 v S1 H1 t1 er1 rr1 _ hp1 => ?_
  cases r with
  | val d => exact hp1.elim
  | own m => exact hp1.elim
  | slot j =>
    have hp1 : PostE F W S1 H1 σ ρ1 (match ρ1[j]? with
      | some s => (match s.mo with
        | some m => (match popD j s ρ1 m with
          | some (d, ρ2) => .ok (.val d) ρ2
          | none => .bad)
        | none => .bad)
      | none => .bad) Q := hp1
    cases e1 : ρ1[j]? with
    | none => simp only [e1] at hp1; exact hp1.elim
    | some s =>
      simp only [e1] at hp1
      cases em : s.mo with
      | none => simp only [em] at hp1; exact hp1.elim
      | some m =>
        simp only [em] at hp1
        cases m with
        | dT _ => exact hp1.elim
        | dK _ => exact hp1.elim
        | lst ds =>
          simp only [popD] at hp1
          cases el : ds[ds.length - 1]? with
          | none => simp only [el] at hp1; exact hp1.elim
          | some d =>
            simp only [el] at hp1
            obtain ⟨a, ea, sa, _, ok, _⟩ := er1.mo e1 em
            rw [rr1.1] at ea
            cases ea
            obtain ⟨vs, eh, hr⟩ := ok
            obtain ⟨w, ew, rw'⟩ := hr.get el
            obtain ⟨t2, er2⟩ := er1.wLst e1 em rr1.1 hr.dropLast
            refine ⟨.inl ⟨rfl, vs, SqL.of eh⟩, a, vs, w, rfl, rfl, eh, by rw [hr.length]; exact ew, hp1 w S1 _ t2 er2 ?_ trivial⟩
            exact rw'.tr er1 t2
/-- x[i] = e -/
def setD (j : Nat) (s : Slot) (i d : PyData) (ρ : Rho) : MO → Option Rho
  | .lst ds => (match i with
    | .int k => (match ixN ds.length k with
      | some n => some (ρ.set j (s.put (.lst (ds.set n d))))
      | none => none)
    | _ => none)
  | .dT _ => none
  | .dK _ => none
def gSetIx (fo fi fe : EF) : SF := fun ρ => toSF (fe ρ) fun d ρ1 => toS (fo ρ1) fun r ρ2 => toS (fi ρ2) fun ri ρ3 => match ri with
  | .val i => (match withSlot ρ3 r fun j s m => setD j s i d ρ3 m with
    | some ρ4 => .nx ρ4
    | none => .bad)
  | _ => .bad
theorem ss_setIx {i : Expr} {ti : TE} {fi : EF} (he : SE X W e te fe) (ho : SE X W o to fo) (hi : SE X W i ti fi)
    (ha : ∀ v, assign (.Subscript o i apos) X.env v = (do
      let ov ← holding [v] (eval o X.env)
      let iv ← holding [v, ov] (eval i X.env)
      standAt apos
      holding [v, ov, iv] (setItem ov iv v)
      release [v, ov, iv] []) := by intro _; rfl)
    (hs : swapsWithSole [.Subscript o i apos] e pos.line X.env = pure false := by rfl) (hw : swappedStores [.Subscript o i apos] e X.env = pure none := by rfl)
    (h1 : (assignEach [.Subscript o i apos] X.env).map (·.2) = [assign (.Subscript o i apos) X.env] := by rfl) :
    SS X W (.Assign [.Subscript o i apos] e pos) (tAsg te (L2.gSub to ti rSetL)) (gSetIx fo fi fe) := by
  refine ⟨ps_asg he.pe (pg_sub ho.pe hi.pe set_list ha) hs hw h1, fun F S H σ ρ D hK fok er hp => ?_⟩
  refine he.goSF hK fok er hp fun d ρ1 v S1 H1 t1 er1 rp1 hp1 => ?_
  refine ho.goS hK fok er1 hp1 fun r ρ2 w S2 H2 t2 er2 rr2 _ hp2 => ?_
  refine hi.goS hK fok er2 hp2 fun ri ρ3 x S3 H3 t3 er3 rr3 _ hp3 => ?_
  have rr2' := rr2.tr er2 t3 (er3.len.trans er2.len.symm)
  have rp3 := (rp1.tr er1 t2).tr er2 t3
  cases ri with
  | own m => exact hp3.elim
  | slot k => exact hp3.elim
  | val i =>
    have hp3 : PostS F W S3 H3 (match withSlot ρ3 r fun j s m => setD j s i d ρ3 m with | some ρ4 => .nx ρ4 | none => .bad) D := hp3
    cases q : withSlot ρ3 r fun j s m => setD j s i d ρ3 m with
    | none => simp only [q] at hp3; exact hp3.elim
    | some ρ4 =>
      simp only [q] at hp3
      obtain ⟨j, s, m, rfl, e1, em, ek⟩ := withSlot_some q
      obtain ⟨a, ea, sa, _, ok, _⟩ := er3.mo e1 em
      rw [rr2'.1] at ea
      cases ea
      cases m with
      | dT _ => cases ek
      | dK _ => cases ek
      | lst ds =>
        cases i with
        | int k =>
          simp only [setD] at ek
          cases en : ixN ds.length k with
          | none => simp [en] at ek
          | some n =>
            simp only [en, Option.some.injEq] at ek
            subst ek
            cases (show Rp F.K S3 H3 x (.int k) from rr3)
            obtain ⟨vs, eh, hr⟩ := ok
            obtain ⟨t4, er4⟩ := er3.wLst e1 em rr2'.1 (hr.set n rp3)
            exact ⟨a, vs, k, n, rfl, rfl, eh, by rw [hr.length]; exact en, hp3 _ S3 _ (t4.s er3) er4⟩
        | _ => simp [setD] at ek
/-- d[k] = e -/
def putKD {κ : Type} [DecidableEq κ] (es : List (κ × PyData)) (k : κ) (d : PyData) : List (κ × PyData) :=
  if (es.any fun p => decide (p.1 = k)) = true then es.map (fun p => if p.1 = k then (p.1, d) else p) else es ++ [(k, d)]
def setK (j : Nat) (s : Slot) (i d : PyData) (ρ : Rho) : MO → Option Rho
  | .lst _ => none
  | .dT es => (match i with
    | .tuple xs => (match keysOf xs with
      | some ks => if es.length < 16777216 then some (ρ.set j (s.put (.dT (putKD es ks d)))) else none
      | none => none)
    | _ => none)
  | .dK es => (match keyOf i with
    | some k => if es.length < 16777216 then some (ρ.set j (s.put (.dK (putKD es k d)))) else none
    | none => none)
def gSetK (fo fi fe : EF) : SF := fun ρ => toSF (fe ρ) fun d ρ1 => toS (fo ρ1) fun r ρ2 => toS (fi ρ2) fun ri ρ3 => match deref ρ3 ri with
  | some i => (match withSlot ρ3 r fun j s m => setK j s i d ρ3 m with
    | some ρ4 => .nx ρ4
    | none => .bad)
  | none => .bad
theorem putKD_rp {κ : Type} [DecidableEq κ] {K : PySem.W.Frag} {S : AS} {H : Hp} {k : κ} {v : V} {d : PyData} (h : Rp K S H v d) : ∀ {kvs : List (κ × V)} {es : List (κ × PyData)}, kvs.map (·.1) = es.map (·.1) → RpA K S H (kvs.map (·.2)) (es.map (·.2)) →
    (putK kvs k v).map (·.1) = (putKD es k d).map (·.1) ∧ RpA K S H ((putK kvs k v).map (·.2)) ((putKD es k d).map (·.2)) := by
  intro kvs es e hs
  have any_eq : ∀ {kvs : List (κ × V)} {es : List (κ × PyData)}, kvs.map (·.1) = es.map (·.1) → (kvs.any fun kv => decide (kv.1 = k)) = (es.any fun p => decide (p.1 = k)) := by
    intro kvs
    induction kvs with
    | nil => intro es e; cases es with
      | nil => rfl
      | cons _ _ => simp at e
    | cons p kvs ih => intro es e; cases es with
      | nil => simp at e
      | cons q es =>
        simp only [List.map_cons, List.cons.injEq] at e
        simp only [List.any_cons, ih e.2, e.1]
  have map_ok : ∀ {kvs : List (κ × V)} {es : List (κ × PyData)}, kvs.map (·.1) = es.map (·.1) → RpA K S H (kvs.map (·.2)) (es.map (·.2)) →
      (kvs.map fun kv => if kv.1 = k then (kv.1, v) else kv).map (·.1) = (es.map fun p => if p.1 = k then (p.1, d) else p).map (·.1) ∧ RpA K S H ((kvs.map fun kv => if kv.1 = k then (kv.1, v) else kv).map (·.2)) ((es.map fun p => if p.1 = k then (p.1, d) else p).map (·.2)) := by
    intro kvs
    induction kvs with
    | nil => intro es e hs; cases es with
      | nil => exact ⟨rfl, .nil⟩
      | cons _ _ => simp at e
    | cons p kvs ih => intro es e hs; cases es with
      | nil => simp at e
      | cons q es =>
        simp only [List.map_cons, List.cons.injEq] at e
        cases hs with
        | cons h1 h2 =>
          obtain ⟨i1, i2⟩ := ih e.2 h2
          by_cases z : p.1 = k
          · have z' : q.1 = k := by rw [← e.1]; exact z
            simp only [List.map_cons, if_pos z, if_pos z']
            exact ⟨by rw [i1, e.1], .cons h i2⟩
          · have z' : ¬ q.1 = k := by rw [← e.1]; exact z
            simp only [List.map_cons, if_neg z, if_neg z']
            exact ⟨by rw [i1, e.1], .cons h1 i2⟩
  unfold putK putKD
  rw [any_eq e]
  split
  · exact map_ok e hs
  · rw [List.map_append, List.map_append, List.map_append, List.map_append, e]
    exact ⟨rfl, hs.append (RpA.one h)⟩
theorem ss_setK {i : Expr} {ti : TE} {fi : EF} (hu : X.A.units + 1 < cLine) (he : SE X W e te fe) (ho : SE X W o to fo) (hi : SE X W i ti fi) (hs : swapsWith e (some (.Subscript o i apos)) pos.line X.env = pure false := by rfl) :
    SS X W (.Assign [.Subscript o i apos] e pos) (sDPut to ti te) (gSetK fo fi fe) := by
  refine ⟨ps_dput hu ho.pe hi.pe he.pe hs, fun F S H σ ρ D hK fok er hp => ?_⟩
  refine he.goSF hK fok er hp fun d ρ1 v S1 H1 t1 er1 rp1 hp1 => ?_
  refine ho.goS hK fok er1 hp1 fun r ρ2 w S2 H2 t2 er2 rr2 _ hp2 => ?_
  refine hi.goS hK fok er2 hp2 fun ri ρ3 x S3 H3 t3 er3 rr3 _ hp3 => ?_
  have rr2' := rr2.tr er2 t3 (er3.len.trans er2.len.symm)
  have rp3 := (rp1.tr er1 t2).tr er2 t3
  have hp3 : PostS F W S3 H3 (match deref ρ3 ri with
    | some i => (match withSlot ρ3 r fun j s m => setK j s i d ρ3 m with
      | some ρ4 => .nx ρ4
      | none => .bad)
    | none => .bad) D := hp3
  cases qi : deref ρ3 ri with
  | none => simp only [qi] at hp3; exact hp3.elim
  | some i =>
    simp only [qi] at hp3
    have rti := rr3.rt er3 qi
    cases q : withSlot ρ3 r fun j s m => setK j s i d ρ3 m with
    | none => simp only [q] at hp3; exact hp3.elim
    | some ρ4 =>
      simp only [q] at hp3
      obtain ⟨j, s, m, rfl, e1, em, ek⟩ := withSlot_some q
      obtain ⟨a, ea, sa, _, ok, mb⟩ := er3.mo e1 em
      rw [rr2'.1] at ea
      cases ea
      have ne : ∀ m', s.put m' ≠ .no := fun m' => by rcases Slot.mo_cases em with q | q | ⟨_, q⟩ <;> (subst q; exact fun z => nomatch z)
      have hnt := MOk.nt ok
      have off : ∀ (o : HO) b o', NT o' → H3 b = some o' → ¬ S3 b → upd H3 a o b = some o' := fun o b o' _ e n => by
        rw [upd_ne fun z => n (by rw [z]; exact sa)]
        exact e
      cases m with
      | lst _ => cases ek
      | dT es =>
        cases i with
        | tuple xs =>
          simp only [setK] at ek
          cases ks : keysOf xs with
          | none => simp [ks] at ek
          | some ks' =>
            simp only [ks] at ek
            by_cases hz : es.length < 16777216
            · rw [if_pos hz] at ek
              cases ek
              obtain ⟨kvs, eh, hk, hr⟩ := ok
              obtain ⟨rfl, b, rfl, hb⟩ := rti.keyT ks
              have hl : kvs.length = es.length := by have := congrArg List.length hk; simpa using this
              obtain ⟨p1, p2⟩ := putKD_rp (k := ks') rp3 hk hr
              refine ⟨a, _, rfl, .t eh hb (by rw [hl, sizeLine_eq]; exact hz), hp3 _ S3 _ (Tr.s er3 (Tr.write (s := s.put (.dT (putKD es ks' d))) mb (ne _) hnt)) (er3.write e1 em rr2'.1 (m' := .dT (putKD es ks' d)) ⟨_, upd_same, p1, p2.mono (off _) fun _ z => .inl z⟩)⟩
            · rw [if_neg hz] at ek
              cases ek
        | _ => simp [setK] at ek
      | dK es =>
        simp only [setK] at ek
        cases ks : keyOf i with
        | none => simp [ks] at ek
        | some k =>
          simp only [ks] at ek
          by_cases hz : es.length < 16777216
          · rw [if_pos hz] at ek
            cases ek
            obtain ⟨kvs, eh, hk, hr⟩ := ok
            obtain ⟨rfl, rfl⟩ := rti.key ks
            have hl : kvs.length = es.length := by have := congrArg List.length hk; simpa using this
            obtain ⟨p1, p2⟩ := putKD_rp (k := k) rp3 hk hr
            refine ⟨a, _, rfl, .k eh (by rw [hl, sizeLine_eq]; exact hz), hp3 _ S3 _ (Tr.s er3 (Tr.write (s := s.put (.dK (putKD es k d))) mb (ne _) hnt)) (er3.write e1 em rr2'.1 (m' := .dK (putKD es k d)) ⟨_, upd_same, p1, p2.mono (off _) fun _ z => .inl z⟩)⟩
          · rw [if_neg hz] at ek
            cases ek
end
end Pv
set_option maxRecDepth 100000
/-! PvJ: while, for, a def's body. -/
namespace Pv
open PySem PySem.Spec L2

def fuel : Nat := 1000
def whileL (test : TF) (body : SF) : Nat → Rho → SO
  | 0, _ => .bad
  | n + 1, ρ => match test ρ with
    | .ok true ρ1 => (match body ρ1 with
      | .nx ρ2 => whileL test body n ρ2
      | .ct ρ2 => whileL test body n ρ2
      | .bk ρ2 => .nx ρ2
      | o => o)
    | .ok false ρ1 => .nx ρ1
    | .ex x ρ1 => .ex x ρ1
    | .bad => .bad
def gWhile (test : TF) (body : SF) : SF := fun ρ => whileL test body fuel ρ
section
variable {X : Cx} {W : Wx} {c : Expr} {body : List Stmt} {tc : TT} {tb : TS} {gc : TF} {gb : SF} {pos : Pos}
theorem ss_while (hp : PassesOwn (model X.prog X.w) X.A X.env X.xe) (hc : ST X W c tc gc) (hb : SSs X W body tb gb) : SS X W (.While c body [] pos) (tWhile tc tb) (gWhile gc gb) := by
  refine ⟨ps_while hp hc.pt hb.ps, fun F S H σ ρ D hK fok er hq => ?_⟩
  refine ⟨fun n σ' H' => ∃ S' ρ', TrS S H S' H' ∧ ER F S' H' σ' ρ' ∧ PostS F W S' H' (whileL gc gb n ρ') D, ⟨fuel, S, ρ, .refl, er, hq⟩, ?_⟩
  rintro n σ1 H1 ⟨S1, ρ1, t1, er1, hq1⟩
  cases n with
  | zero => exact hq1.elim
  | succ n =>
    have e : whileL gc gb (n + 1) ρ1 = toS (gc ρ1) fun b ρ2 => if b = true then (match gb ρ2 with
        | .nx ρ3 => whileL gc gb n ρ3
        | .ct ρ3 => whileL gc gb n ρ3
        | .bk ρ3 => .nx ρ3
        | o => o) else .nx ρ2 := by
      unfold toS
      show (match gc ρ1 with
        | .ok true ρ1 => _
        | .ok false ρ1 => _
        | .ex x ρ1 => _
        | .bad => _) = _
      cases gc ρ1 with
      | ok b ρ2 => cases b <;> rfl
      | ex x ρ2 => rfl
      | bad => rfl
    rw [e] at hq1
    refine hc.goS hK fok er1 hq1 fun b ρ2 S2 H2 t2 er2 hq2 => ?_
    cases b with
    | false => exact iteF (hq2 σ1 S2 H2 .refl er2)
    | true =>
      refine iteT ⟨fun σ' H' => ∃ S' ρ', TrS S H S' H' ∧ ER F S' H' σ' ρ' ∧ PostS F W S' H' (whileL gc gb n ρ') D, fun σ' H' h => ⟨n, Nat.lt_succ_self n, h⟩, ?_⟩
      have t12 := t1.trans (t2.s er1)
      have hq2 : PostS F W S2 H2 (match gb ρ2 with
        | .nx ρ3 => whileL gc gb n ρ3
        | .ct ρ3 => whileL gc gb n ρ3
        | .bk ρ3 => .nx ρ3
        | o => o) D := hq2
      refine hb.sn F S2 H2 σ1 ρ2 _ hK fok er2 ?_
      cases q : gb ρ2 with
      | nx ρ3 => rw [q] at hq2; exact fun σ3 S3 H3 t3 er3 => ⟨S3, ρ3, t12.trans t3, er3, hq2.shift t3⟩
      | ct ρ3 => rw [q] at hq2; exact fun σ3 S3 H3 t3 er3 => ⟨S3, ρ3, t12.trans t3, er3, hq2.shift t3⟩
      | bk ρ3 => rw [q] at hq2; exact hq2
      | rt r ρ3 => rw [q] at hq2; exact hq2
      | ex x ρ3 => rw [q] at hq2; exact hq2
      | bad => rw [q] at hq2; exact hq2
end

/-! ### what is walked -/
/-- at a state the iterator gives the items ds, whatever happens to things of S -/
def ItR (K : PySem.W.Frag) (S : AS) (H : Hp) (J : It) (ds : List PyData) : Prop := ∀ S' H', TrS S H S' H' → (∀ a, S' a → H' a ≠ none) →
  (∀ i, i < ds.length → J.go i H' ∧ ∀ x H'', J.yld i H' x H'' → ∃ d, ds[i]? = some d ∧ (∀ b o, H' b = some o → H'' b = some o) ∧ Rp K S' H'' x d) ∧ ∀ i, ds.length ≤ i → J.stop i H'
theorem ItR.tr {K : PySem.W.Frag} {S S1 : AS} {H H1 : Hp} {J : It} {ds : List PyData} (h : ItR K S H J ds) (t : TrS S H S1 H1) : ItR K S1 H1 J ds := fun S' H' t' => h S' H' (t.trans t')
def PostI (F : Fx) (W : Wx) (S : AS) (H : Hp) (σ : St) (ρ : Rho) (o : Out (List PyData)) (Rr : It → Hp → Prop) : Prop := match o with
  | .ok ds ρ' => ∀ J S' H', Tr S H σ ρ S' H' ρ' → ER F S' H' σ ρ' → ItR F.K S' H' J ds → Rr J H'
  | .ex x ρ' => ∀ cls dx S' H', Tr S H σ ρ S' H' ρ' → ER F S' H' σ ρ' → XR F S' H' x cls dx → W.w cls dx σ H'
  | .bad => False
abbrev IF := Rho → Out (List PyData)
structure SI (X : Cx) (W : Wx) (tg iter : Expr) (wi : TI) (f : IF) : Prop where
  pi : PI X tg iter wi
  sn : ∀ (F : Fx) (S : AS) (H : Hp) (σ : St) (ρ : Rho) (Rr : It → Hp → Prop), F.K = X.K → F.Ok W.T → ER F S H σ ρ → PostI F W S H σ ρ (f ρ) Rr → wi σ H Rr
theorem PostI.shift {F : Fx} {W : Wx} {S S1 : AS} {H H1 : Hp} {σ : St} {ρ ρ1 : Rho} {Rr : It → Hp → Prop} (er : ER F S H σ ρ) (t : Tr S H σ ρ S1 H1 ρ1) {o : Out (List PyData)} (h : PostI F W S H σ ρ o Rr) : PostI F W S1 H1 σ ρ1 o Rr := by
  cases o with
  | ok r ρ' => exact fun J S' H' t' er' rr => h J S' H' (t.trans er t') er' rr
  | ex x ρ' => exact fun cls dx S' H' t' er' xr => h cls dx S' H' (t.trans er t') er' xr
  | bad => exact h
def wI (F : Fx) (W : Wx) (σ : St) (Rr : It → Hp → Prop) : Wish F W σ (List PyData) := ⟨fun S H ρ o => PostI F W S H σ ρ o Rr, fun er t h => h.shift er t, fun h => h, fun h => h⟩
section
variable {K : PySem.W.Frag} {S : AS} {H : Hp} {a b : Addr} {xs ys : List V} {ds es : List PyData}
theorem LAt.trS {S' : AS} {H' : Hp} (h : LAt K S H a xs) (t : TrS S H S' H') : LAt K S' H' a xs := by
  rcases h with ⟨n, h⟩ | h
  · refine .inl ⟨fun q => ?_, ?_⟩
    · rcases t.new _ q with q | q
      · exact n q
      · rcases h with h | ⟨o, h⟩ <;> (rw [q] at h; cases h)
    · rcases h with h | ⟨o, h⟩
      · exact .inl (t.off _ _ nt_lst h n)
      · exact .inr ⟨o, t.off _ _ nt_frz h n⟩
  · exact .inr h
theorem itr_list (h : LAt K S H a xs) (hs : RpA K S H xs ds) : ItR K S H (Itl K a) ds := fun S' H' t _ => by
  have q := (h.trS t).seq
  have hs' := hs.trS t
  have hl := hs.length
  refine ⟨fun i hi => ⟨⟨xs, xs[i], q, by simp [hl ▸ hi]⟩, fun x H'' y => ?_⟩, fun i hi => ⟨xs, q, by omega⟩⟩
  obtain ⟨rfl, y⟩ := y
  obtain ⟨d, e, rp⟩ := hs'.getV (y xs q)
  exact ⟨d, e, fun _ _ e => e, rp⟩
theorem itr_tup (n : ¬ S a) (h : H a = some (.tup xs)) (hs : RpA K S H xs ds) : ItR K S H (Itt K a) ds := fun S' H' t _ => by
  have q : SqT K H' a xs := SqT.of (t.off _ _ nt_tup h n)
  have hs' := hs.trS t
  have hl := hs.length
  refine ⟨fun i hi => ⟨⟨xs, xs[i], q, by simp [hl ▸ hi]⟩, fun x H'' y => ?_⟩, fun i hi => ⟨xs, q, by omega⟩⟩
  obtain ⟨rfl, y⟩ := y
  obtain ⟨d, e, rp⟩ := hs'.getV (y xs q)
  exact ⟨d, e, fun _ _ e => e, rp⟩
/-- lo, lo + 1, .. -/
def rangeD (lo : Int) (n : Nat) : List PyData := (List.range n).map fun i => .int (lo + (i : Nat))
theorem rangeD_length (lo : Int) (n : Nat) : (rangeD lo n).length = n := by simp [rangeD]
theorem rangeD_get (lo : Int) {n i : Nat} (h : i < n) : (rangeD lo n)[i]? = some (.int (lo + (i : Nat))) := by
  simp [rangeD, h]
theorem itr_range (lo : Int) (n : Nat) : ItR K S H (Itr lo n) (rangeD lo n) := fun S' H' t _ => by
  refine ⟨fun i hi => ?_, fun i hi => by rw [rangeD_length] at hi; exact hi⟩
  rw [rangeD_length] at hi
  refine ⟨hi, fun x H'' y => ?_⟩
  obtain ⟨rfl, rfl⟩ := y
  exact ⟨_, rangeD_get lo hi, fun _ _ e => e, .int _⟩
/-- a new pair at each turn -/
theorem rp_pair {S' : AS} {H' : Hp} {T : Addr} {x y : V} {d e : PyData} (dom : ∀ a, S' a → H' a ≠ none) (hT : H' T = none) (hx : Rp K S' H' x d) (hy : Rp K S' H' y e) : Rp K S' (upd H' T (.tup [x, y])) (.ref T) (.tuple [d, e]) :=
  have same : ∀ b o, NT o → H' b = some o → ¬ S' b → upd H' T (.tup [x, y]) b = some o := fun b o _ e _ => by rw [upd_ne (ne_of_none e hT)]; exact e
  .tup (fun z => dom _ z hT) upd_same (.cons (hx.mono same fun _ z => .inl z) (.cons (hy.mono same fun _ z => .inl z) .nil))
end

/-! ### for -/
def forL (tg : GF) (body : SF) : List PyData → Rho → SO
  | [], ρ => .nx ρ
  | d :: ds, ρ => match tg d ρ with
    | none => .bad
    | some ρ1 => (match body ρ1 with
      | .nx ρ2 => forL tg body ds ρ2
      | .ct ρ2 => forL tg body ds ρ2
      | .bk ρ2 => .nx ρ2
      | o => o)
def gFor (fi : IF) (tg : GF) (body : SF) : SF := fun ρ => toS (fi ρ) fun ds ρ1 => forL tg body ds ρ1
section
variable {X : Cx} {W : Wx} {tg iter e : Expr} {body : List Stmt} {wi : TI} {t : TG} {tb : TS} {fi : IF} {gt : GF} {gb : SF} {pos : Pos} {te : TE} {f : EF} {is : List Nat}
theorem sn_for {fi : IF} (hi : ∀ (F : Fx) (S : AS) (H : Hp) (σ : St) (ρ : Rho) (Rr : It → Hp → Prop), F.K = X.K → F.Ok W.T → ER F S H σ ρ → PostI F W S H σ ρ (fi ρ) Rr → wi σ H Rr) (hg : SG X tg t gt is) (hb : SSs X W body tb gb) :
    ∀ (F : Fx) (S : AS) (H : Hp) (σ : St) (ρ : Rho) (D : Ends), F.K = X.K → F.Ok W.T → ER F S H σ ρ → PostS F W S H (gFor fi gt gb ρ) D → tFor wi t tb D σ H := by
  intro F S H σ ρ D hK fok er hq
  refine hi F S H σ ρ _ hK fok er ?_
  unfold gFor at hq
  cases q : fi ρ with
  | ex x ρ1 => rw [q] at hq; exact fun cls dx S1 H1 t1 er1 xr => hq cls dx σ S1 H1 (t1.s er) er1 xr
  | bad => rw [q] at hq; exact hq
  | ok ds ρ1 =>
    rw [q] at hq
    intro J S1 H1 t1 er1 it
    have hq1 : PostS F W S1 H1 (forL gt gb ds ρ1) D := PostS.shift (t1.s er) hq
    refine ⟨fun i m σ' H' => ∃ S' ρ', m = ds.length - i ∧ i ≤ ds.length ∧ TrS S1 H1 S' H' ∧ ER F S' H' σ' ρ' ∧ PostS F W S' H' (forL gt gb (ds.drop i) ρ') D,
      ⟨ds.length, S1, ρ1, by simp, Nat.zero_le _, .refl, er1, hq1⟩, ?_⟩
    rintro i m σ2 H2 ⟨S2, ρ2, rfl, hle, t2, er2, hq2⟩
    obtain ⟨itgo, itstop⟩ := it S2 H2 t2 er2.dom
    by_cases hlt : i < ds.length
    · obtain ⟨hgo, hy⟩ := itgo i hlt
      refine .inr ⟨hgo, fun σ' H' => ∃ S' ρ', TrS S1 H1 S' H' ∧ ER F S' H' σ' ρ' ∧ PostS F W S' H' (forL gt gb (ds.drop (i + 1)) ρ') D, fun σ' H' ⟨S', ρ', a1, a2, a3⟩ => ⟨ds.length - (i + 1), by omega, S', ρ', rfl, hlt, a1, a2, a3⟩, fun x H3 y => ?_⟩
      obtain ⟨d, ed, same, rp⟩ := hy x H3 y
      have t23 : TrS S2 H2 S2 H3 := ⟨fun b o _ e _ => same b o e, tab_same same, fun _ z => .inl z, fun a z => by
        cases w : H2 a with
        | none => exact absurd w z
        | some o => rw [same a o w]; exact fun z => nomatch z⟩
      have er3 : ER F S2 H3 σ2 ρ2 := er2.grow same (fun _ z => .inl z) (fun _ z => z) fun a z => t23.stay a (er2.dom a z)
      have ed' : ds.drop i = d :: ds.drop (i + 1) := by
        rw [List.drop_eq_getElem_cons hlt]
        congr 1
        rw [List.getElem?_eq_getElem hlt] at ed
        exact Option.some.inj ed
      rw [ed'] at hq2
      have hq3 := hq2.shift t23
      unfold forL at hq3
      cases w : gt d ρ2 with
      | none => simp only [w] at hq3; exact hq3.elim
      | some ρ3 =>
        simp only [w] at hq3
        refine hg.sn F S2 H3 σ2 ρ2 ρ3 x d _ hK fok.nil er3 rp w fun σ4 _ er4 => ?_
        refine hb.sn F S2 H3 σ4 ρ3 _ hK fok er4 ?_
        cases u : gb ρ3 with
        | nx ρ5 => rw [u] at hq3; exact fun σ5 S5 H5 t5 er5 => ⟨S5, ρ5, (t2.trans t23).trans t5, er5, hq3.shift t5⟩
        | ct ρ5 => rw [u] at hq3; exact fun σ5 S5 H5 t5 er5 => ⟨S5, ρ5, (t2.trans t23).trans t5, er5, hq3.shift t5⟩
        | bk ρ5 => rw [u] at hq3; exact hq3
        | rt r ρ5 => rw [u] at hq3; exact hq3
        | ex x ρ5 => rw [u] at hq3; exact hq3
        | bad => rw [u] at hq3; exact hq3
    · have e : i = ds.length := by omega
      subst e
      rw [List.drop_length] at hq2
      exact .inl ⟨itstop _ (Nat.le_refl _), hq2 σ2 S2 H2 .refl er2⟩
theorem ss_for (hp : PassesOwn (model X.prog X.w) X.A X.env X.xe) (hc : X.calm = true) (hi : SI X W tg iter wi fi) (hg : SG X tg t gt is) (hb : SSs X W body tb gb) (hs : ∀ x, foldedSetIterable iter X.env x = pure x := by intro _; rfl) :
    SS X W (.For tg iter body [] pos) (tFor wi t tb) (gFor fi gt gb) :=
  ⟨ps_for hp hc hi.pi hg.pg hb.ps hs, sn_for hi.sn hg hb⟩

/-! ### the iterators -/
def seqD : PyData → Option (List PyData)
  | .list ds => some ds
  | .tuple ds => some ds
  | _ => none
def fISeq (f : EF) : IF := fun ρ => bindF (f ρ) fun d ρ1 => match seqD d with
  | some ds => .ok ds ρ1
  | none => .bad
def iSeq (K : PySem.W.Frag) (tl : TE) : TI := fun σ H R => tl σ H fun x H1 => ∃ a, x = .ref a ∧ ((∃ xs, SqL K H1 a xs) ∧ R (Itl K a) H1 ∨ (∃ xs, SqT K H1 a xs) ∧ R (Itt K a) H1)
theorem pi_seq {l : Expr} {tl : TE} (hl : PE X l tl) : PI X tg l (iSeq X.K tl) := by
  refine ⟨fun pins s σ H R I h => ?_⟩
  refine thn (hl.run pins s σ H _ I h) fun v s1 ⟨x, H1, I1, r1, q1⟩ => ?_
  obtain ⟨a, e, q⟩ := q1
  subst e
  cases r1
  rcases q with ⟨⟨xs, hq⟩, q⟩ | ⟨⟨xs, hq⟩, q⟩
  · obtain ⟨its, rv, p, hz⟩ := I1.list hq
    refine wpAny_pyIter_list p.isList ?_
    refine ⟨s1.heap.objs.size, [s1.heap.objs.size], _, _, H1, rfl, I1.kept (t' := s1.toks) fun b o e => Heap.get?_push_of_some _ e, turn_list a _, ⟨_, Heap.get?_push_size _ rfl, rfl, rfl⟩, fun b hb => ?_, q⟩
    have e : b = s1.heap.objs.size := by simpa using hb
    subst e
    exact I1.fpOk (Nat.le_refl _) (I1.hok.fresh (Nat.le_refl _))
  · obtain ⟨its, rv, p, hz⟩ := I1.tuple hq
    refine wpAny_pyIter_tuple (show s1.heap.IsTuple a its.toArray from p) ?_
    refine ⟨s1.heap.objs.size, [s1.heap.objs.size], _, _, H1, rfl, I1.kept (t' := s1.toks) fun b o e => Heap.get?_push_of_some _ e, turn_tuple a _, ⟨_, Heap.get?_push_size _ rfl, rfl, rfl⟩, fun b hb => ?_, q⟩
    have e : b = s1.heap.objs.size := by simpa using hb
    subst e
    exact I1.fpOk (Nat.le_refl _) (I1.hok.fresh (Nat.le_refl _))
theorem si_seq {l : Expr} {tl : TE} {fl : EF} (hl : SE X W l tl fl) : SI X W tg l (iSeq X.K tl) (fISeq fl) := by
  refine ⟨pi_seq hl.pe, fun F S H σ ρ Rr hK fok er hp => ?_⟩
  refine hl.goF hK fok er (wI F W σ Rr) hp fun d ρ1 v S1 H1 t1 er1 rp hp1 => ?_
  have hp1 : PostI F W S1 H1 σ ρ1 (match seqD d with | some ds => .ok ds ρ1 | none => .bad) Rr := hp1
  cases d with
  | list ds =>
    cases rp with
    | lst h hs => exact ⟨_, rfl, .inl ⟨⟨_, by rw [← hK]; exact h.seq⟩, hp1 _ S1 H1 .refl er1 (by rw [← hK]; exact itr_list h hs)⟩⟩
  | tuple ds =>
    cases rp with
    | tup n h hs => exact ⟨_, rfl, .inr ⟨⟨_, SqT.of h⟩, hp1 _ S1 H1 .refl er1 (by rw [← hK]; exact itr_tup n h hs)⟩⟩
  | none => exact hp1.elim
  | bool _ => exact hp1.elim
  | int _ => exact hp1.elim
  | str _ => exact hp1.elim
  | dict _ => exact hp1.elim
def okR : Int → Bool
  | .ofNat n => decide (n < 4611686018427387904)
  | .negSucc n => decide (n < 4611686018427387903)
theorem okR_ok {i : Int} (h : okR i = true) : -(2 ^ 62) ≤ i ∧ i < 2 ^ 62 := by
  cases i with
  | ofNat n =>
    have h := of_decide_eq_true (show decide (n < 4611686018427387904) = true from h)
    constructor <;> simp <;> omega
  | negSucc n =>
    have h := of_decide_eq_true (show decide (n < 4611686018427387903) = true from h)
    constructor <;> omega
def int1? : List R → Option Int
  | [.val (.int j)] => some j
  | _ => none
def int2? : List R → Option (Int × Int)
  | [.val (.int i), .val (.int j)] => some (i, j)
  | _ => none
theorem int1?_eq {rs : List R} {j : Int} (h : int1? rs = some j) : rs = [.val (.int j)] := by
  unfold int1? at h
  split at h
  · cases h; rfl
  · cases h
theorem int2?_eq {rs : List R} {i j : Int} (h : int2? rs = some (i, j)) : rs = [.val (.int i), .val (.int j)] := by
  unfold int2? at h
  split at h
  · cases h; rfl
  · cases h
def fIRng1 (fr : RF) : IF := fun ρ => (fr ρ).bind fun rs ρ1 => match int1? rs with
  | some j => if okR j = true then .ok (rangeD 0 j.toNat) ρ1 else .bad
  | none => .bad
def fIRng2 (fr : RF) : IF := fun ρ => (fr ρ).bind fun rs ρ1 => match int2? rs with
  | some (i, j) => if okR i && okR j then .ok (rangeD i (j - i).toNat) ρ1 else .bad
  | none => .bad
theorem si_range1 {a : Expr} {ta : TA} {fr : RF} {p : Pos} (hg : Gl X "range") (hm : X.mg "range" = none) (ha : SAr X W [a] ta fr) (hs : starEach [a] X.env = [(false, eval a X.env)] := by rfl) : SI X W tg (.Call (.Name "range" p) [a] [] pos) (iRng1 ta) (fIRng1 fr) := by
  refine ⟨pi_range1 hg hm ha.pa hs, fun F S H σ ρ Rr hK fok er hp => ?_⟩
  refine ha.go hK fok er (wI F W σ Rr) hp fun rs ρ1 vs S1 H1 t1 er1 rr hp1 => ?_
  have hp2 : PostI F W S1 H1 σ ρ1 (match int1? rs with
    | some j => if okR j = true then .ok (rangeD 0 j.toNat) ρ1 else .bad
    | none => .bad) Rr := hp1
  cases q : int1? rs with
  | none => simp only [q] at hp2; exact hp2.elim
  | some j =>
    simp only [q] at hp2
    have e := int1?_eq q
    subst e
    cases rr with
    | cons h h2 =>
      cases h2
      cases (show Rp F.K S1 H1 _ (.int j) from h)
      by_cases hz : okR j = true
      · rw [if_pos hz] at hp2
        have hz := okR_ok hz
        exact ⟨j, rfl, hz.1, hz.2, hp2 _ S1 H1 .refl er1 (itr_range 0 _)⟩
      · rw [if_neg hz] at hp2
        exact hp2.elim
theorem si_range2 {a b : Expr} {ta : TA} {fr : RF} {p : Pos} (hg : Gl X "range") (hm : X.mg "range" = none) (ha : SAr X W [a, b] ta fr) (hs : starEach [a, b] X.env = [(false, eval a X.env), (false, eval b X.env)] := by rfl) (hs2 : starEach [b] X.env = [(false, eval b X.env)] := by rfl) :
    SI X W tg (.Call (.Name "range" p) [a, b] [] pos) (iRng2 ta) (fIRng2 fr) := by
  refine ⟨pi_range2 hg hm ha.pa hs hs2, fun F S H σ ρ Rr hK fok er hp => ?_⟩
  refine ha.go hK fok er (wI F W σ Rr) hp fun rs ρ1 vs S1 H1 t1 er1 rr hp1 => ?_
  have hp2 : PostI F W S1 H1 σ ρ1 (match int2? rs with
    | some (i, j) => if okR i && okR j then .ok (rangeD i (j - i).toNat) ρ1 else .bad
    | none => .bad) Rr := hp1
  cases q : int2? rs with
  | none => simp only [q] at hp2; exact hp2.elim
  | some p =>
    obtain ⟨i, j⟩ := p
    simp only [q] at hp2
    have e := int2?_eq q
    subst e
    cases rr with
    | cons h h2 =>
      cases h2 with
      | cons h2 h3 =>
        cases h3
        cases (show Rp F.K S1 H1 _ (.int i) from h)
        cases (show Rp F.K S1 H1 _ (.int j) from h2)
        by_cases hz : (okR i && okR j) = true
        · rw [if_pos hz] at hp2
          rw [Bool.and_eq_true] at hz
          have z1 := okR_ok hz.1
          have z2 := okR_ok hz.2
          exact ⟨i, j, rfl, ⟨z1.1, z1.2, z2.1, z2.2⟩, hp2 _ S1 H1 .refl er1 (itr_range i _)⟩
        · rw [if_neg hz] at hp2
          exact hp2.elim
end

/-! ### a def's body -/
def lentM (ρ : Rho) : Option MO := ρ.findSome? fun s => match s with
  | .lent m => some m
  | _ => none
def resolve (r : R) (ρ : Rho) : Option R := match r with
  | .val d => some (.val d)
  | .own m => some (.own m)
  | .slot i => (match ρ[i]? with
    | some (.val d) => some (.val d)
    | some (.own m) => some (.own m)
    | _ => none)
def outFn : SO → FOut
  | .nx ρ => .ok (.val .none) (lentM ρ)
  | .rt r ρ => (match resolve r ρ with
    | some r' => .ok r' (lentM ρ)
    | none => .bad)
  | .ex x ρ => .ex x (lentM ρ)
  | _ => .bad
def fnF (n : Nat) (g : SF) : FN := fun ss => outFn (g (ss ++ List.replicate (n - ss.length) .no))
theorem lentM_of {ρ : Rho} {i : Nat} {m : MO} (h : ρ[i]? = some (.lent m)) (one : ∀ j m', ρ[j]? = some (.lent m') → j = i) : lentM ρ = some m := by
  induction ρ generalizing i with
  | nil => simp at h
  | cons s ρ ih =>
    unfold lentM
    rw [List.findSome?_cons]
    cases s with
    | lent m' =>
      have e := one 0 m' rfl
      subst e
      simp at h
      simp [h]
    | _ =>
      cases i with
      | zero => simp at h
      | succ i => exact ih (i := i) (by simpa using h) fun j m' hj => Nat.succ.inj (one (j + 1) m' (by simpa using hj))
section
variable {P : Program} {w : World} {K : PySem.W.Frag} {mg : Str → Option Value} {base : Heap}
/-- what is wanted behind a def's body -/
def EndF (K : PySem.W.Frag) (vs : List V) (ss : List Slot) (S : AS) (H : Hp) (Q : VK) (E : XK) (o : FOut) : Prop := match o with
  | .ok r m => ∀ v S' H', CTr vs ss S H S' H' → LentR K S' H' vs ss m → RRc K H S' H' v r → Q v H'
  | .ex x m => ∀ cls dx S' H', CTr vs ss S H S' H' → LentR K S' H' vs ss m → XRc K S' H' x cls dx → E cls dx H'
  | .bad => False
theorem sn_fn0 {T : AS} {N ps : List Str} {vs : List V} {H : Hp} {Q : VK} {E : XK} {S : AS} {ss : List Slot} (hpl : ps.length ≤ N.length) (hl : ss.length = ps.length) (ar : ArgsR K S H vs ss) (ho : oneLent ss = true) (dom : ∀ a, S a → H a ≠ none) (tab : ∀ a, T a → GxR.TabG H a) :
    ∃ F : Fx, F.K = K ∧ F.Ok T ∧ ER F S H (L2.start N vs) (ss ++ List.replicate (N.length - ss.length) Slot.no) ∧ ∀ o : SO, EndF K vs ss S H Q E (outFn o) → PostS F ⟨fun cls d _ H => E cls d H, T⟩ S H o { nx := fun _ H' => Q .non H', rt := Q } := by
  have hvl : vs.length = ss.length := ar.length
  let Fx0 : Fx := ⟨K, H, S, fun i => match ss[i]?, vs[i]? with
    | some (.lent _), some (.ref a) => some a
    | _, _ => none⟩
  have hL : ∀ i a, Fx0.L i = some a → ∃ m, ss[i]? = some (.lent m) ∧ vs[i]? = some (.ref a) := fun i a h => by
    have h : (match ss[i]?, vs[i]? with
      | some (.lent _), some (.ref a) => some a
      | _, _ => none) = some a := h
    cases q : ss[i]? with
    | none => simp [q] at h
    | some s0 =>
      cases s0 with
      | lent m =>
        cases z : vs[i]? with
        | none => simp [q, z] at h
        | some v0 =>
          cases v0 with
          | ref b => simp only [q, z, Option.some.injEq] at h; subst h; exact ⟨m, rfl, rfl⟩
          | _ => simp [q, z] at h
      | _ => simp [q] at h
  have hL2 : ∀ (i : Nat) (a : Addr) (m : MO), ss[i]? = some (Slot.lent m) → vs[i]? = some (V.ref a) → Fx0.L i = some a := fun i a m h1 h2 => by
    show (match ss[i]?, vs[i]? with
      | some (.lent _), some (.ref a) => some a
      | _, _ => none) = some a
    rw [h1, h2]
  have fok : Fx0.Ok T := ⟨tab, dom, fun i a h => by
    obtain ⟨m, h1, h2⟩ := hL i a h
    obtain ⟨v, h3, h4⟩ := ar.get h1
    rw [h2] at h3; cases h3
    obtain ⟨b, e, sb, _⟩ := h4
    cases e; exact sb⟩
  have lentEq : ∀ a, Fx0.lentA a ↔ LentA vs ss a := fun a => ⟨fun ⟨i, h⟩ => by
    obtain ⟨m, h1, h2⟩ := hL i a h
    exact ⟨i, m, h1, h2⟩, fun ⟨i, m, h1, h2⟩ => ⟨i, hL2 i a m h1 h2⟩⟩
  have hle : ss.length ≤ N.length := by omega
  have rget : ∀ i (s0 : Slot), (ss ++ List.replicate (N.length - ss.length) Slot.no)[i]? = some s0 → s0 = .no ∨ ss[i]? = some s0 := fun i s0 h => by
    by_cases hi : i < ss.length
    · rw [List.getElem?_append_left hi] at h
      exact .inr h
    · rw [List.getElem?_append_right (by omega), List.getElem?_replicate] at h
      split at h
      · cases h; exact .inl rfl
      · cases h
  have sget : ∀ i v, vs[i]? = some v → (L2.start N vs)[i]? = some (some v) := fun i v h => by
    have hi : i < vs.length := (List.getElem?_eq_some_iff.mp h).1
    unfold L2.start
    rw [List.getElem?_append_left (by simpa using hi), List.getElem?_map, h]
    rfl
  have sget2 : ∀ i v, (L2.start N vs)[i]? = some (some v) → vs[i]? = some v := fun i v h => by
    unfold L2.start at h
    by_cases hi : i < vs.length
    · rw [List.getElem?_append_left (by simpa using hi), List.getElem?_map] at h
      cases q : vs[i]? with
      | none => rw [q] at h; cases h
      | some u => rw [q] at h; cases h; rfl
    · rw [List.getElem?_append_right (by simpa using hi), List.getElem?_replicate] at h
      split at h <;> cases h
  have noOwn : ∀ (i : Nat) (m : MO), ss[i]? ≠ some (Slot.own m) := fun i m h => by
    obtain ⟨v, _, h4⟩ := ar.get h
    exact h4
  have noPin : ∀ (i : Nat) (b : Addr) (m : MO), ss[i]? ≠ some (Slot.pin b m) := fun i b m h => by
    obtain ⟨v, _, h4⟩ := ar.get h
    exact h4
  have er : ER Fx0 S H (L2.start N vs) (ss ++ List.replicate (N.length - ss.length) Slot.no) := by
    refine ⟨?_, fun i s0 h => ?_, fun i j a ⟨⟨m, h1⟩, h2⟩ ⟨⟨m', h3⟩, h4⟩ => ?_, fun _ z => z, dom, fun _ _ _ e _ => e, fun _ h => h, fun _ h => h, fun i a h => ?_⟩
    · unfold L2.start
      simp only [List.length_append, List.length_map, List.length_replicate]
      omega
    · rcases rget i s0 h with rfl | h
      · trivial
      · obtain ⟨v, hv, h4⟩ := ar.get h
        rw [sget i v hv]
        cases s0 with
        | no => trivial
        | val d => exact ⟨v, rfl, h4⟩
        | own m => exact h4.elim
        | pin b m => exact h4.elim
        | ins g => exact h4.elim
        | lent m =>
          obtain ⟨a, rfl, sa, ok⟩ := h4
          exact ⟨a, rfl, hL2 i a m h hv, sa, ok⟩
    · have l1 : ss[i]? = some (.lent m) := by
        rcases h1 with h1 | h1 | ⟨b, h1⟩
        · rcases rget i _ h1 with z | z
          · cases z
          · exact absurd z (noOwn i m)
        · rcases rget i _ h1 with z | z
          · cases z
          · exact z
        · rcases rget i _ h1 with z | z
          · cases z
          · exact absurd z (noPin i b m)
      have l2 : ss[j]? = some (.lent m') := by
        rcases h3 with h1 | h1 | ⟨b, h1⟩
        · rcases rget j _ h1 with z | z
          · cases z
          · exact absurd z (noOwn j m')
        · rcases rget j _ h1 with z | z
          · cases z
          · exact z
        · rcases rget j _ h1 with z | z
          · cases z
          · exact absurd z (noPin j b m')
      exact oneLent_inj ho l1 l2
    · obtain ⟨m, h1, h2⟩ := hL i a h
      refine ⟨m, ?_⟩
      rw [List.getElem?_append_left (List.getElem?_eq_some_iff.mp h1).1]
      exact h1
  -- the end's facts
  have endC : ∀ {σ' : St} {ρ' : Rho} {S' : AS} {H' : Hp}, TrS S H S' H' → ER Fx0 S' H' σ' ρ' → CTr vs ss S H S' H' ∧ LentR K S' H' vs ss (lentM ρ') := fun {σ' ρ' S' H'} t er' => by
    refine ⟨⟨fun b o nt e n => er'.fr b o nt e fun z => n ((lentEq b).mp z), t.tb, t.new, er'.sub, er'.dom, t.stay⟩, fun a ha => ?_⟩
    obtain ⟨i, hi⟩ := (lentEq a).mpr ha
    obtain ⟨m, hm⟩ := er'.lt i a hi
    refine ⟨m, lentM_of hm fun j m' hj => ?_, ?_⟩
    · obtain ⟨b, _, lb, _⟩ := er'.at_ j _ hj
      obtain ⟨m1, h1, _⟩ := hL j b lb
      obtain ⟨m2, h2, _⟩ := hL i a hi
      exact oneLent_inj ho h1 h2
    · obtain ⟨b, _, lb, _, ok⟩ := er'.at_ i _ hm
      rw [hi] at lb; cases lb
      exact ok
  refine ⟨Fx0, rfl, fok, er, fun o post => ?_⟩
  cases o with
  | nx ρ' =>
    intro σ' S' H' t er'
    obtain ⟨c, l⟩ := endC t er'
    exact post .non S' H' c l .non
  | rt r ρ' =>
    intro v σ' S' H' t er' rr
    obtain ⟨c, l⟩ := endC t er'
    simp only [outFn, EndF] at post
    cases z : resolve r ρ' with
    | none => simp only [z] at post
    | some r' =>
      simp only [z] at post
      refine post v S' H' c l ?_
      cases r with
      | val d => cases z; exact rr
      | own m => cases z; obtain ⟨a, e, sa, f, ok, _⟩ := rr; exact ⟨a, e, sa, f, ok⟩
      | slot i =>
        unfold resolve at z
        cases y : ρ'[i]? with
        | none => simp [y] at z
        | some s0 =>
          have w := er'.at_ i s0 y
          cases s0 with
          | no => simp [y] at z
          | lent m => simp [y] at z
          | pin b m => simp [y] at z
          | ins g => simp [y] at z
          | val d =>
            simp only [y, Option.some.injEq] at z
            subst z
            obtain ⟨x, e, w⟩ := w
            rw [rr.1] at e; cases e
            exact w
          | own m =>
            simp only [y, Option.some.injEq] at z
            subst z
            obtain ⟨a, e, sa, f, ok⟩ := w
            rw [rr.1] at e; cases e
            exact ⟨a, rfl, sa, f, ok⟩
  | ex x ρ' =>
    intro cls dx σ' S' H' t er' xr
    obtain ⟨c, l⟩ := endC t er'
    exact post cls dx S' H' c l xr
  | bk ρ' => exact post.elim
  | ct ρ' => exact post.elim
  | bad => exact post.elim
theorem sn_fn {T : AS} {N ps : List Str} {g : SF} {t : TS} {vs : List V} {H : Hp} {Q : VK} {E : XK} (hpl : ps.length ≤ N.length)
    (sn : ∀ (F : Fx) (S : AS) (H : Hp) (σ : St) (ρ : Rho) (D : Ends), F.K = K → F.Ok T → ER F S H σ ρ → PostS F ⟨fun cls d _ H => E cls d H, T⟩ S H (g ρ) D → t D σ H) (hsp : spF K T ps.length (fnF N.length g) vs H Q E) : t { nx := fun _ H' => Q .non H', rt := Q } (L2.start N vs) H := by
  obtain ⟨S, ss, hl, ar, ho, dom, tab, post⟩ := hsp
  obtain ⟨F, hK, fok, er, hp⟩ := sn_fn0 (Q := Q) (E := E) hpl hl ar ho dom tab
  refine sn F S H (L2.start N vs) _ _ hK fok er (hp _ ?_)
  unfold fnF at post
  unfold EndF
  exact post
theorem fn_pv {T : AS} {x qual : Str} {st : Stmt} {f : Addr} {fd : FuncData} {N ps : List Str} {k : Nat} {g : SF} (F : Fun K x qual st f fd) (Sc : FnScope N ps (defScope st))
    (hbody : ∀ (cdv : Value) (A : Around) (outer : List Env) (s : Shared) (H : Hp) (E : XK), Room k (A.deeper (PyProof.Rows.envOfC qual (defScope st) s.heap.objs.size f cdv)) →
      ∃ t, SSs (cxOf (L2N.CX P w) P w K mg base N qual (defScope st) f cdv A outer s H E) ⟨fun cls d _ H => E cls d H, T⟩ (defBody st) t g) : FnOk P w K mg base (L2N.CX P w) (k + 1) f fd ps (spF K T ps.length (fnF N.length g)) := by
  obtain ⟨oc, od, kV, doc, pm, an, cdv, ct, osl, rfl, lk, hcd⟩ := F.ex
  refine fn_of lk hcd Sc spF_len fun A outer s H vs Q E hr hsp => ?_
  obtain ⟨t, ht⟩ := hbody cdv A outer s H E hr
  exact ⟨t, ht.ps, sn_fn (by have := congrArg List.length Sc.pre; rw [List.length_take] at this; omega) (fun F S H σ ρ D hK => ht.sn F S H σ ρ D hK) hsp⟩
/-- a plainer function -/
theorem fn_imp {T : AS} {f : Addr} {fd : FuncData} {ps : List Str} {k n : Nat} {Fn Fn' : FN} (G : FnOk P w K mg base (L2N.CX P w) k f fd ps (spF K T n Fn)) (h : ∀ ss, Fn' ss ≠ .bad → Fn ss = Fn' ss) : FnOk P w K mg base (L2N.CX P w) k f fd ps (spF K T n Fn') :=
  G.imp fun vs H Q E ⟨S, ss, a1, a2, a3, a4, a6, a5⟩ => ⟨S, ss, a1, a2, a3, a4, a6, by
    have e := h ss (fun z => by rw [z] at a5; exact a5)
    rw [e]
    exact a5⟩
end
end Pv
set_option maxRecDepth 100000
/-! PvK: list comprehensions. -/
namespace Pv
open PySem PySem.Spec L2

def noEx {α : Type} : Out α → Out α
  | .ok a ρ => .ok a ρ
  | _ => .bad
abbrev W0 (T : AS) : Wx := ⟨fun _ _ _ _ => False, T⟩
structure STs (X : Cx) (W : Wx) (ifs : List Expr) (t : TT) (f : TF) : Prop where
  pt : PTs X ifs t
  sn : ∀ (F : Fx) (S : AS) (H : Hp) (σ : St) (ρ : Rho) (Q : Bool → Hp → Prop), F.K = X.K → F.Ok W.T → ER F S H σ ρ → PostT F W S H σ ρ (f ρ) Q → t σ H Q
def fYes : TF := fun ρ => .ok true ρ
theorem sts_nil {X : Cx} {W : Wx} : STs X W [] tYes fYes := ⟨pts_nil, fun F S H σ ρ Q _ _ er hp => hp S H .refl er⟩
theorem sts_one {X : Cx} {W : Wx} {c : Expr} {t : TT} {f : TF} (h : ST X W c t f) : STs X W [c] t f := ⟨pts_one h.pt, h.sn⟩

/-! ### a block's own names are wiped -/
def wipeR : List Nat → Rho → Option Rho
  | [], ρ => some ρ
  | v :: vs, ρ => match wipeR vs ρ with
    | some ρ' => (match ρ'[v]? with
      | some s => if isLent s then none else some (ρ'.set v .no)
      | none => none)
    | none => none
def NoAt (vs : List Nat) (ρ : Rho) : Prop := ∀ i ∈ vs, ρ[i]? = some .no
section
variable {F : Fx} {S S' : AS} {H H' : Hp} {σ σ' : St} {ρ ρ' : Rho}
theorem mut_no {v : Nat} {x : Option V} {i : Nat} {a : Addr} (h : MutAt (σ.set v x) (ρ.set v .no) i a) : i ≠ v ∧ MutAt σ ρ i a := by
  obtain ⟨⟨m, h1⟩, h2⟩ := h
  by_cases q : v = i
  · subst q
    by_cases hv : v < ρ.length
    · rw [List.getElem?_set_self hv] at h1
      rcases h1 with h1 | h1 | ⟨_, h1⟩ <;> cases h1
    · rw [List.getElem?_eq_none (by simpa using hv)] at h1
      rcases h1 with h1 | h1 | ⟨_, h1⟩ <;> cases h1
  · rw [List.getElem?_set_ne q] at h1
    rw [List.getElem?_set_ne q] at h2
    exact ⟨Ne.symm q, ⟨m, h1⟩, h2⟩
theorem ER.setNo (er : ER F S H σ ρ) {v : Nat} {s : Slot} {x : Option V} (e : ρ[v]? = some s) (hl : isLent s = false) : ER F S H (σ.set v x) (ρ.set v .no) := by
  have hv : v < ρ.length := (List.getElem?_eq_some_iff.mp e).1
  refine ⟨by rw [List.length_set, List.length_set]; exact er.len, fun i t et => ?_, fun i j a h1 h2 => er.dj i j a (mut_no h1).2 (mut_no h2).2, er.sub, er.dom, er.fr, er.tb, er.st, fun i a h => ?_⟩
  · by_cases q : v = i
    · subst q
      rw [List.getElem?_set_self hv] at et
      cases et
      trivial
    · rw [List.getElem?_set_ne q] at et ⊢
      exact er.at_ i t et
  · obtain ⟨m, hm⟩ := er.lt i a h
    have q : v ≠ i := fun z => by
      subst z
      rw [e] at hm; cases hm; cases hl
    exact ⟨m, by rw [List.getElem?_set_ne q]; exact hm⟩
theorem wipeR_ok (er : ER F S H σ ρ) : ∀ {vs : List Nat} {ρ' : Rho}, wipeR vs ρ = some ρ' → ER F S H (wipe σ vs) ρ' ∧ NoAt vs ρ' ∧ (∀ i a, MutAt (wipe σ vs) ρ' i a → MutAt σ ρ i a) ∧ ρ'.length = ρ.length
  | [], _, e => by cases e; exact ⟨er, fun i h => absurd h (by simp), fun _ _ z => z, rfl⟩
  | v :: vs, ρ', e => by
    unfold wipeR at e
    cases q : wipeR vs ρ with
    | none => simp [q] at e
    | some ρ1 =>
      obtain ⟨er1, no1, mu1, l1⟩ := wipeR_ok er q
      simp only [q] at e
      cases z : ρ1[v]? with
      | none => simp [z] at e
      | some s =>
        simp only [z] at e
        by_cases hl : isLent s = true
        · rw [if_pos hl] at e; cases e
        · rw [if_neg hl] at e
          cases e
          have hv : v < ρ1.length := (List.getElem?_eq_some_iff.mp z).1
          refine ⟨er1.setNo z (by simpa using hl), fun i hi => ?_, fun i a h => mu1 i a (mut_no h).2, by rw [List.length_set]; exact l1⟩
          by_cases y : v = i
          · subst y; exact List.getElem?_set_self hv
          · rw [List.getElem?_set_ne y]
            rcases List.mem_cons.mp hi with w | w
            · exact absurd w.symm y
            · exact no1 i w
theorem mut_wipe {vs : List Nat} (no : NoAt vs ρ) {i : Nat} {a : Addr} : MutAt (wipe σ vs) ρ i a ↔ MutAt σ ρ i a := by
  by_cases hi : i ∈ vs
  · have e := no i hi
    have no2 : ¬ ∃ m, ρ[i]? = some (.own m) ∨ ρ[i]? = some (.lent m) ∨ ∃ b, ρ[i]? = some (.pin b m) := fun ⟨m, h⟩ => by
      rw [e] at h
      rcases h with h | h | ⟨_, h⟩ <;> cases h
    exact ⟨fun h => absurd h.1 no2, fun h => absurd h.1 no2⟩
  · unfold MutAt
    rw [wipe_out hi]
theorem ER.unwipe {vs : List Nat} (er : ER F S H (wipe σ vs) ρ) (no : NoAt vs ρ) : ER F S H σ ρ := by
  refine ⟨by rw [er.len, wipe_length], fun i t et => ?_, fun i j a h1 h2 => er.dj i j a ((mut_wipe no).mpr h1) ((mut_wipe no).mpr h2), er.sub, er.dom, er.fr, er.tb, er.st, er.lt⟩
  by_cases hi : i ∈ vs
  · rw [no i hi] at et
    cases et
    trivial
  · have z := er.at_ i t et
    rw [wipe_out hi] at z
    exact z
theorem wipe_get {i : Nat} : ∀ {vs : List Nat}, i ∈ vs → i < σ.length → (wipe σ vs)[i]? = some none
  | [], h, _ => absurd h (by simp)
  | v :: vs, h, hl => by
    unfold wipe
    by_cases q : v = i
    · subst q
      rw [List.getElem?_set_self (by rw [wipe_length]; exact hl)]
    · rw [List.getElem?_set_ne q]
      rcases List.mem_cons.mp h with z | z
      · exact absurd z.symm q
      · exact wipe_get z hl
theorem wipe_asg {is vs : List Nat} (a : Asg is (wipe σ vs) ρ σ' ρ') (h : ∀ i ∈ is, i ∈ vs) : wipe σ' vs = wipe σ vs := by
  apply List.ext_getElem?
  intro i
  by_cases hi : i ∈ vs
  · by_cases hl : i < σ.length
    · rw [wipe_get hi hl, wipe_get hi (by rw [a.len, wipe_length]; exact hl)]
    · rw [List.getElem?_eq_none (by rw [wipe_length, a.len, wipe_length]; omega), List.getElem?_eq_none (by rw [wipe_length]; omega)]
  · rw [wipe_out hi, a.out i (fun z => hi (h i z)), wipe_out hi]
/-- a thing in the making, of no slot, is written -/
theorem ER.wTemp (er : ER F S H σ ρ) {D : Addr} {o : HO} (sD : S D) (fD : F.H0 D = none) (n : ∀ i, ¬ MutAt σ ρ i D) (hn : ∀ ps, H D ≠ some (.tbl ps)) : ER F S (upd H D o) σ ρ := by
  have off : ∀ b o', NT o' → H b = some o' → ¬ S b → upd H D o b = some o' := fun b o' _ e nn => by
    rw [upd_ne fun z => nn (by rw [z]; exact sD)]
    exact e
  refine ⟨er.len, fun i s e => ?_, er.dj, er.sub, fun a h => ?_, fun b o' nt e nn => ?_, fun b h => ?_, fun b h => ?_, er.lt⟩
  · have z := er.at_ i s e
    cases s with
    | no => trivial
    | val d => obtain ⟨x, e, h⟩ := z; exact ⟨x, e, h.mono off fun _ z => .inl z⟩
    | own m =>
      obtain ⟨a, ea, sa, f, h⟩ := z
      have na : a ≠ D := fun z => n i ⟨⟨m, .inl e⟩, by rw [ea, z]⟩
      exact ⟨a, ea, sa, f, h.mono off (fun _ z => .inl z) fun o' _ q => by rw [upd_ne na]; exact q⟩
    | lent m =>
      obtain ⟨a, ea, l, sa, h⟩ := z
      have na : a ≠ D := fun z => n i ⟨⟨m, .inr (.inl e)⟩, by rw [ea, z]⟩
      exact ⟨a, ea, l, sa, h.mono off (fun _ z => .inl z) fun o' _ q => by rw [upd_ne na]; exact q⟩
    | pin a m =>
      obtain ⟨ea, sa, f, h⟩ := z
      have na : a ≠ D := fun z => n i ⟨⟨m, .inr (.inr ⟨a, e⟩)⟩, by rw [ea, z]⟩
      exact ⟨ea, sa, f, h.mono off (fun _ z => .inl z) fun o' _ q => by rw [upd_ne na]; exact q⟩
    | ins g => exact ins_mono off (fun _ z => .inl z) z
  · unfold upd
    split
    · exact fun z => nomatch z
    · exact er.dom a h
  · rw [upd_ne fun z => by rw [z, fD] at e; cases e]
    exact er.fr b o' nt e nn
  · obtain ⟨ps, e2, t⟩ := er.tb b h
    exact ⟨ps, by rw [upd_ne fun z => hn ps (by rw [← z]; exact e2)]; exact e2, t⟩
  · unfold upd
    split
    · exact fun z => nomatch z
    · exact er.st b h
theorem ER.new0 (er : ER F S H σ ρ) (fok : F.Ok T) {p : Addr} (hp : H p = none) : F.H0 p = none := by
  cases q : F.H0 p with
  | none => rfl
  | some o =>
    exfalso
    exact er.st p (by rw [q]; exact fun z => nomatch z) hp
end

/-! ### [elt for target in iter if ..] -/
def lcL (tg : GF) (tt : TF) (el : EF) (vs : List Nat) : List PyData → Rho → Out (List PyData)
  | [], ρ => .ok [] ρ
  | d :: ds, ρ => match tg d ρ with
    | none => .bad
    | some ρ1 => (noEx (tt ρ1)).bind fun b ρ2 => if b = true then bindF (noEx (el ρ2)) fun y ρ3 => (match wipeR vs ρ3 with
        | some ρ4 => (lcL tg tt el vs ds ρ4).bind fun ys ρ5 => .ok (y :: ys) ρ5
        | none => .bad) else (match wipeR vs ρ2 with
        | some ρ4 => lcL tg tt el vs ds ρ4
        | none => .bad)
def fLc (fi : IF) (tg : GF) (tt : TF) (el : EF) (vs : List Nat) : EF := fun ρ => (fi ρ).bind fun ds ρ1 => if ds.length ≤ 16777216 then (match wipeR vs ρ1 with
  | some ρ2 => (lcL tg tt el vs ds ρ2).bind fun ys ρ3 => .ok (.own (.lst ys)) ρ3
  | none => .bad) else .bad
section
variable {X : Cx} {W : Wx} {elt tg iter : Expr} {ifs : List Expr} {scope : Scope} {own : List (Str × Nat)} {pos : Pos} {wi : TI} {t : TG} {tt : TT} {te : TE} {fi : IF} {gt : GF} {ft : TF} {fe : EF} {is vs : List Nat}
/-- the parts in one block of any entry -/
structure Blk (X : Cx) (scope : Scope) (tg : Expr) (ifs : List Expr) (elt : Expr) (t : TG) (gt : GF) (is : List Nat) (tt : TT) (ft : TF) (te : TE) (fe : EF) (T : AS) : Prop where
  g : ∀ (s : Shared) (H : Hp) (C : Addr) (cl : List (Str × Addr)) (fp : List Addr), SG (X.blk s H scope (compEnvC scope cl C X.env) fp) tg t gt is
  t : ∀ (s : Shared) (H : Hp) (C : Addr) (cl : List (Str × Addr)) (fp : List Addr), STs (X.blk s H scope (compEnvC scope cl C X.env) fp) (W0 T) ifs tt ft
  e : ∀ (s : Shared) (H : Hp) (C : Addr) (cl : List (Str × Addr)) (fp : List Addr), SE (X.blk s H scope (compEnvC scope cl C X.env) fp) (W0 T) elt te fe
/-- the same wish, nothing raised -/
theorem noEx_T {F : Fx} {S : AS} {H : Hp} {σ : St} {ρ : Rho} {β : Type} {W : Wx} {o : Out Bool} {k : Bool → Rho → Out β} {Q : Bool → Hp → Prop} (nb : (noEx o).bind k ≠ .bad) (hk : ∀ b ρ1 S1 H1, o = .ok b ρ1 → Tr S H σ ρ S1 H1 ρ1 → ER F S1 H1 σ ρ1 → Q b H1) : PostT F W S H σ ρ o Q := by
  cases o with
  | ok b ρ1 => exact fun S1 H1 t1 er1 => hk b ρ1 S1 H1 rfl t1 er1
  | ex x ρ1 => exact absurd rfl nb
  | bad => exact absurd rfl nb
theorem noEx_E {X : Cx} {e : Expr} {te : TE} {fe : EF} {T : AS} (he : SE X (W0 T) e te fe) {F : Fx} {S : AS} {H : Hp} {σ : St} {ρ : Rho} (hK : F.K = X.K) (fok : F.Ok T) (er : ER F S H σ ρ) {β : Type} {k : PyData → Rho → Out β} (nb : bindF (noEx (fe ρ)) k ≠ .bad) {Q : VK}
    (hk : ∀ d ρ2 v S2 H1, bindF (noEx (fe ρ)) k = k d ρ2 → Tr S H σ ρ S2 H1 ρ2 → ER F S2 H1 σ ρ2 → Rp F.K S2 H1 v d → Q v H1) : te σ H Q := by
  refine he.sn F S H σ ρ Q hK fok er ?_
  cases q : fe ρ with
  | ok r ρ1 =>
    intro v S1 H1 t1 er1 rr fr
    rw [q] at nb hk
    cases z : freeze ρ1 r with
    | none => exact absurd (by simp only [noEx, bindF, z]) nb
    | some p =>
      obtain ⟨d, ρ2⟩ := p
      obtain ⟨S2, t2, er2, rp, _, _⟩ := freeze_ok er t1 er1 rr fr z fok
      exact hk d ρ2 v S2 H1 (by simp only [noEx, bindF, z]) t2 er2 rp
  | ex x ρ1 => rw [q] at nb; exact absurd rfl nb
  | bad => rw [q] at nb; exact absurd rfl nb
theorem sn_lc (hi : SI X W tg iter wi fi) (B : Blk X scope tg ifs elt t gt is tt ft te fe W.T) (hv : ∀ i ∈ is, i ∈ vs) :
    ∀ (F : Fx) (S : AS) (H : Hp) (σ : St) (ρ : Rho) (Q : VK), F.K = X.K → F.Ok W.T → ER F S H σ ρ → PostE F W S H σ ρ (fLc fi gt ft fe vs ρ) Q → tLc wi t tt te vs σ H Q := by
  intro F S H σ ρ Q hK fok er hp
  refine hi.sn F S H σ ρ _ hK fok er ?_
  unfold fLc at hp
  cases q : fi ρ with
  | ex x ρ1 => rw [q] at hp; exact hp
  | bad => rw [q] at hp; exact hp
  | ok ds ρ1 =>
    rw [q] at hp
    intro J S1 H1 t1 er1 it D hD
    have hp : PostE F W S H σ ρ (if ds.length ≤ 16777216 then (match wipeR vs ρ1 with
      | some ρ2 => (lcL gt ft fe vs ds ρ2).bind fun ys ρ3 => .ok (.own (.lst ys)) ρ3
      | none => .bad) else .bad) Q := hp
    by_cases hz : ds.length ≤ 16777216
    · rw [if_pos hz] at hp
      cases qw : wipeR vs ρ1 with
      | none => simp only [qw] at hp; exact hp.elim
      | some ρ2 =>
        simp only [qw] at hp
        obtain ⟨er2, no2, mu2, l2⟩ := wipeR_ok er1 qw
        have fD : F.H0 D = none := er1.new0 fok hD
        have hDS : H D = none := by
          cases w : H D with
          | none => rfl
          | some o => exact absurd hD (t1.stay D (by rw [w]; exact fun z => nomatch z))
        generalize hfull : ((lcL gt ft fe vs ds ρ2).bind fun ys ρ3 => Out.ok (R.own (.lst ys)) ρ3) = full at hp
        have nbF : full ≠ .bad := fun z => by rw [z] at hp; exact hp
        refine ⟨fun i m H' => ∃ S' ρ' outs, m = ds.length - i ∧ i ≤ ds.length ∧ outs.length ≤ i ∧ Tr S H σ ρ S' H' ρ' ∧ TrS S1 H1 S' H' ∧ ER F S' H' (wipe σ vs) ρ' ∧ NoAt vs ρ' ∧ RR F S' H' (wipe σ vs) ρ' (.ref D) (.own (.lst outs)) ∧
            full = (lcL gt ft fe vs (ds.drop i) ρ').bind fun ys ρ3 => .ok (.own (.lst (outs ++ ys))) ρ3,
          ⟨ds.length, fun a => S1 a ∨ a = D, ρ2, [], by simp, Nat.zero_le _, Nat.zero_le _, ?_, ?_, er2.allocS hD, no2, ⟨D, rfl, .inr rfl, fD, ⟨[], upd_same, .nil⟩, fun i z => er2.dom D (er2.mutS z) hD⟩, hfull.symm⟩, ?_⟩
        · have ta : Tr S1 H1 σ ρ1 S1 H1 ρ2 := ⟨fun _ _ _ e _ => e, fun _ z => z, fun _ z => .inl z, fun _ z _ => z, fun i a z => mu2 i a ((mut_wipe no2).mpr z), fun _ z => z⟩
          exact (t1.trans er ta).trans er (Tr.allocS hD)
        · have tb := Tr.s (er2) (Tr.allocS (S := S1) (σ := wipe σ vs) (ρ := ρ2) (o := .lst []) hD)
          exact tb
        rintro i m H' ⟨S', ρ', outs, rfl, hle, ho, tS, tI, er', no', tmp, hfl⟩
        obtain ⟨itgo, itstop⟩ := it S' H' tI er'.dom
        by_cases hlt : i < ds.length
        · obtain ⟨hgo, hy⟩ := itgo i hlt
          refine .inr ⟨hgo, fun H'' => ∃ S' ρ' outs, outs.length ≤ i + 1 ∧ Tr S H σ ρ S' H'' ρ' ∧ TrS S1 H1 S' H'' ∧ ER F S' H'' (wipe σ vs) ρ' ∧ NoAt vs ρ' ∧ RR F S' H'' (wipe σ vs) ρ' (.ref D) (.own (.lst outs)) ∧
            full = (lcL gt ft fe vs (ds.drop (i + 1)) ρ').bind fun ys ρ3 => .ok (.own (.lst (outs ++ ys))) ρ3, fun H'' ⟨S2, ρ2, outs2, b1, b2, b3, b4, b5, b6, b7⟩ => ⟨ds.length - (i + 1), by omega, S2, ρ2, outs2, rfl, hlt, b1, b2, b3, b4, b5, b6, b7⟩, fun x H'' y => ?_⟩
          obtain ⟨d, ed, same, rp⟩ := hy x H'' y
          have stay : ∀ a, H' a ≠ none → H'' a ≠ none := fun a z => by
            cases w : H' a with
            | none => exact absurd w z
            | some o => rw [same a o w]; exact fun z => nomatch z
          have er3 : ER F S' H'' (wipe σ vs) ρ' := er'.grow same (fun _ z => .inl z) (fun _ z => z) fun a z => stay a (er'.dom a z)
          have tmp3 : RR F S' H'' (wipe σ vs) ρ' (.ref D) (.own (.lst outs)) := by
            obtain ⟨a, e, s, f, ok, n⟩ := tmp
            exact ⟨a, e, s, f, ok.mono (fun b o _ e _ => same b o e) (fun _ z => .inl z) (fun o _ => same a o), n⟩
          have ed' : ds.drop i = d :: ds.drop (i + 1) := by
            rw [List.drop_eq_getElem_cons hlt]
            congr 1
            rw [List.getElem?_eq_getElem hlt] at ed
            exact Option.some.inj ed
          rw [ed'] at hfl
          -- the turn's outcome
          cases w : gt d ρ' with
          | none => exact absurd (by rw [hfl]; simp only [lcL, w, Out.bind]) nbF
          | some ρ3 =>
            refine (B.g ({} : Shared) (fun _ => none) (0 : Nat) [] []).sn F S' H'' (wipe σ vs) ρ' ρ3 x d _ hK fok.nil er3 rp w fun σ3 as er4 => ?_
            have hwp : wipe σ3 vs = wipe σ vs := wipe_asg as hv
            refine ⟨hwp, ?_⟩
            have tmp4 : RR F S' H'' σ3 ρ3 (.ref D) (.own (.lst outs)) := by
              obtain ⟨a, e, s, f, ok, n⟩ := tmp3
              exact ⟨a, e, s, f, ok, fun i z => n i (as.mu i a z)⟩
            have hfl2 : full = ((noEx (ft ρ3)).bind fun b ρ2 => if b = true then bindF (noEx (fe ρ2)) fun y ρ3 => (match wipeR vs ρ3 with
                | some ρ4 => (lcL gt ft fe vs (ds.drop (i + 1)) ρ4).bind fun ys ρ5 => .ok (y :: ys) ρ5
                | none => .bad) else (match wipeR vs ρ2 with
                | some ρ4 => lcL gt ft fe vs (ds.drop (i + 1)) ρ4
                | none => .bad)).bind fun ys ρ3 => .ok (.own (.lst (outs ++ ys))) ρ3 := by
              rw [hfl]
              simp only [lcL, w]
            -- from the start to a later state of this turn
            have far : ∀ {S5 : AS} {H5 : Hp} {ρ5 ρ6 : Rho}, Tr S' H'' σ3 ρ3 S5 H5 ρ5 → wipeR vs ρ5 = some ρ6 → ER F S5 H5 σ3 ρ5 → ∀ o, ER F S5 (upd H5 D o) (wipe σ vs) ρ6 ∧ NoAt vs ρ6 ∧ Tr S H σ ρ S5 (upd H5 D o) ρ6 ∧ TrS S1 H1 S5 (upd H5 D o) ∧ (∀ i, ¬ MutAt (wipe σ vs) ρ6 i D) := by
              intro S5 H5 ρ5 ρ6 t5 w6 er5 o
              obtain ⟨er6, no6, mu6, l6⟩ := wipeR_ok er5 w6
              rw [hwp] at er6 mu6
              have nt5 : ∀ ps, H5 D ≠ some (.tbl ps) := by
                obtain ⟨a2, e2, _, _, ok2, _⟩ := tmp4.tr er4 t5 (er5.len.trans er4.len.symm)
                cases e2
                exact MOk.nt ok2
              have tbs : ∀ b, GxR.TabG H5 b → GxR.TabG (upd H5 D o) b := fun b ⟨ps, e, t⟩ => ⟨ps, by rw [upd_ne fun z => nt5 ps (by rw [← z]; exact e)]; exact e, t⟩
              obtain ⟨a, e, sD, _, _, nD⟩ := tmp4
              cases e
              have nD6 : ∀ i, ¬ MutAt (wipe σ vs) ρ6 i D := fun i z => nD i (t5.mu i D (mu6 i D z))
              have sD5 : S5 D := t5.old D sD nD
              have toMut : ∀ i a, MutAt σ3 ρ3 i a → MutAt σ ρ' i a := fun i a z => (mut_wipe no').mp (as.mu i a z)
              refine ⟨er6.wTemp sD5 fD nD6 nt5, no6, ⟨fun b ob nt eb nb => ?_, (fun b hb => tbs b (t5.tb b (tab_same same b (tS.tb b hb)))), fun b hb => ?_, fun b hb nb => ?_, fun j b z => ?_, fun b hb => ?_⟩, ⟨fun b ob nt eb nb => ?_, (fun b hb => tbs b (t5.tb b (tab_same same b (tI.tb b hb)))), fun b hb => ?_, fun b hb => ?_⟩, nD6⟩
              · have nbD : b ≠ D := fun z => by rw [z, hDS] at eb; cases eb
                rw [upd_ne nbD]
                exact t5.off b ob nt (same b ob (tS.off b ob nt eb nb)) fun j z => nb j (tS.mu j b (toMut j b z))
              · rcases t5.new b hb with z | z
                · exact tS.new b z
                · cases y : H b with
                  | none => exact .inr rfl
                  | some ob => exact absurd z (stay b (tS.stay b (by rw [y]; exact fun z => nomatch z)))
              · exact t5.old b (tS.old b hb nb) fun j z => nb j (tS.mu j b (toMut j b z))
              · exact tS.mu j b (toMut j b (t5.mu j b (mu6 j b ((mut_wipe no6).mpr z))))
              · unfold upd
                split
                · exact fun z => nomatch z
                · exact t5.stay b (stay b (tS.stay b hb))
              · have nbD : b ≠ D := fun z => by rw [z, hD] at eb; cases eb
                rw [upd_ne nbD]
                exact t5.off b ob nt (same b ob (tI.off b ob nt eb nb)) fun j z => by
                  have h1 := er'.mutS (as.mu j b z)
                  rcases tI.new b h1 with h1 | h1
                  · exact nb h1
                  · rw [eb] at h1; cases h1
              · rcases t5.new b hb with z | z
                · exact tI.new b z
                · cases y : H1 b with
                  | none => exact .inr rfl
                  | some ob => exact absurd z (stay b (tI.stay b (by rw [y]; exact fun z => nomatch z)))
              · unfold upd
                split
                · exact fun z => nomatch z
                · exact t5.stay b (stay b (tI.stay b hb))
            refine (B.t ({} : Shared) (fun _ => none) (0 : Nat) [] []).sn F S' H'' σ3 ρ3 _ hK fok er4 (noEx_T (k := fun b ρ2 => if b = true then bindF (noEx (fe ρ2)) fun y ρ3 => (match wipeR vs ρ3 with
                | some ρ4 => (lcL gt ft fe vs (ds.drop (i + 1)) ρ4).bind fun ys ρ5 => .ok (y :: ys) ρ5
                | none => .bad) else (match wipeR vs ρ2 with
                | some ρ4 => lcL gt ft fe vs (ds.drop (i + 1)) ρ4
                | none => .bad)) (fun z => nbF (by rw [hfl2, z]; rfl)) fun b ρ4 S4 H4 eb t4 er5 => ?_)
            have hfl3 : full = (if b = true then bindF (noEx (fe ρ4)) fun y ρ3 => (match wipeR vs ρ3 with
                | some ρ4 => (lcL gt ft fe vs (ds.drop (i + 1)) ρ4).bind fun ys ρ5 => .ok (y :: ys) ρ5
                | none => .bad) else (match wipeR vs ρ4 with
                | some ρ4 => lcL gt ft fe vs (ds.drop (i + 1)) ρ4
                | none => .bad)).bind fun ys ρ3 => .ok (.own (.lst (outs ++ ys))) ρ3 := by
              rw [hfl2, eb]
              rfl
            cases b with
            | false =>
              refine iteF ?_
              rw [if_neg Bool.false_ne_true] at hfl3
              cases w6 : wipeR vs ρ4 with
              | none => exact absurd (by rw [hfl3]; simp only [w6, Out.bind]) nbF
              | some ρ6 =>
                simp only [w6] at hfl3
                have tmp5 := tmp4.tr er4 t4 (er5.len.trans er4.len.symm)
                obtain ⟨a, e, sD, _, ⟨acc, eh, hr⟩, nD⟩ := tmp5
                cases e
                obtain ⟨c1, c2, c3, c4, c5⟩ := far t4 w6 er5 (.lst acc)
                have eu : upd H4 D (.lst acc) = H4 := by
                  funext b
                  unfold upd
                  split
                  · rename_i z; rw [z]; exact eh.symm
                  · rfl
                rw [eu] at c1 c3 c4
                exact ⟨S4, ρ6, outs, by omega, c3, c4, c1, c2, ⟨D, rfl, sD, fD, ⟨acc, eh, hr⟩, c5⟩, hfl3⟩
            | true =>
              refine iteT ?_
              rw [if_pos rfl] at hfl3
              refine noEx_E (B.e ({} : Shared) (fun _ => none) (0 : Nat) [] []) hK fok er5 (k := fun y ρ3 => (match wipeR vs ρ3 with
                | some ρ4 => (lcL gt ft fe vs (ds.drop (i + 1)) ρ4).bind fun ys ρ5 => .ok (y :: ys) ρ5
                | none => .bad)) (fun z => nbF (by rw [hfl3, z]; rfl)) fun yd ρ5 v S5 H5 ey t5 er6 rp5 => ?_
              rw [ey] at hfl3
              cases w6 : wipeR vs ρ5 with
              | none => exact absurd (by rw [hfl3]; simp only [w6, Out.bind]) nbF
              | some ρ6 =>
                simp only [w6] at hfl3
                have t45 := t4.trans er4 t5
                have tmp5 := tmp4.tr er4 t45 (er6.len.trans er4.len.symm)
                obtain ⟨a, e, sD, _, ⟨acc, eh, hr⟩, nD⟩ := tmp5
                cases e
                obtain ⟨c1, c2, c3, c4, c5⟩ := far t45 w6 er6 (.lst (acc ++ [v]))
                have offD : ∀ b o', NT o' → H5 b = some o' → ¬ S5 b → upd H5 D (.lst (acc ++ [v])) b = some o' := fun b o' _ e nn => by
                  rw [upd_ne fun z => nn (by rw [z]; exact sD)]
                  exact e
                refine ⟨acc, eh, by rw [hr.length, sizeLine_eq]; omega, S5, ρ6, outs ++ [yd], by rw [List.length_append, List.length_singleton]; omega, c3, c4, c1, c2, ⟨D, rfl, sD, fD, ⟨acc ++ [v], upd_same, (hr.append (RpA.one rp5)).mono offD fun _ z => .inl z⟩, c5⟩, ?_⟩
                rw [hfl3]
                cases lcL gt ft fe vs (ds.drop (i + 1)) ρ6 with
                | ok ys ρ7 => simp [Out.bind, List.append_assoc]
                | ex x ρ7 => rfl
                | bad => rfl
        · have e : i = ds.length := by omega
          subst e
          refine .inl ⟨itstop _ (Nat.le_refl _), ?_⟩
          rw [List.drop_length] at hfl
          have hfl : full = .ok (.own (.lst (outs ++ []))) ρ' := hfl
          rw [List.append_nil] at hfl
          rw [hfl] at hp
          refine hp (.ref D) S' H' tS (er'.unwipe no') ?_ fun a e => by cases e; exact hDS
          obtain ⟨a, e, s, f, ok, n⟩ := tmp
          exact ⟨a, e, s, f, ok, fun j z => n j ((mut_wipe no').mpr z)⟩
    · rw [if_neg hz] at hp
      exact hp.elim
theorem se_lc (hc : X.calm = true) (hN : X.N.Nodup) (hi : SI X W tg iter wi fi) (ok : BlkOk X.N X.env.scope scope own) (B : Blk X scope tg ifs elt t gt is tt ft te fe W.T) (hv : ∀ i ∈ is, i ∈ own.map (·.2)) (hs : ∀ x, foldedSetIterable iter X.env x = pure x := by intro _; rfl) :
    SE X W (.ListComp elt [⟨tg, iter, ifs, 0⟩] scope pos) (tLc wi t tt te (own.map (·.2))) (fLc fi gt ft fe (own.map (·.2))) :=
  ⟨pe_lc hc hN hi.pi ok (fun s H C cl fp => (B.g s H C cl fp).pg) (fun s H C cl fp => (B.t s H C cl fp).pt) (fun s H C cl fp => (B.e s H C cl fp).pe) hs, sn_lc hi B hv⟩
theorem sn_set {e : TE} {f : EF} {i : Nat} (h : ∀ (F : Fx) (S : AS) (H : Hp) (σ : St) (ρ : Rho) (Q : VK), F.K = X.K → F.Ok W.T → ER F S H σ ρ → PostE F W S H σ ρ (f ρ) Q → e σ H Q) :
    ∀ (F : Fx) (S : AS) (H : Hp) (σ : St) (ρ : Rho) (D : Ends), F.K = X.K → F.Ok W.T → ER F S H σ ρ → PostS F W S H (gSet i f ρ) D → tAsg e (gName i) D σ H := by
  intro F S H σ ρ D hK fok er hp
  refine h F S H σ ρ _ hK fok er ?_
  unfold gSet at hp
  cases q : f ρ with
  | ex x ρ1 => rw [q] at hp; exact fun cls dx S1 H1 t1 er1 xr => hp cls dx σ S1 H1 (t1.s er) er1 xr
  | bad => rw [q] at hp; exact hp
  | ok r ρ1 =>
    rw [q] at hp
    intro v S1 H1 t1 er1 rr _
    have hp1 := PostS.shift (t1.s er) hp
    simp only [toS] at hp1
    cases z : storeR i r ρ1 with
    | none => simp only [z] at hp1; exact hp1.elim
    | some ρ2 =>
      simp only [z] at hp1
      obtain ⟨S2, t2, er2⟩ := store_ok er1 fok rr z
      exact hp1 _ S2 H1 t2 er2
/-- name = [..] on one line -/
theorem ss_setLc {i : Nat} {y : Str} {py spos : Pos} (hc : X.calm = true) (hN : X.N.Nodup) (hy : X.N[i]? = some y) (hyl : X.env.scope.names.lookup y = some .local)
    (hsw : swapsWith (.ListComp elt [⟨tg, iter, ifs, 0⟩] scope pos) (some (.Name y py)) spos.line X.env = pure true) (hi : SI X W tg iter wi fi) (ok : BlkOk X.N X.env.scope scope own) (B : Blk X scope tg ifs elt t gt is tt ft te fe W.T) (hv : ∀ i ∈ is, i ∈ own.map (·.2)) (hs : ∀ x, foldedSetIterable iter X.env x = pure x := by intro _; rfl) :
    SS X W (.Assign [.Name y py] (.ListComp elt [⟨tg, iter, ifs, 0⟩] scope pos) spos) (tAsg (tLc wi t tt te (own.map (·.2))) (gName i)) (gSet i (fLc fi gt ft fe (own.map (·.2)))) :=
  ⟨ps_setLc hc hN hy hyl hsw hi.pi ok (fun s H C cl fp => (B.g s H C cl fp).pg) (fun s H C cl fp => (B.t s H C cl fp).pt) (fun s H C cl fp => (B.e s H C cl fp).pe) hs, sn_set (sn_lc hi B hv)⟩
end
end Pv
set_option maxRecDepth 100000
/-! PvL: comprehensions with two clauses. -/
namespace Pv
open PySem PySem.Spec L2

/-- as Tr, but for the thing in the making at D -/
structure TrD (D : Addr) (S : AS) (H : Hp) (σ : St) (ρ : Rho) (S' : AS) (H' : Hp) (ρ' : Rho) : Prop where
  off : ∀ b o, NT o → b ≠ D → H b = some o → (∀ i, ¬ MutAt σ ρ i b) → H' b = some o
  tb : ∀ a, GxR.TabG H a → GxR.TabG H' a
  new : ∀ a, S' a → S a ∨ H a = none
  old : ∀ a, S a → (∀ i, ¬ MutAt σ ρ i a) → S' a
  mu : ∀ i a, MutAt σ ρ' i a → MutAt σ ρ i a
  stay : ∀ a, H a ≠ none → H' a ≠ none
section
variable {F : Fx} {D : Addr} {S S1 S2 S' : AS} {H H1 H2 H' : Hp} {σ σ2 : St} {ρ ρ1 ρ2 ρ' : Rho}
theorem TrD.refl : TrD D S H σ ρ S H ρ := ⟨fun _ _ _ _ e _ => e, fun _ h => h, fun _ h => .inl h, fun _ h _ => h, fun _ _ h => h, fun _ h => h⟩
theorem Tr.d (t : Tr S H σ ρ S' H' ρ') : TrD D S H σ ρ S' H' ρ' := ⟨fun b o nt _ => t.off b o nt, t.tb, t.new, t.old, t.mu, t.stay⟩
theorem TrD.trans (t : TrD D S H σ ρ S1 H1 ρ1) (u : TrD D S1 H1 σ ρ1 S2 H2 ρ2) : TrD D S H σ ρ S2 H2 ρ2 where
  tb := fun a h => u.tb a (t.tb a h)
  off := fun b o nt nb e n => u.off b o nt nb (t.off b o nt nb e n) fun i z => n i (t.mu i b z)
  new := fun a h => by
    rcases u.new a h with h | h
    · exact t.new a h
    · cases q : H a with
      | none => exact .inr rfl
      | some o => exact absurd h (t.stay a (by rw [q]; exact fun z => nomatch z))
  old := fun a h n => u.old a (t.old a h n) fun i z => n i (t.mu i a z)
  mu := fun i a h => t.mu i a (u.mu i a h)
  stay := fun a h => u.stay a (t.stay a h)
/-- in another frame's slots -/
theorem TrD.slots (t : TrD D S H σ2 ρ1 S' H' ρ2) (m1 : ∀ i a, MutAt σ2 ρ1 i a → MutAt σ ρ i a) (m2 : ∀ i a, MutAt σ ρ' i a → MutAt σ2 ρ2 i a) : TrD D S H σ ρ S' H' ρ' :=
  ⟨fun b o nt nb e n => t.off b o nt nb e fun i z => n i (m1 i b z), t.tb, t.new, fun a h n => t.old a h fun i z => n i (m1 i a z), fun i a z => m1 i a (t.mu i a (m2 i a z)), t.stay⟩
theorem TrD.tr (t : TrD D S H σ ρ S' H' ρ') (hD : H D = none) : Tr S H σ ρ S' H' ρ' := ⟨fun b o nt e n => t.off b o nt (fun z => by rw [z, hD] at e; cases e) e n, t.tb, t.new, t.old, t.mu, t.stay⟩
/-- from ahead of D's making -/
theorem Tr.transD (t : Tr S H σ ρ S1 H1 ρ1) (u : TrD D S1 H1 σ ρ1 S2 H2 ρ2) (hD : H D = none) : Tr S H σ ρ S2 H2 ρ2 := (t.d.trans u).tr hD
/-- for what nobody writes -/
theorem TrD.s (t : TrD D S H σ ρ S' H' ρ') (er : ER F S H σ ρ) (sD : S D) : TrS S H S' H' := ⟨fun b o nt e n => t.off b o nt (fun z => n (by rw [z]; exact sD)) e fun i z => n (er.mutS z), t.tb, t.new, t.stay⟩
theorem TrD.grow (same : ∀ b o, H b = some o → H' b = some o) : TrD D S H σ ρ S H' ρ := ⟨fun b o _ _ e _ => same b o e, tab_same same, fun _ z => .inl z, fun _ z _ => z, fun _ _ z => z, fun a z => by
  cases w : H a with
  | none => exact absurd w z
  | some o => rw [same a o w]; exact fun z => nomatch z⟩
end
section
variable {X : Cx} {tg elt : Expr} {ifs : List Expr} {t : TG} {gt : GF} {is vs : List Nat} {tt : TT} {ft : TF} {te : TE} {fe : EF}
/-- the loop of one clause: the list at D grows by what the items give -/
theorem lc_loop (hg : SG X tg t gt is) (ht : STs X (W0 T) ifs tt ft) (he : SE X (W0 T) elt te fe) (hv : ∀ i ∈ is, i ∈ vs) {F : Fx} {S : AS} {H : Hp} {σ : St} {ρ ρe : Rho} {D : Addr} {outs ds ys : List PyData} {J : It} {En : Hp → Prop} (hK : F.K = X.K) (fok : F.Ok T)
    (er : ER F S H (wipe σ vs) ρ) (no : NoAt vs ρ) (tmp : RR F S H (wipe σ vs) ρ (.ref D) (.own (.lst outs))) (it : ItR F.K S H J ds) (hz : outs.length + ds.length ≤ 16777216) (ok : lcL gt ft fe vs ds ρ = .ok ys ρe)
    (fin : ∀ S' H', TrD D S H (wipe σ vs) ρ S' H' ρe → ER F S' H' (wipe σ vs) ρe → NoAt vs ρe → RR F S' H' (wipe σ vs) ρe (.ref D) (.own (.lst (outs ++ ys))) → En H') :
    ∃ W : Nat → Nat → Hp → Prop, (∃ m, W 0 m H) ∧ ∀ i m H, W i m H →
      (J.stop i H ∧ En H) ∨ (J.go i H ∧ ∃ Nx : Hp → Prop, (∀ H', Nx H' → ∃ m', m' < m ∧ W (i + 1) m' H') ∧ ∀ x H', J.yld i H x H' → t x (wipe σ vs) H' fun σ2 H2 => wipe σ2 vs = wipe σ vs ∧ tt σ2 H2 fun b H3 =>
        if b = true then te σ2 H3 fun y H4 => ∃ acc, H4 D = some (.lst acc) ∧ acc.length < sizeLine ∧ Nx (upd H4 D (.lst (acc ++ [y]))) else Nx H3) := by
  have fD : F.H0 D = none := by
    obtain ⟨a, e, _, f, _⟩ := tmp
    cases e; exact f
  refine ⟨fun i m H' => ∃ S' ρ' outs' ys', m = ds.length - i ∧ i ≤ ds.length ∧ outs'.length ≤ outs.length + i ∧ TrD D S H (wipe σ vs) ρ S' H' ρ' ∧ ER F S' H' (wipe σ vs) ρ' ∧ NoAt vs ρ' ∧ RR F S' H' (wipe σ vs) ρ' (.ref D) (.own (.lst outs')) ∧
      lcL gt ft fe vs (ds.drop i) ρ' = .ok ys' ρe ∧ outs' ++ ys' = outs ++ ys,
    ⟨ds.length, S, ρ, outs, ys, by simp, Nat.zero_le _, Nat.le_refl _, .refl, er, no, tmp, ok, rfl⟩, ?_⟩
  rintro i m H' ⟨S', ρ', outs', ys', rfl, hle, ho, tS, er', no', tmp', ok', ey⟩
  have sD0 : S D := by
    obtain ⟨a, e, s, _⟩ := tmp
    cases e; exact s
  obtain ⟨itgo, itstop⟩ := it S' H' (tS.s er sD0) er'.dom
  by_cases hlt : i < ds.length
  · obtain ⟨hgo, hy⟩ := itgo i hlt
    refine .inr ⟨hgo, fun H'' => ∃ S' ρ' outs' ys', outs'.length ≤ outs.length + (i + 1) ∧ TrD D S H (wipe σ vs) ρ S' H'' ρ' ∧ ER F S' H'' (wipe σ vs) ρ' ∧ NoAt vs ρ' ∧ RR F S' H'' (wipe σ vs) ρ' (.ref D) (.own (.lst outs')) ∧
      lcL gt ft fe vs (ds.drop (i + 1)) ρ' = .ok ys' ρe ∧ outs' ++ ys' = outs ++ ys, fun H'' ⟨S2, ρ2, o2, y2, b1, b2, b3, b4, b5, b6, b7⟩ => ⟨ds.length - (i + 1), by omega, S2, ρ2, o2, y2, rfl, hlt, b1, b2, b3, b4, b5, b6, b7⟩, fun x H'' y => ?_⟩
    obtain ⟨d, ed, same, rp⟩ := hy x H'' y
    have tG : TrD D S' H' (wipe σ vs) ρ' S' H'' ρ' := .grow same
    have er3 : ER F S' H'' (wipe σ vs) ρ' := er'.grow same (fun _ z => .inl z) (fun _ z => z) fun a z => tG.stay a (er'.dom a z)
    have tmp3 : RR F S' H'' (wipe σ vs) ρ' (.ref D) (.own (.lst outs')) := by
      obtain ⟨a, e, s, f, ok, n⟩ := tmp'
      exact ⟨a, e, s, f, ok.mono (fun b o _ e _ => same b o e) (fun _ z => .inl z) (fun o _ => same a o), n⟩
    have ed' : ds.drop i = d :: ds.drop (i + 1) := by
      rw [List.drop_eq_getElem_cons hlt]
      congr 1
      rw [List.getElem?_eq_getElem hlt] at ed
      exact Option.some.inj ed
    rw [ed'] at ok'
    unfold lcL at ok'
    cases w : gt d ρ' with
    | none => simp only [w] at ok'; cases ok'
    | some ρ3 =>
      simp only [w] at ok'
      refine hg.sn F S' H'' (wipe σ vs) ρ' ρ3 x d _ hK fok.nil er3 rp w fun σ3 as er4 => ?_
      have hwp : wipe σ3 vs = wipe σ vs := wipe_asg as hv
      refine ⟨hwp, ?_⟩
      have tmp4 : RR F S' H'' σ3 ρ3 (.ref D) (.own (.lst outs')) := by
        obtain ⟨a, e, s, f, ok, n⟩ := tmp3
        exact ⟨a, e, s, f, ok, fun i z => n i (as.mu i a z)⟩
      have far : ∀ {S5 : AS} {H5 : Hp} {ρ5 ρ6 : Rho}, Tr S' H'' σ3 ρ3 S5 H5 ρ5 → wipeR vs ρ5 = some ρ6 → ER F S5 H5 σ3 ρ5 → ∀ o, ER F S5 (upd H5 D o) (wipe σ vs) ρ6 ∧ NoAt vs ρ6 ∧ TrD D S H (wipe σ vs) ρ S5 (upd H5 D o) ρ6 ∧ (∀ i, ¬ MutAt (wipe σ vs) ρ6 i D) := by
        intro S5 H5 ρ5 ρ6 t5 w6 er5 o
        obtain ⟨er6, no6, mu6, l6⟩ := wipeR_ok er5 w6
        rw [hwp] at er6 mu6
        have nt5 : ∀ ps, H5 D ≠ some (.tbl ps) := by
          obtain ⟨a2, e2, _, _, ok2, _⟩ := tmp4.tr er4 t5 (er5.len.trans er4.len.symm)
          cases e2
          exact MOk.nt ok2
        obtain ⟨a, e, sD, _, _, nD⟩ := tmp4
        cases e
        have nD6 : ∀ i, ¬ MutAt (wipe σ vs) ρ6 i D := fun i z => nD i (t5.mu i D (mu6 i D z))
        have sD5 : S5 D := t5.old D sD nD
        have tU : TrD D S5 H5 (wipe σ vs) ρ6 S5 (upd H5 D o) ρ6 := ⟨fun b ob _ nb e _ => by rw [upd_ne nb]; exact e, (fun b ⟨ps, e, t⟩ => ⟨ps, by rw [upd_ne fun z => nt5 ps (by rw [← z]; exact e)]; exact e, t⟩), fun _ z => .inl z, fun _ z _ => z, fun _ _ z => z, fun b hb => by
          unfold upd
          split
          · exact fun z => nomatch z
          · exact hb⟩
        exact ⟨er6.wTemp sD5 fD nD6 nt5, no6, ((tS.trans tG).trans (t5.d.slots as.mu mu6)).trans tU, nD6⟩
      refine ht.sn F S' H'' σ3 ρ3 _ hK fok er4 (noEx_T (k := fun b ρ2 => if b = true then bindF (noEx (fe ρ2)) fun y ρ3 => (match wipeR vs ρ3 with
          | some ρ4 => (lcL gt ft fe vs (ds.drop (i + 1)) ρ4).bind fun ys ρ5 => .ok (y :: ys) ρ5
          | none => .bad) else (match wipeR vs ρ2 with
          | some ρ4 => lcL gt ft fe vs (ds.drop (i + 1)) ρ4
          | none => .bad)) (fun z => by have zz := z.symm.trans ok'; cases zz) fun b ρ4 S4 H4 eb t4 er5 => ?_)
      rw [eb] at ok'
      simp only [noEx, Out.bind] at ok'
      cases b with
      | false =>
        refine iteF ?_
        rw [if_neg Bool.false_ne_true] at ok'
        cases w6 : wipeR vs ρ4 with
        | none => simp only [w6] at ok'; cases ok'
        | some ρ6 =>
          simp only [w6] at ok'
          have tmp5 := tmp4.tr er4 t4 (er5.len.trans er4.len.symm)
          obtain ⟨a, e, sD, _, ⟨acc, eh, hr⟩, nD⟩ := tmp5
          cases e
          obtain ⟨c1, c2, c3, c5⟩ := far t4 w6 er5 (.lst acc)
          have eu : upd H4 D (.lst acc) = H4 := by
            funext b
            unfold upd
            split
            · rename_i z; rw [z]; exact eh.symm
            · rfl
          rw [eu] at c1 c3
          exact ⟨S4, ρ6, outs', ys', by omega, c3, c1, c2, ⟨D, rfl, sD, fD, ⟨acc, eh, hr⟩, c5⟩, ok', ey⟩
      | true =>
        refine iteT ?_
        rw [if_pos rfl] at ok'
        refine noEx_E he hK fok er5 (k := fun y ρ3 => (match wipeR vs ρ3 with
          | some ρ4 => (lcL gt ft fe vs (ds.drop (i + 1)) ρ4).bind fun ys ρ5 => .ok (y :: ys) ρ5
          | none => .bad)) (fun z => by have zz := z.symm.trans ok'; cases zz) fun yd ρ5 v S5 H5 eyd t5 er6 rp5 => ?_
        have ok2 := eyd.symm.trans ok'
        cases w6 : wipeR vs ρ5 with
        | none => simp only [w6] at ok2; cases ok2
        | some ρ6 =>
          simp only [w6] at ok2
          cases qr : lcL gt ft fe vs (ds.drop (i + 1)) ρ6 with
          | ex x ρ7 => rw [qr] at ok2; cases ok2
          | bad => rw [qr] at ok2; cases ok2
          | ok ys2 ρ7 =>
            rw [qr] at ok2
            simp only [Out.bind, Out.ok.injEq] at ok2
            obtain ⟨e1, e2⟩ := ok2
            subst e1 e2
            have t45 := t4.trans er4 t5
            have tmp5 := tmp4.tr er4 t45 (er6.len.trans er4.len.symm)
            obtain ⟨a, e, sD, _, ⟨acc, eh, hr⟩, nD⟩ := tmp5
            cases e
            obtain ⟨c1, c2, c3, c5⟩ := far t45 w6 er6 (.lst (acc ++ [v]))
            have offD : ∀ b o', NT o' → H5 b = some o' → ¬ S5 b → upd H5 D (.lst (acc ++ [v])) b = some o' := fun b o' _ e nn => by
              rw [upd_ne fun z => nn (by rw [z]; exact sD)]
              exact e
            exact ⟨acc, eh, by rw [hr.length, sizeLine_eq]; omega, S5, ρ6, outs' ++ [yd], ys2, by rw [List.length_append, List.length_singleton]; omega, c3, c1, c2, ⟨D, rfl, sD, fD, ⟨acc ++ [v], upd_same, (hr.append (RpA.one rp5)).mono offD fun _ z => .inl z⟩, c5⟩, qr, by rw [← ey]; simp⟩
  · have e : i = ds.length := by omega
    subst e
    rw [List.drop_length] at ok'
    have ok' : Out.ok ([] : List PyData) ρ' = .ok ys' ρe := ok'
    cases ok'
    rw [List.append_nil] at ey
    refine .inl ⟨itstop _ (Nat.le_refl _), fin S' H' tS er' no' ?_⟩
    rw [← ey]
    exact tmp'
end

/-- [elt for a in .. for b in .. if ..] -/
def lc2L (tg : GF) (fi1 : IF) (tg1 : GF) (tt1 : TF) (el : EF) (vs vs1 : List Nat) : Nat → List PyData → Rho → Out (List PyData)
  | _, [], ρ => .ok [] ρ
  | n, d :: ds, ρ => match tg d ρ with
    | none => .bad
    | some ρ1 => (noEx (fi1 ρ1)).bind fun es ρ2 => if n + es.length ≤ 16777216 then (match wipeR vs1 ρ2 with
      | none => .bad
      | some ρ3 => (noEx (lcL tg1 tt1 el vs1 es ρ3)).bind fun ys ρ4 => (match wipeR vs ρ4 with
        | some ρ5 => (lc2L tg fi1 tg1 tt1 el vs vs1 (n + ys.length) ds ρ5).bind fun zs ρ6 => .ok (ys ++ zs) ρ6
        | none => .bad)) else .bad
def fLc2 (fi : IF) (tg : GF) (fi1 : IF) (tg1 : GF) (tt1 : TF) (el : EF) (vs vs1 : List Nat) : EF := fun ρ => (fi ρ).bind fun ds ρ1 => match wipeR vs ρ1 with
  | some ρ2 => (lc2L tg fi1 tg1 tt1 el vs vs1 0 ds ρ2).bind fun ys ρ3 => .ok (.own (.lst ys)) ρ3
  | none => .bad
/-- nothing of a second clause wipes what the first has set -/
structure Blk2 (X : Cx) (scope : Scope) (tg tg1 iter1 : Expr) (ifs1 : List Expr) (elt : Expr) (t : TG) (gt : GF) (is : List Nat) (wi1 : TI) (fi1 : IF) (t1 : TG) (gt1 : GF) (is1 : List Nat) (tt1 : TT) (ft1 : TF) (te : TE) (fe : EF) (T : AS) : Prop where
  g : ∀ (s : Shared) (H : Hp) (C : Addr) (cl : List (Str × Addr)) (fp : List Addr), SG (X.blk s H scope (compEnvC scope cl C X.env) fp) tg t gt is
  i1 : ∀ (s : Shared) (H : Hp) (C : Addr) (cl : List (Str × Addr)) (fp : List Addr), SI (X.blk s H scope (compEnvC scope cl C X.env) fp) (W0 T) tg1 iter1 wi1 fi1
  g1 : ∀ (s : Shared) (H : Hp) (C : Addr) (cl : List (Str × Addr)) (fp : List Addr), SG (X.blk s H scope (compEnvC scope cl C X.env) fp) tg1 t1 gt1 is1
  t1 : ∀ (s : Shared) (H : Hp) (C : Addr) (cl : List (Str × Addr)) (fp : List Addr), STs (X.blk s H scope (compEnvC scope cl C X.env) fp) (W0 T) ifs1 tt1 ft1
  e : ∀ (s : Shared) (H : Hp) (C : Addr) (cl : List (Str × Addr)) (fp : List Addr), SE (X.blk s H scope (compEnvC scope cl C X.env) fp) (W0 T) elt te fe
section
variable {X : Cx} {W : Wx} {elt tg iter tg1 iter1 : Expr} {ifs1 : List Expr} {scope : Scope} {own : List (Str × Nat)} {pos : Pos} {wi wi1 : TI} {t t1 : TG} {tt1 : TT} {te : TE} {fi fi1 : IF} {gt gt1 : GF} {ft1 : TF} {fe : EF} {is is1 vs vs1 : List Nat}
theorem sn_lc2 (hi : SI X W tg iter wi fi) (B : Blk2 X scope tg tg1 iter1 ifs1 elt t gt is wi1 fi1 t1 gt1 is1 tt1 ft1 te fe W.T) (hv : ∀ i ∈ is, i ∈ vs) (hv1 : ∀ i ∈ is1, i ∈ vs1) :
    ∀ (F : Fx) (S : AS) (H : Hp) (σ : St) (ρ : Rho) (Q : VK), F.K = X.K → F.Ok W.T → ER F S H σ ρ → PostE F W S H σ ρ (fLc2 fi gt fi1 gt1 ft1 fe vs vs1 ρ) Q → tLc2 wi t tYes wi1 t1 tt1 te vs vs1 σ H Q := by
  intro F S H σ ρ Q hK fok er hp
  refine hi.sn F S H σ ρ _ hK fok er ?_
  unfold fLc2 at hp
  cases q : fi ρ with
  | ex x ρ1 => rw [q] at hp; exact hp
  | bad => rw [q] at hp; exact hp
  | ok ds ρ1 =>
    rw [q] at hp
    intro J S1 H1 t1' er1 it D hD
    have hp : PostE F W S H σ ρ (match wipeR vs ρ1 with
      | some ρ2 => (lc2L gt fi1 gt1 ft1 fe vs vs1 0 ds ρ2).bind fun ys ρ3 => .ok (.own (.lst ys)) ρ3
      | none => .bad) Q := hp
    cases qw : wipeR vs ρ1 with
    | none => simp only [qw] at hp; exact hp.elim
    | some ρ2 =>
      simp only [qw] at hp
      obtain ⟨er2, no2, mu2, l2⟩ := wipeR_ok er1 qw
      have fD : F.H0 D = none := er1.new0 fok hD
      have hDS : H D = none := by
        cases w : H D with
        | none => rfl
        | some o => exact absurd hD (t1'.stay D (by rw [w]; exact fun z => nomatch z))
      cases qL : lc2L gt fi1 gt1 ft1 fe vs vs1 0 ds ρ2 with
      | bad => rw [qL] at hp; exact hp.elim
      | ex x ρ3 =>
        exfalso
        have nox : ∀ (ds : List PyData) (n : Nat) (ρ : Rho) (x : XV) (ρ' : Rho), lc2L gt fi1 gt1 ft1 fe vs vs1 n ds ρ ≠ .ex x ρ' := by
          intro ds
          induction ds with
          | nil => intro n ρ x ρ' h; cases h
          | cons d ds ih =>
            intro n ρ x ρ' h
            unfold lc2L at h
            cases w1 : gt d ρ with
            | none => simp only [w1] at h; cases h
            | some ρ1 =>
              simp only [w1] at h
              cases w2 : fi1 ρ1 with
              | ex _ _ => rw [w2] at h; cases h
              | bad => rw [w2] at h; cases h
              | ok es ρ2 =>
                rw [w2] at h
                simp only [noEx, Out.bind] at h
                by_cases hz : n + es.length ≤ 16777216
                · rw [if_pos hz] at h
                  cases w3 : wipeR vs1 ρ2 with
                  | none => simp only [w3] at h; cases h
                  | some ρ3 =>
                    simp only [w3] at h
                    cases w4 : lcL gt1 ft1 fe vs1 es ρ3 with
                    | ex _ _ => rw [w4] at h; cases h
                    | bad => rw [w4] at h; cases h
                    | ok ys ρ4 =>
                      rw [w4] at h
                      simp only at h
                      cases w5 : wipeR vs ρ4 with
                      | none => simp only [w5] at h; cases h
                      | some ρ5 =>
                        simp only [w5] at h
                        cases w6 : lc2L gt fi1 gt1 ft1 fe vs vs1 (n + ys.length) ds ρ5 with
                        | ex y ρ6 => exact ih _ _ _ _ w6
                        | bad => rw [w6] at h; cases h
                        | ok zs ρ6 => rw [w6] at h; cases h
                · rw [if_neg hz] at h; cases h
        exact nox _ _ _ _ _ qL
      | ok ys ρe =>
        rw [qL] at hp
        have hp : PostE F W S H σ ρ (.ok (.own (.lst ys)) ρe) Q := hp
        have ta : Tr S1 H1 σ ρ1 S1 H1 ρ2 := ⟨fun _ _ _ e _ => e, fun _ z => z, fun _ z => .inl z, fun _ z _ => z, fun i a z => mu2 i a ((mut_wipe no2).mpr z), fun _ z => z⟩
        have sS : Tr S H σ ρ (fun a => S1 a ∨ a = D) (upd H1 D (.lst [])) ρ2 := (t1'.trans er ta).trans er (Tr.allocS hD)
        have sI : TrS S1 H1 (fun a => S1 a ∨ a = D) (upd H1 D (.lst [])) := Tr.s er2 (Tr.allocS (σ := wipe σ vs) (ρ := ρ2) hD)
        have erS := er2.allocS (o := .lst []) hD
        have tmpS : RR F (fun a => S1 a ∨ a = D) (upd H1 D (.lst [])) (wipe σ vs) ρ2 (.ref D) (.own (.lst [])) := ⟨D, rfl, .inr rfl, fD, ⟨[], upd_same, .nil⟩, fun i z => er2.dom D (er2.mutS z) hD⟩
        refine ⟨fun i m H' => ∃ S' ρ' outs ys', m = ds.length - i ∧ i ≤ ds.length ∧ TrD D (fun a => S1 a ∨ a = D) (upd H1 D (.lst [])) (wipe σ vs) ρ2 S' H' ρ' ∧ ER F S' H' (wipe σ vs) ρ' ∧ NoAt vs ρ' ∧ RR F S' H' (wipe σ vs) ρ' (.ref D) (.own (.lst outs)) ∧
            lc2L gt fi1 gt1 ft1 fe vs vs1 outs.length (ds.drop i) ρ' = .ok ys' ρe ∧ outs ++ ys' = ys,
          ⟨ds.length, _, ρ2, [], ys, by simp, Nat.zero_le _, .refl, erS, no2, tmpS, qL, rfl⟩, ?_⟩
        rintro i m H' ⟨S', ρ', outs, ys', rfl, hle, tS, er', no', tmp', ok', ey⟩
        obtain ⟨itgo, itstop⟩ := it S' H' (sI.trans (tS.s erS (.inr rfl))) er'.dom
        by_cases hlt : i < ds.length
        · obtain ⟨hgo, hy⟩ := itgo i hlt
          refine .inr ⟨hgo, fun H'' => ∃ S' ρ' outs ys', TrD D (fun a => S1 a ∨ a = D) (upd H1 D (.lst [])) (wipe σ vs) ρ2 S' H'' ρ' ∧ ER F S' H'' (wipe σ vs) ρ' ∧ NoAt vs ρ' ∧ RR F S' H'' (wipe σ vs) ρ' (.ref D) (.own (.lst outs)) ∧
            lc2L gt fi1 gt1 ft1 fe vs vs1 outs.length (ds.drop (i + 1)) ρ' = .ok ys' ρe ∧ outs ++ ys' = ys, fun H'' ⟨S2, ρ2', o2, y2, b1, b2, b3, b4, b5, b6⟩ => ⟨ds.length - (i + 1), by omega, S2, ρ2', o2, y2, rfl, hlt, b1, b2, b3, b4, b5, b6⟩, fun x H'' y => ?_⟩
          obtain ⟨d, ed, same, rp⟩ := hy x H'' y
          have tG : TrD D S' H' (wipe σ vs) ρ' S' H'' ρ' := .grow same
          have er3 : ER F S' H'' (wipe σ vs) ρ' := er'.grow same (fun _ z => .inl z) (fun _ z => z) fun a z => tG.stay a (er'.dom a z)
          have tmp3 : RR F S' H'' (wipe σ vs) ρ' (.ref D) (.own (.lst outs)) := by
            obtain ⟨a, e, s, f, ok, n⟩ := tmp'
            exact ⟨a, e, s, f, ok.mono (fun b o _ e _ => same b o e) (fun _ z => .inl z) (fun o _ => same a o), n⟩
          have ed' : ds.drop i = d :: ds.drop (i + 1) := by
            rw [List.drop_eq_getElem_cons hlt]
            congr 1
            rw [List.getElem?_eq_getElem hlt] at ed
            exact Option.some.inj ed
          rw [ed'] at ok'
          unfold lc2L at ok'
          cases w : gt d ρ' with
          | none => simp only [w] at ok'; cases ok'
          | some ρ3 =>
            simp only [w] at ok'
            refine (B.g ({} : Shared) (fun _ => none) (0 : Nat) [] []).sn F S' H'' (wipe σ vs) ρ' ρ3 x d _ hK fok.nil er3 rp w fun σ3 as er4 => ?_
            have hwp : wipe σ3 vs = wipe σ vs := wipe_asg as hv
            refine ⟨hwp, ?_⟩
            have tmp4 : RR F S' H'' σ3 ρ3 (.ref D) (.own (.lst outs)) := by
              obtain ⟨a, e, s, f, ok, n⟩ := tmp3
              exact ⟨a, e, s, f, ok, fun i z => n i (as.mu i a z)⟩
            unfold tYes
            refine iteT ?_
            refine (B.i1 ({} : Shared) (fun _ => none) (0 : Nat) [] []).sn F S' H'' σ3 ρ3 _ hK fok er4 ?_
            cases w2 : fi1 ρ3 with
            | ex _ _ => rw [w2] at ok'; cases ok'
            | bad => rw [w2] at ok'; cases ok'
            | ok es ρ4 =>
              rw [w2] at ok'
              simp only [noEx, Out.bind] at ok'
              intro J1 S4 H4 t4 er5 it1
              by_cases hz : outs.length + es.length ≤ 16777216
              · rw [if_pos hz] at ok'
                cases w3 : wipeR vs1 ρ4 with
                | none => simp only [w3] at ok'; cases ok'
                | some ρ5 =>
                  simp only [w3] at ok'
                  obtain ⟨er6, no6, mu6, l6⟩ := wipeR_ok er5 w3
                  cases w4 : lcL gt1 ft1 fe vs1 es ρ5 with
                  | ex _ _ => rw [w4] at ok'; cases ok'
                  | bad => rw [w4] at ok'; cases ok'
                  | ok ys1 ρ6 =>
                    rw [w4] at ok'
                    simp only at ok'
                    have tmp5 := tmp4.tr er4 t4 (er5.len.trans er4.len.symm)
                    have tmp6 : RR F S4 H4 (wipe σ3 vs1) ρ5 (.ref D) (.own (.lst outs)) := by
                      obtain ⟨a, e, s, f, ok, n⟩ := tmp5
                      exact ⟨a, e, s, f, ok, fun i z => n i (mu6 i a z)⟩
                    refine lc_loop (ifs := ifs1) (elt := elt) (B.g1 ({} : Shared) (fun _ => none) (0 : Nat) [] []) (B.t1 ({} : Shared) (fun _ => none) (0 : Nat) [] []) (B.e ({} : Shared) (fun _ => none) (0 : Nat) [] []) hv1 hK fok er6 no6 tmp6 it1 hz w4 fun S7 H7 t7 er7 no7 tmp7 => ?_
                    cases w5 : wipeR vs ρ6 with
                    | none => simp only [w5] at ok'; cases ok'
                    | some ρ7 =>
                      simp only [w5] at ok'
                      have er7u : ER F S7 H7 σ3 ρ6 := er7.unwipe no7
                      obtain ⟨er8, no8, mu8, l8⟩ := wipeR_ok er7u w5
                      rw [hwp] at er8 mu8
                      cases qr : lc2L gt fi1 gt1 ft1 fe vs vs1 (outs.length + ys1.length) (ds.drop (i + 1)) ρ7 with
                      | ex x ρ8 => rw [qr] at ok'; cases ok'
                      | bad => rw [qr] at ok'; cases ok'
                      | ok zs ρ8 =>
                        rw [qr] at ok'
                        simp only [Out.ok.injEq] at ok'
                        obtain ⟨e1, e2⟩ := ok'
                        subst e1 e2
                        refine ⟨S7, ρ7, outs ++ ys1, zs, ?_, er8, no8, ?_, by rw [List.length_append]; exact qr, by rw [← ey]; simp⟩
                        · have u : TrD D S' H'' σ3 ρ3 S7 H7 ρ6 := t4.d.trans (t7.slots (σ := σ3) (ρ := ρ4) (ρ' := ρ6) mu6 fun i a z => (mut_wipe no7).mpr z)
                          exact (tS.trans tG).trans (u.slots (σ := wipe σ vs) (ρ := ρ') (ρ' := ρ7) as.mu mu8)
                        · obtain ⟨a, e, s, f, ok, n⟩ := tmp7
                          exact ⟨a, e, s, f, ok, fun j z => n j ((mut_wipe no7).mpr (mu8 j a z))⟩
              · rw [if_neg hz] at ok'; cases ok'
        · have e : i = ds.length := by omega
          subst e
          rw [List.drop_length] at ok'
          have ok' : Out.ok ([] : List PyData) ρ' = .ok ys' ρe := ok'
          cases ok'
          rw [List.append_nil] at ey
          subst ey
          refine .inl ⟨itstop _ (Nat.le_refl _), ?_⟩
          refine hp (.ref D) S' H' ?_ (er'.unwipe no') ?_ fun a e => by cases e; exact hDS
          · exact sS.transD (tS.slots (fun i a z => (mut_wipe no2).mp z) fun i a z => (mut_wipe no').mpr z) hDS
          · obtain ⟨a, e, s, f, ok, n⟩ := tmp'
            exact ⟨a, e, s, f, ok, fun j z => n j ((mut_wipe no').mpr z)⟩
theorem se_lc2 (hc : X.calm = true) (hN : X.N.Nodup) (hi : SI X W tg iter wi fi) (ok : BlkOk X.N X.env.scope scope own) (hvs : ∀ i ∈ vs1, i ∈ own.map (·.2)) (B : Blk2 X scope tg tg1 iter1 ifs1 elt t gt is wi1 fi1 t1 gt1 is1 tt1 ft1 te fe W.T) (hv : ∀ i ∈ is, i ∈ own.map (·.2)) (hv1 : ∀ i ∈ is1, i ∈ vs1)
    (hs : ∀ x, foldedSetIterable iter X.env x = pure x := by intro _; rfl) (hs1 : ∀ env x, foldedSetIterable iter1 env x = pure x := by intro _ _; rfl) :
    SE X W (.ListComp elt [⟨tg, iter, [], 0⟩, ⟨tg1, iter1, ifs1, 0⟩] scope pos) (tLc2 wi t tYes wi1 t1 tt1 te (own.map (·.2)) vs1) (fLc2 fi gt fi1 gt1 ft1 fe (own.map (·.2)) vs1) :=
  ⟨pe_lc2 hc hN hi.pi ok hvs (fun s H C cl fp => (B.g s H C cl fp).pg) (fun _ _ _ _ _ => pts_nil) (fun s H C cl fp => (B.i1 s H C cl fp).pi) (fun s H C cl fp => (B.g1 s H C cl fp).pg) (fun s H C cl fp => (B.t1 s H C cl fp).pt) (fun s H C cl fp => (B.e s H C cl fp).pe) hs hs1, sn_lc2 hi B hv hv1⟩
theorem ss_setLc2 {i : Nat} {y : Str} {py spos : Pos} (hc : X.calm = true) (hN : X.N.Nodup) (hy : X.N[i]? = some y) (hyl : X.env.scope.names.lookup y = some .local)
    (hsw : swapsWith (.ListComp elt [⟨tg, iter, [], 0⟩, ⟨tg1, iter1, ifs1, 0⟩] scope pos) (some (.Name y py)) spos.line X.env = pure true) (hi : SI X W tg iter wi fi) (ok : BlkOk X.N X.env.scope scope own) (hvs : ∀ i ∈ vs1, i ∈ own.map (·.2)) (B : Blk2 X scope tg tg1 iter1 ifs1 elt t gt is wi1 fi1 t1 gt1 is1 tt1 ft1 te fe W.T)
    (hv : ∀ i ∈ is, i ∈ own.map (·.2)) (hv1 : ∀ i ∈ is1, i ∈ vs1) (hs : ∀ x, foldedSetIterable iter X.env x = pure x := by intro _; rfl) (hs1 : ∀ env x, foldedSetIterable iter1 env x = pure x := by intro _ _; rfl) :
    SS X W (.Assign [.Name y py] (.ListComp elt [⟨tg, iter, [], 0⟩, ⟨tg1, iter1, ifs1, 0⟩] scope pos) spos) (tAsg (tLc2 wi t tYes wi1 t1 tt1 te (own.map (·.2)) vs1) (gName i)) (gSet i (fLc2 fi gt fi1 gt1 ft1 fe (own.map (·.2)) vs1)) :=
  ⟨ps_setLc2 hc hN hy hyl hsw hi.pi ok hvs (fun s H C cl fp => (B.g s H C cl fp).pg) (fun _ _ _ _ _ => pts_nil) (fun s H C cl fp => (B.i1 s H C cl fp).pi) (fun s H C cl fp => (B.g1 s H C cl fp).pg) (fun s H C cl fp => (B.t1 s H C cl fp).pt) (fun s H C cl fp => (B.e s H C cl fp).pe) hs hs1, sn_set (sn_lc2 hi B hv hv1)⟩
end
end Pv
set_option maxRecDepth 100000
/-! PvM: sorted(list); a dict display with one tuple key. -/
namespace Pv
open PySem PySem.Spec L2

/-! ### a stable sort -/
def insD (d : PyData) : List PyData → List PyData
  | [] => [d]
  | e :: es => if PySem.W.dataLt e d then e :: insD d es else d :: e :: es
def isortD : List PyData → List PyData
  | [] => []
  | d :: ds => insD d (isortD ds)
abbrev leD : PyData → PyData → Bool := PySem.W.dataLe false fun d => d
theorem leD_total : PySem.W.TotalLe leD := PySem.W.sortLe_total _ _ _
theorem leD_eq (x y : PyData) : leD x y = !PySem.W.dataLt y x := rfl
theorem insD_mem {d x : PyData} : ∀ {es : List PyData}, x ∈ insD d es → x = d ∨ x ∈ es
  | [], h => by simp [insD] at h; exact .inl h
  | e :: es, h => by
    unfold insD at h
    split at h
    · rcases List.mem_cons.mp h with h | h
      · exact .inr (h ▸ List.mem_cons_self)
      · rcases insD_mem h with h | h
        · exact .inl h
        · exact .inr (List.mem_cons_of_mem _ h)
    · rcases List.mem_cons.mp h with h | h
      · exact .inl h
      · exact .inr h
theorem insD_sorted {d : PyData} : ∀ {es : List PyData}, es.Pairwise (fun a b => leD a b = true) → (insD d es).Pairwise (fun a b => leD a b = true)
  | [], _ => by simp [insD]
  | e :: es, h => by
    rw [List.pairwise_cons] at h
    unfold insD
    split
    · rename_i hlt
      refine List.pairwise_cons.mpr ⟨fun x hx => ?_, insD_sorted h.2⟩
      rcases insD_mem hx with q | q
      · subst q
        rcases leD_total.total e x with z | z
        · exact z
        · rw [leD_eq, hlt] at z; cases z
      · exact h.1 x q
    · rename_i hlt
      have hle : leD d e = true := by rw [leD_eq]; simpa using hlt
      refine List.pairwise_cons.mpr ⟨fun x hx => ?_, List.pairwise_cons.mpr h⟩
      rcases List.mem_cons.mp hx with q | q
      · rw [q]; exact hle
      · exact leD_total.trans _ _ _ hle (h.1 x q)
theorem insD_filter {d : PyData} (c : PyData) : ∀ {es : List PyData}, (insD d es).filter (PySem.W.sameRank leD c) = (d :: es).filter (PySem.W.sameRank leD c)
  | [] => rfl
  | e :: es => by
    unfold insD
    split
    · rename_i hlt
      have ih := insD_filter (d := d) c (es := es)
      by_cases h1 : PySem.W.sameRank leD c e = true
      · have h2 : ¬ PySem.W.sameRank leD c d = true := fun h2 => by
          unfold PySem.W.sameRank at h1 h2
          rw [Bool.and_eq_true] at h1 h2
          have z := leD_total.trans _ _ _ h2.2 h1.1
          rw [leD_eq, hlt] at z
          cases z
        rw [List.filter_cons_of_pos h1, ih, List.filter_cons_of_neg h2, List.filter_cons_of_neg h2, List.filter_cons_of_pos h1]
      · rw [List.filter_cons_of_neg h1, ih]
        by_cases h2 : PySem.W.sameRank leD c d = true
        · rw [List.filter_cons_of_pos h2, List.filter_cons_of_pos h2, List.filter_cons_of_neg h1]
        · rw [List.filter_cons_of_neg h2, List.filter_cons_of_neg h2, List.filter_cons_of_neg h1]
    · rfl
theorem isortD_sorted : ∀ (ds : List PyData), (isortD ds).Pairwise (fun a b => leD a b = true)
  | [] => .nil
  | d :: ds => insD_sorted (isortD_sorted ds)
theorem isortD_filter (c : PyData) : ∀ (ds : List PyData), (isortD ds).filter (PySem.W.sameRank leD c) = ds.filter (PySem.W.sameRank leD c)
  | [] => rfl
  | d :: ds => by
    show (insD d (isortD ds)).filter _ = _
    rw [insD_filter c]
    by_cases h : PySem.W.sameRank leD c d = true
    · rw [List.filter_cons_of_pos h, List.filter_cons_of_pos h, isortD_filter c ds]
    · rw [List.filter_cons_of_neg h, List.filter_cons_of_neg h, isortD_filter c ds]
theorem isortD_eq (ds : List PyData) : isortD ds = ds.mergeSort leD := PySem.W.sort_unique leD_total (isortD_sorted ds) fun c => isortD_filter c ds

/-! ### sorted(list) -/
def tup1 : PyData → Bool
  | .tuple (_ :: _) => true
  | _ => false
def plain1 : PyData → Bool
  | .none => false
  | .tuple _ => false
  | _ => true
def alikesD (ds : List PyData) : Bool := ds.all fun x => ds.all fun y => PySem.W.alike x y
def sortOk (ds : List PyData) : Bool := PyData.canLayAll0 ds && (ds.all tup1 || ds.all plain1) && alikesD ds && ds.all (fun d => decide (d.depth ≤ 60)) && decide (ds.length ≤ 16777216)
def gSorted : List PyData → Option R
  | [.list ds] => if sortOk ds then some (.own (.lst (isortD ds))) else none
  | _ => none
def zipSort (xs : List V) (ds : List PyData) : List (V × PyData) := (xs.zip ds).mergeSort (PySem.W.dataLe false (·.2))
def rSortD (K : PySem.W.Frag) : List V → Hp → VK → Prop := fun vs H Q => ∃ (a : Addr) (xs : List V) (ds : List PyData), vs = [.ref a] ∧ SqL K H a xs ∧ DpAll K H xs ds ∧ PySem.W.AllAlike ds ∧ PySem.W.Sortable ds ∧ (∀ d ∈ ds, d.depth ≤ 60) ∧ ds.length ≤ sizeLine ∧
  ∀ p, H p = none → Q (.ref p) (upd H p (.lst ((zipSort xs ds).map (·.1))))
theorem zip_snd : ∀ {xs : List V} {ds : List PyData}, xs.length = ds.length → (xs.zip ds).map (·.2) = ds
  | [], [], _ => rfl
  | _ :: _, [], h => by simp at h
  | [], _ :: _, h => by simp at h
  | x :: xs, d :: ds, h => by
    rw [List.zip_cons_cons, List.map_cons, zip_snd (by simpa using h)]
theorem zipSort_snd {xs : List V} {ds : List PyData} (h : xs.length = ds.length) : (zipSort xs ds).map (·.2) = isortD ds := by
  rw [isortD_eq]
  unfold zipSort
  have z := PySem.W.sort_maps (r := PySem.W.dataLe false (fun p : V × PyData => p.2)) (s := leD) (l := xs.zip ds) (fun p : V × PyData => p.2) (fun a _ b _ => rfl)
  rw [zip_snd h] at z
  exact z
theorem dpAll_len {K : PySem.W.Frag} {H : Hp} : ∀ {xs : List V} {ds : List PyData}, DpAll K H xs ds → xs.length = ds.length
  | _, _, .nil => rfl
  | _, _, .cons _ h => by rw [List.length_cons, List.length_cons, dpAll_len h]
theorem zip_vals {X : Cx} {pins : List (Addr × Obj)} {σ : St} {H : Hp} {s : Shared} (I : Inv X pins σ H s) : ∀ {xs : List V} {ds : List PyData} {its : List Value}, Vals xs its → DpAll X.K H xs ds →
    PySem.W.EachIs (fun v (p : V × PyData) => RelV p.1 v) its (xs.zip ds) ∧ PySem.W.EachIs (fun v (p : V × PyData) => ∃ as, Reads s.heap v p.2 as) its (xs.zip ds)
  | _, _, _, .nil, .nil => ⟨.nil, .nil⟩
  | _, _, _, .cons r rs, .cons h hs => by
    obtain ⟨e1, e2⟩ := zip_vals I rs hs
    exact ⟨.cons r e1, .cons (Dp.reads I _ _ _ h r) e2⟩
theorem each_vals : ∀ {out : List Value} {ps : List (V × PyData)}, PySem.W.EachIs (fun v (p : V × PyData) => RelV p.1 v) out ps → Vals (ps.map (·.1)) out
  | _, _, .nil => .nil
  | _, _, .cons h hs => .cons h (each_vals hs)
theorem call_sortD {X : Cx} (hu : X.A.units + 65 < cLine) : CallR X (.builtin "sorted") (rSortD X.K) := by
  intro pins s σ H vs us Q I r h
  obtain ⟨a, xs, ds, rfl, hs, hd, hal, hso, hdp, hln, q⟩ := h
  obtain ⟨its, rv, hl, _⟩ := I.list hs
  rw [Vals.ref1 r]
  have el := dpAll_len hd
  obtain ⟨e1, e2⟩ := zip_vals I rv hd
  have ezip := zip_snd el
  have lz : (xs.zip ds).length = ds.length := by rw [List.length_zip, el, Nat.min_self]
  refine PySem.W.sorted_data (enc := fun p : V × PyData => p.2) (vs := its) hl.isList e1 e2 (by rw [ezip]; exact hal) (by rw [ezip]; exact hso) (by rw [lz]; exact hln) (fun b hb => ?_) fun out h1 h2 => ?_
  · have hm : b.2 ∈ ds := by rw [← ezip]; exact List.mem_map_of_mem hb
    have := hdp _ hm
    omega
  · obtain ⟨ep, he'⟩ := PyProof.Rows.sortedAll_at s.heap its out.toArray
    have hlen : ((zipSort xs ds).map (·.1)).length ≤ sizeLine := by
      unfold zipSort
      rw [List.length_map, List.length_mergeSort, lz]; exact hln
    exact ⟨.ref _, upd H (s.heap.objs.size + 1) (.lst ((zipSort xs ds).map (·.1))), I.laid (t' := s.toks) (fun _ _ => PyProof.Rows.sortedAll_old) (Nat.le_succ _) ⟨hlen, out, ep, each_vals h2, he'⟩, rfl, q _ (I.hok.fresh (Nat.le_succ _))⟩
theorem rpA_pairs {K : PySem.W.Frag} {S : AS} {H : Hp} : ∀ (l : List (V × PyData)), (∀ p ∈ l, Rp K S H p.1 p.2) → RpA K S H (l.map (·.1)) (l.map (·.2))
  | [], _ => .nil
  | p :: l, h => .cons (h p List.mem_cons_self) (rpA_pairs l fun q hq => h q (List.mem_cons_of_mem _ hq))
theorem rpA_zip {K : PySem.W.Frag} {S : AS} {H : Hp} : ∀ {xs : List V} {ds : List PyData}, RpA K S H xs ds → ∀ p ∈ xs.zip ds, Rp K S H p.1 p.2
  | _, _, .nil, p, hp => by cases hp
  | _, _, .cons h hs, p, hp => by
    rw [List.zip_cons_cons] at hp
    rcases List.mem_cons.mp hp with q | q
    · rw [q]; exact h
    · exact rpA_zip hs p q
theorem cg_sorted {K : PySem.W.Frag} : CallG K (rSortD K) gSorted := by
  intro S H vs ds res Q dom hs e q
  unfold gSorted at e
  split at e
  · rename_i ds
    split at e
    · rename_i ok
      obtain ⟨v, rfl, rt⟩ := hs.one
      obtain ⟨a, xs, rfl, ha, h⟩ := rt.list
      cases e
      unfold sortOk alikesD at ok
      simp only [Bool.and_eq_true, decide_eq_true_eq, List.all_eq_true, Bool.or_eq_true] at ok
      obtain ⟨⟨⟨⟨o1, o2⟩, o3⟩, o4⟩, o5⟩ := ok
      refine ⟨a, xs, ds, rfl, ha, h.dp o1, fun d hd d' hd' => o3 d hd d' hd', ?_, o4, by rw [sizeLine_eq]; exact o5, fun p hp => ?_⟩
      · rcases o2 with o2 | o2
        · refine .inl fun d hd => ?_
          have := o2 d hd
          unfold tup1 at this
          split at this
          · exact ⟨_, _, rfl⟩
          · cases this
        · refine .inr fun d hd => ?_
          have := o2 d hd
          refine ⟨fun z => ?_, fun xs z => ?_⟩ <;> (rw [z] at this; cases this)
      · refine q _ _ _ (.lst hp ?_)
        rw [← zipSort_snd h.length]
        refine rpA_pairs _ fun p hp => ?_
        unfold zipSort at hp
        rw [List.mem_mergeSort] at hp
        exact rpA_zip h p hp
    · cases e
  · cases e

/-! ### {k: v} with k a tuple -/
def tDisp1 (tk tv : TE) : TE := fun σ H Q => ∀ p, H p = none → tk σ (upd H p (.dT [])) fun x H1 => tv σ H1 fun y H2 => ∃ (b : Addr) (ks : List Key), H2 p = some (.dT []) ∧ x = .ref b ∧ H2 b = some (.tup (ks.map kV)) ∧ Q (.ref p) (upd H2 p (.dT [(ks, y)]))
theorem pe_disp1 {X : Cx} {pos : Pos} {k v : Expr} {tk tv : TE} (hu : X.A.units + 1 < cLine) (hk : PE X k tk) (hv : PE X v tv) : PE X (.Dict [some k] [v] pos) (tDisp1 tk tv) := by
  refine ⟨fun pins s σ H Q I q => ?_⟩
  have hn := I.hok.fresh (Nat.le_refl s.heap.objs.size)
  have I1 := I.laid (a := s.heap.objs.size) (o := .dT []) (h' := s.heap.push { cls := .type "dict", data := .dict #[] }) (t' := s.toks) (fun _ _ q => Heap.get?_push_of_some _ q) (Nat.le_refl _) (dt_empty s.heap I.big)
  rw [arm_eval_Dict, zip_pairTrees [some k] [v] X.env pos rfl rfl, dictDisplay_pairs (pairTrees [some k] [v] X.env pos) (by simp [pairTrees]) (by simp [pairTrees])]
  refine wpAny_bind (wpAny_standAt (wpAny_bind (wpAny_subDictH (knd := tupleKind (mixKind X.prog X.w)) (show X.A.units < cLine by omega) (by simp [pairTrees]) ?_)))
  refine pairTrees_cons_walk (thn (hk.run pins _ σ _ _ I1 (q _ hn)) fun u s1 ⟨x, H1, I2, rx, q1⟩ => thn (hv.run pins s1 σ H1 _ I2 q1) fun w2 s2 ⟨y, H2, I3, ry, q2⟩ => pairTrees_nil_walk ?_)
  obtain ⟨b, ks, e, ex, eb, q3⟩ := q2
  subst ex
  cases (show u = Value.ref b from rx)
  obtain ⟨z, hd, xs, rel, dd⟩ := dt_of I3.hok e
  cases rel
  refine ⟨[(ks, b, w2)], ⟨rfl, rfl, key_of I3.hok eb, trivial⟩, dd, fun h' tk' dd' hs => wpAny_pure ⟨.ref s.heap.objs.size, _, ?_, rfl, q3⟩⟩
  obtain ⟨o, es, ep, hq, h2, h3, h4, _, h5⟩ := dd'
  have rel' : KT H2 [(ks, y)] [(ks, b, w2)] := .cons ⟨rfl, eb, ry⟩ .nil
  refine d_write I3 (by rw [e]; exact True.intro) hs ⟨o, hq⟩ ⟨by show 1 ≤ sizeLine; decide, hd, _, rel'.keeps fun c ys ec => ?_, o, es, ep, hq, h2, h3, h4, h5⟩
  rw [upd_ne (ne_of ec e (fun z => nomatch z))]
  exact ec
def fDisp1 (fk fv : EF) : EF := fun ρ => (fk ρ).bind fun rk ρ1 => (fv ρ1).bind fun rv ρ2 => match rk, rv with
  | .val (.tuple xs), .val d => (match keysOf xs with
    | some ks => .ok (.own (.dT [(ks, d)])) ρ2
    | none => .bad)
  | _, _ => .bad
theorem se_disp1 {X : Cx} {W : Wx} {pos : Pos} {k v : Expr} {tk tv : TE} {fk fv : EF} (hu : X.A.units + 1 < cLine) (hk : SE X W k tk fk) (hv : SE X W v tv fv) : SE X W (.Dict [some k] [v] pos) (tDisp1 tk tv) (fDisp1 fk fv) := by
  refine ⟨pe_disp1 hu hk.pe hv.pe, fun F S H σ ρ Q hK fok er hp p hpn => ?_⟩
  obtain ⟨t0, er0, rr0, fr0⟩ := (Grow.dT0 (K := F.K) (S := S) hpn).step er fok
  refine hk.sn F _ _ σ ρ _ hK fok er0 ?_
  unfold fDisp1 at hp
  cases q1 : fk ρ with
  | ex x ρ1 => rw [q1] at hp; exact PostE.shift (o := .ex x ρ1) (Q := Q) er t0 hp
  | bad => rw [q1] at hp; exact hp
  | ok rk ρ1 =>
    rw [q1] at hp
    intro x S1 H1 t1 er1 rr1 _
    refine hv.sn F _ _ σ ρ1 _ hK fok er1 ?_
    simp only [Out.bind] at hp
    cases q2 : fv ρ1 with
    | ex x ρ2 => rw [q2] at hp; exact PostE.shift (o := .ex x ρ2) (Q := Q) er (t0.trans er t1) hp
    | bad => rw [q2] at hp; exact hp
    | ok rv ρ2 =>
      rw [q2] at hp
      intro y S2 H2 t2 er2 rr2 _
      have rr1' := rr1.tr er1 t2 (er2.len.trans er1.len.symm)
      have rr0' := (rr0.tr er0 t1 (er1.len.trans er0.len.symm)).tr er1 t2 (er2.len.trans er1.len.symm)
      match rk, rv, rr1', rr2, hp with
      | .val (.tuple xs), .val d, rr1', rr2, hp2 =>
        have hp3 : PostE F W S H σ ρ (match keysOf xs with
          | some ks => .ok (.own (.dT [(ks, d)])) ρ2
          | none => .bad) Q := hp2
        clear hp2
        cases qk : keysOf xs with
        | none => simp only [qk] at hp3; exact hp3.elim
        | some ks =>
          simp only [qk] at hp3
          have hp4 : PostE F W S H σ ρ (.ok (.own (.dT [(ks, d)])) ρ2) Q := hp3
          obtain ⟨rfl, b, rfl, hb⟩ := (show RT F.K S2 H2 x (.tuple xs) from .inl rr1').keyT qk
          obtain ⟨a, ea, sa, fa, ok, nm⟩ := rr0'
          cases ea
          have nt2 : ∀ ps, H2 p ≠ some (.tbl ps) := MOk.nt ok
          obtain ⟨kvs, e1, e2, e3⟩ := ok
          have ek : kvs = [] := by cases kvs with
            | nil => rfl
            | cons _ _ => simp at e2
          subst ek
          have off : ∀ c o, NT o → H2 c = some o → ¬ S2 c → upd H2 p (.dT [(ks, y)]) c = some o := fun c o _ e n => by
            rw [upd_ne fun z => n (by rw [z]; exact sa)]
            exact e
          have T := (t0.trans er t1).trans er t2
          refine ⟨b, ks, e1, rfl, hb, ?_⟩
          refine hp4 (.ref p) S2 _ ⟨fun c o nt e n => ?_, (fun c h => ?_), T.new, T.old, T.mu, fun c e => ?_⟩ (er2.wTemp sa fa nm nt2) ⟨p, rfl, sa, fa, ⟨_, upd_same, rfl, .cons ?_ .nil⟩, nm⟩ (fun a e => by cases e; exact hpn)
          · rw [upd_ne (ne_of_none e hpn)]; exact T.off c o nt e n
          · obtain ⟨ps, e, t⟩ := T.tb c h
            exact ⟨ps, by rw [upd_ne fun z => nt2 ps (by rw [← z]; exact e)]; exact e, t⟩
          · unfold upd
            split
            · exact fun z => nomatch z
            · exact T.stay c e
          · exact Rp.mono off (fun _ z => .inl z) rr2
      | .val (.tuple xs), .own _, _, _, hp2 => exact hp2.elim
      | .val (.tuple xs), .slot _, _, _, hp2 => exact hp2.elim
      | .val .none, _, _, _, hp2 => exact hp2.elim
      | .val (.bool _), _, _, _, hp2 => exact hp2.elim
      | .val (.int _), _, _, _, hp2 => exact hp2.elim
      | .val (.str _), _, _, _, hp2 => exact hp2.elim
      | .val (.list _), _, _, _, hp2 => exact hp2.elim
      | .val (.dict _), _, _, _, hp2 => exact hp2.elim
      | .own _, _, _, _, hp2 => exact hp2.elim
      | .slot _, _, _, _, hp2 => exact hp2.elim
end Pv
set_option maxRecDepth 100000
/-! PvN: a def that can be called, small change. -/
namespace Pv
open PySem PySem.Spec L2

/-- a def of the text, as a caller needs it -/
structure Cal (P : Program) (w : World) (K : PySem.W.Frag) (mg : Str → Option Value) (base : Heap) (T : AS) (x : Str) (k : Nat) (ps : List Str) (Fn : FN) (f : Addr) (fd : FuncData) : Prop where
  ok : FnOk P w K mg base (L2N.CX P w) k f fd ps (spF K T ps.length Fn)
  mg : mg x = some (.ref f)
  kp : PySem.W.keepIn K (.ref f) = true
  bi : Binds K fd ps []
section
variable {X : Cx} {W : Wx} {e : Expr} {es : List Expr} {t : TA} {fr : RF} {k : Nat} {f : Addr} {fd : FuncData} {ps : List Str} {Fn : FN} {x : Str} {p pos : Pos} {ta : TE} {fa : EF} {a : Expr}
theorem se_callC (C : Cal X.prog X.w X.K X.mg X.base W.T x k ps Fn f fd) (hr : Room k X.A) (tk : L2N.Takes X W.w) (hg : Gl X x) (ha : SAc X W (e :: es) t fr) (hn : (e :: es).length = ps.length := by rfl) (hdb : (x == ("__debug__" : Str)) = false := by decide)
    (he : starEach (e :: es) X.env = (false, eval e X.env) :: starEach es X.env := by rfl) (hpl : (backTo pos (starEach es X.env)).any (·.1) = false := by rfl) :
    SE X W (.Call (.Name x p) (e :: es) [] pos) (tCallS (spF X.K W.T ps.length Fn) (WE W.w) t) (fCall Fn fr) :=
  se_call C.ok hr tk hg C.mg C.kp C.bi ha hn hdb he hpl
/-- an argument given away -/
def cConsF (fa : EF) (fr : RF) : RF := fun ρ => bindF (fa ρ) fun d ρ1 => (fr ρ1).bind fun rs ρ2 => .ok (.val d :: rs) ρ2
theorem sc_consF (ha : SE X W e ta fa) (hr : SAc X W es t fr) (hs : starEach (e :: es) X.env = (false, eval e X.env) :: starEach es X.env := by rfl) : SAc X W (e :: es) (tCons ta t) (cConsF fa fr) := by
  refine ⟨pa_cons ha.pe hr.pa hs, fun F S H σ ρ Q hK fok er hp => ?_, fun ρ rs ρ' eq => ?_⟩
  · refine ha.goF hK fok er (wR F W σ Q) hp fun d ρ1 v S1 H1 t1 er1 rp1 hp1 => ?_
    refine hr.sn F S1 H1 σ ρ1 _ hK fok er1 ?_
    have hp1 : PostR F W S1 H1 σ ρ1 ((fr ρ1).bind fun rs ρ2 => .ok (.val d :: rs) ρ2) Q := hp1
    cases q : fr ρ1 with
    | ok rs ρ2 =>
      rw [q] at hp1
      exact fun vs S2 H2 t2 er2 rr2 => hp1 (v :: vs) S2 H2 t2 er2 (.cons (rp1.tr er1 t2) rr2)
    | ex x ρ2 => rw [q] at hp1; exact hp1
    | bad => rw [q] at hp1; exact hp1
  · unfold cConsF bindF at eq
    cases q : fa ρ with
    | ex x ρ1 => rw [q] at eq; cases eq
    | bad => rw [q] at eq; cases eq
    | ok r0 ρ1 =>
      rw [q] at eq
      simp only at eq
      cases z : freeze ρ1 r0 with
      | none => simp only [z] at eq; cases eq
      | some p =>
        obtain ⟨d, ρ2⟩ := p
        simp only [z] at eq
        cases q2 : fr ρ2 with
        | ex x ρ3 => rw [q2] at eq; cases eq
        | bad => rw [q2] at eq; cases eq
        | ok rs2 ρ3 =>
          rw [q2] at eq
          cases eq
          rw [List.length_cons, List.length_cons, hr.ln _ _ _ q2]
/-- -a -/
def gNeg : PyData → Option R
  | .int i => some (.val (.int (-i)))
  | _ => none
def outU (g : PyData → Option R) (r : R) (ρ : Rho) : Out R := match deref ρ r with
  | some d => (match g d with
    | some r => .ok r ρ
    | none => .bad)
  | none => .bad
def fNeg (fa : EF) : EF := fun ρ => (fa ρ).bind (outU gNeg)
theorem se_neg (ha : SE X W a ta fa) : SE X W (.UnaryOp .USub a pos) (tUn (rU fun i => .int (-i)) ta) (fNeg fa) := by
  refine ⟨pe_un un_neg ha.pe, fun F S H σ ρ Q hK fok er hp => ?_⟩
  refine ha.go hK fok er (wE F W σ Q) hp fun r ρ1 v1 S1 H1 t1 er1 rr1 _ hp1 => ?_
  have hp1 : PostE F W S1 H1 σ ρ1 (outU gNeg r ρ1) Q := hp1
  unfold outU at hp1
  cases qa : deref ρ1 r with
  | none => simp only [qa] at hp1; exact hp1.elim
  | some d =>
    simp only [qa] at hp1
    have rt := rr1.rt er1 qa
    cases d with
    | int i =>
      cases rt.int
      exact ⟨i, rfl, hp1 _ S1 H1 .refl er1 (.int _) trivial⟩
    | _ => exact hp1.elim
end
/-- a def that isn't reached -/
theorem fnF_never {n : Nat} {ss : List Slot} : fnF n gNever ss = .bad := rfl
/-- the law's own def, handed the script -/
theorem spF_law {K : PySem.W.Frag} {T : AS} {Fn : FN} {m : Option MO} {H : Hp} {a : Addr} {ns : List Int} (h : Fn [.val (.list (ns.map PyData.int))] = .ok (.val (.bool true)) m) (hS : SqL K H a (ns.map V.int)) (hT : ∀ a, T a → GxR.TabG H a) :
    spF K T 1 Fn [.ref a] H (fun v _ => v = .bl true) fun _ _ _ => False := by
  have hl : LAt K (fun _ => False) H a (ns.map V.int) := by
    rcases hS with hS | hS
    · exact .inl ⟨fun z => z, hS⟩
    · exact .inr hS
  have hr : ∀ ns : List Int, RpA K (fun _ => False) H (ns.map V.int) (ns.map PyData.int) := fun ns => by
    induction ns with
    | nil => exact .nil
    | cons n ns ih => exact .cons (.int n) ih
  refine ⟨fun _ => False, [.val (.list (ns.map PyData.int))], rfl, .cons (.lst hl (hr ns)) .nil, rfl, fun _ z => z.elim, hT, ?_⟩
  rw [h]
  intro v S' H' _ _ rr
  cases (show Rp K S' H' v (.bool true) from rr)
  rfl
theorem cx_end {P : Program} {w : World} {H : Hp} {s : Shared} {e : Value} {s' : Shared} (h : L2N.CX P w [] H s (fun _ _ _ => False) e s') : False := by
  obtain ⟨_, _, _, _, _, _, _, _, _, _, _, _, z⟩ := h
  exact z
theorem hu1 {A : Around} {k : Nat} (h : Room k A) : A.units + 1 < cLine := by have := h.un; omega
theorem hu64 {A : Around} {k : Nat} (h : Room k A) : A.units + 64 < cLine := by have := h.un; omega
theorem hu65 {A : Around} {k : Nat} (h : Room k A) : A.units + 65 < cLine := by have := h.un; omega

/-! ### x, y = a, b where a name is shared with a block -/
section
variable {X : Cx} {W : Wx} {ta : TA} {fr : RF}
theorem par2_go {es : List Expr} {i j : Nat} (ha : SAo X W es ta fr) : ∀ (F : Fx) (S : AS) (H : Hp) (σ : St) (ρ : Rho) (D : Ends), F.K = X.K → F.Ok W.T → ER F S H σ ρ → PostS F W S H (gPar2 i j fr ρ) D → ∀ Qf : List V → Hp → Prop, (∀ v w H1, D.nx ((σ.set i (some v)).set j (some w)) H1 → Qf [v, w] H1) → ta σ H Qf := by
  intro F S H σ ρ D hK fok er hp Qf hf
  refine ha.sn F S H σ ρ _ hK fok er ?_
  unfold gPar2 at hp
  cases q : fr ρ with
  | ex x ρ1 => rw [q] at hp; exact fun cls dx S1 H1 t1 er1 xr => hp cls dx σ S1 H1 (t1.s er) er1 xr
  | bad => rw [q] at hp; exact hp
  | ok rs ρ1 =>
    rw [q] at hp
    intro vs S1 H1 t1 er1 rr1 fd
    match rs, rr1, fd, hp with
    | [r, u], .cons (v := v) h1 (.cons (v := w) h2 .nil), ⟨f1, f2, f3⟩, hp =>
      have hp1 := PostS.shift (t1.s er) hp
      simp only [toS] at hp1
      by_cases pl : (plainR r && plainR u) = true
      · rw [if_pos pl] at hp1
        rw [Bool.and_eq_true] at pl
        cases q1 : storeP i r ρ1 with
        | none => simp only [q1] at hp1; exact hp1.elim
        | some ρ2 =>
          simp only [q1] at hp1
          obtain ⟨er2, l2, mu2⟩ := storeP_ok er1 h1 q1
          have h2' : RR F S1 H1 (σ.set i (some v)) ρ2 w u := h2.past pl.2 mu2 fun a m m' e1 e2 e3 e4 => f3 a m e1 e2 0 m' (by rw [e3]; rfl) (by rw [e4]; rfl)
          cases q2 : storeP j u ρ2 with
          | none => simp only [q2] at hp1; exact hp1.elim
          | some ρ3 =>
            simp only [q2] at hp1
            obtain ⟨er3, _, _⟩ := storeP_ok er2 h2' q2
            exact hf v w H1 (hp1 _ S1 H1 .refl er3)
      · rw [if_neg pl] at hp1
        exact hp1.elim
    | [], .nil, _, hp => exact hp.elim
    | [_], .cons _ .nil, _, hp => exact hp.elim
    | _ :: _ :: _ :: _, .cons _ (.cons _ (.cons _ _)), _, hp => exact hp.elim
theorem par3_go {es : List Expr} {i j l : Nat} (ha : SAo X W es ta fr) : ∀ (F : Fx) (S : AS) (H : Hp) (σ : St) (ρ : Rho) (D : Ends), F.K = X.K → F.Ok W.T → ER F S H σ ρ → PostS F W S H (gPar3 i j l fr ρ) D → ∀ Qf : List V → Hp → Prop, (∀ v w z H1, D.nx (((σ.set i (some v)).set j (some w)).set l (some z)) H1 → Qf [v, w, z] H1) → ta σ H Qf := by
  intro F S H σ ρ D hK fok er hp Qf hf
  refine ha.sn F S H σ ρ _ hK fok er ?_
  unfold gPar3 at hp
  cases q : fr ρ with
  | ex x ρ1 => rw [q] at hp; exact fun cls dx S1 H1 t1 er1 xr => hp cls dx σ S1 H1 (t1.s er) er1 xr
  | bad => rw [q] at hp; exact hp
  | ok rs ρ1 =>
    rw [q] at hp
    intro vs S1 H1 t1 er1 rr1 fd
    match rs, rr1, fd, hp with
    | [r, u, y], .cons (v := v) h1 (.cons (v := w) h2 (.cons (v := z) h3 .nil)), ⟨f1, ⟨g1, g2, g3⟩, f3⟩, hp =>
      have hp1 := PostS.shift (t1.s er) hp
      simp only [toS] at hp1
      by_cases pl : (plainR r && plainR u && plainR y) = true
      · rw [if_pos pl] at hp1
        rw [Bool.and_eq_true, Bool.and_eq_true] at pl
        cases q1 : storeP i r ρ1 with
        | none => simp only [q1] at hp1; exact hp1.elim
        | some ρ2 =>
          simp only [q1] at hp1
          obtain ⟨er2, l2, mu2⟩ := storeP_ok er1 h1 q1
          have h2' : RR F S1 H1 (σ.set i (some v)) ρ2 w u := h2.past pl.1.2 mu2 fun a m m' e1 e2 e3 e4 => f3 a m e1 e2 0 m' (by rw [e3]; rfl) (by rw [e4]; rfl)
          have h3' : RR F S1 H1 (σ.set i (some v)) ρ2 z y := h3.past pl.2 mu2 fun a m m' e1 e2 e3 e4 => f3 a m e1 e2 1 m' (by rw [e3]; rfl) (by rw [e4]; rfl)
          cases q2 : storeP j u ρ2 with
          | none => simp only [q2] at hp1; exact hp1.elim
          | some ρ3 =>
            simp only [q2] at hp1
            obtain ⟨er3, _, mu3⟩ := storeP_ok er2 h2' q2
            have h3'' : RR F S1 H1 ((σ.set i (some v)).set j (some w)) ρ3 z y := h3'.past pl.2 mu3 fun a m m' e1 e2 e3 e4 => g3 a m e1 e2 0 m' (by rw [e3]; rfl) (by rw [e4]; rfl)
            cases q3 : storeP l y ρ3 with
            | none => simp only [q3] at hp1; exact hp1.elim
            | some ρ4 =>
              simp only [q3] at hp1
              obtain ⟨er4, _, _⟩ := storeP_ok er3 h3'' q3
              exact hf v w z H1 (hp1 _ S1 H1 .refl er4)
      · rw [if_neg pl] at hp1
        exact hp1.elim
    | [], .nil, _, hp => exact hp.elim
    | [_], .cons _ .nil, _, hp => exact hp.elim
    | [_, _], .cons _ (.cons _ .nil), _, hp => exact hp.elim
    | _ :: _ :: _ :: _ :: _, .cons _ (.cons _ (.cons _ (.cons _ _))), _, hp => exact hp.elim
/-- one thing more at the end -/
def Ends.more (D : Ends) : Ends := { D with nx := fun σ' H' => ∀ p xs, H' p = none → D.nx σ' (upd H' p (.tup xs)) }
theorem PostS.more {F : Fx} {S : AS} {H : Hp} {D : Ends} {o : SO} (h : PostS F W S H o D) : PostS F W S H o (Ends.more D) := by
  cases o with
  | nx ρ' =>
    intro σ' S' H' t er p xs hp
    exact h σ' S' _ (t.trans (Tr.s er (Tr.alloc hp))) (er.alloc hp)
  | rt r ρ' => exact h
  | bk ρ' => exact h
  | ct ρ' => exact h
  | ex x ρ' => exact h
  | bad => exact h
theorem ss_parc2 {i j : Nat} {x y : Str} {a b : Expr} {px py pt pos : Pos} {kt k2 pt2} (hc : X.calm = true) (hN : X.N.Nodup) (hi : X.N[i]? = some x) (hj : X.N[j]? = some y) (hx : Loc X.env.scope x) (hy : Loc X.env.scope y)
    (ha : SAo X W [a, b] ta fr) (hf : X.fn x = true ∨ X.env.scope.names.lookup x = some .local := by first | exact .inl rfl | exact .inr rfl) (hg : X.fn y = true ∨ X.env.scope.names.lookup y = some .local := by first | exact .inl rfl | exact .inr rfl)
    (hs : swapsWithSole [.Tuple [.Name x px, .Name y py] kt pt] (.Tuple [a, b] k2 pt2) pos.line X.env = pure false := by rfl) (hw : swappedStores [.Tuple [.Name x px, .Name y py] kt pt] (.Tuple [a, b] k2 pt2) X.env = pure none := by rfl) :
    SS X W (.Assign [.Tuple [.Name x px, .Name y py] kt pt] (.Tuple [a, b] k2 pt2) pos) (tAsg (tTup ta) (gTup X.K 2 (gCons (gName i) (gCons (gName j) gNil)))) (gPar2 i j fr) := by
  refine ⟨ps_asg (pe_tup ha.pa) (pg_tup hc (pgs_cons (pg_name hN hi hx hf) (pgs_cons (pg_name hN hj hy hg) pgs_nil))) hs hw, fun F S H σ ρ D hK fok er hp => ?_⟩
  refine par2_go ha F S H σ ρ (Ends.more D) hK fok er hp.more _ fun v w H1 q => ⟨by show 2 ≤ sizeLine; decide, fun p hp => ?_⟩
  exact ⟨p, [v, w], rfl, SqT.of upd_same, rfl, v, [w], rfl, w, [], rfl, rfl, q p [v, w] hp⟩
theorem ss_parc3 {i j l : Nat} {x y z : Str} {a b c : Expr} {px py pz pt pos : Pos} {kt k2 pt2} (hc : X.calm = true) (hN : X.N.Nodup) (hi : X.N[i]? = some x) (hj : X.N[j]? = some y) (hl : X.N[l]? = some z) (hx : Loc X.env.scope x) (hy : Loc X.env.scope y) (hz : Loc X.env.scope z)
    (ha : SAo X W [a, b, c] ta fr) (hf : X.fn x = true ∨ X.env.scope.names.lookup x = some .local := by first | exact .inl rfl | exact .inr rfl) (hg : X.fn y = true ∨ X.env.scope.names.lookup y = some .local := by first | exact .inl rfl | exact .inr rfl) (hh : X.fn z = true ∨ X.env.scope.names.lookup z = some .local := by first | exact .inl rfl | exact .inr rfl)
    (hs : swapsWithSole [.Tuple [.Name x px, .Name y py, .Name z pz] kt pt] (.Tuple [a, b, c] k2 pt2) pos.line X.env = pure false := by rfl) (hw : swappedStores [.Tuple [.Name x px, .Name y py, .Name z pz] kt pt] (.Tuple [a, b, c] k2 pt2) X.env = pure none := by rfl) :
    SS X W (.Assign [.Tuple [.Name x px, .Name y py, .Name z pz] kt pt] (.Tuple [a, b, c] k2 pt2) pos) (tAsg (tTup ta) (gTup X.K 3 (gCons (gName i) (gCons (gName j) (gCons (gName l) gNil))))) (gPar3 i j l fr) := by
  refine ⟨ps_asg (pe_tup ha.pa) (pg_tup hc (pgs_cons (pg_name hN hi hx hf) (pgs_cons (pg_name hN hj hy hg) (pgs_cons (pg_name hN hl hz hh) pgs_nil)))) hs hw, fun F S H σ ρ D hK fok er hp => ?_⟩
  refine par3_go ha F S H σ ρ (Ends.more D) hK fok er hp.more _ fun v w z H1 q => ⟨by show 3 ≤ sizeLine; decide, fun p hp => ?_⟩
  exact ⟨p, [v, w, z], rfl, SqT.of upd_same, rfl, v, [w, z], rfl, w, [z], rfl, z, [], rfl, rfl, q p [v, w, z] hp⟩
end

/-! ### the rules with K said, for blocks -/
section
variable {X : Cx} {W : Wx} {a b c e l o : Expr} {ta tb tc te tl to : TE} {fa fb fc f fl fo : EF} {pos p p2 p3 apos cpos : Pos} (K : PySem.W.Frag) (hK : X.K = K)
include hK
theorem ok_mul : OpR X (binaryOp .Mult) (rMulA K) := by subst hK; exact op_mulA
theorem ok_add : OpR X (binaryOp .Add) (rAddA K) := by subst hK; exact op_addA
theorem ok_eq (hu : X.A.units + 64 < cLine) : OpR X (compareOp .Eq) (rEqD K) := by subst hK; exact op_eqD hu
theorem ok_ne (hu : X.A.units + 64 < cLine) : OpR X (compareOp .NotEq) (rNeD K) := by subst hK; exact op_neD hu
theorem ok_in (hu : X.A.units + 65 < cLine) : OpR X (compareOp .In) (rInA K false) := by subst hK; exact op_inA hu
theorem ok_notIn (hu : X.A.units + 65 < cLine) : OpR X (compareOp .NotIn) (rInA K true) := by subst hK; exact op_notInA hu
theorem se_ixk (ha : SE X W a ta fa) (hb : SE X W b tb fb) (hs : PlainIx b := by exact fun _ _ => rfl) : SE X W (.Subscript a b pos) (tOp (rIx K) ta tb) (fOp gIx fa fb) := by subst hK; exact se_ix ha hb hs
theorem se_slk {lo hi : Option Expr} {tl th : TO} {fl fh : PF} {p2 : Pos} (he : SE X W e te f) (hl : SPo X W lo tl fl) (hu : SPo X W hi th fh) : SE X W (.Subscript e (.Slice lo hi none p2) pos) (tSl (rSlX K) te tl th) (fSl f fl fh) := by subst hK; exact se_sl he hl hu
theorem ck_len : CallR X (.builtin "len") (rLenA K) := by subst hK; exact call_lenA
theorem ck_sorted (hu : X.A.units + 65 < cLine) : CallR X (.builtin "sorted") (rSortD K) := by subst hK; exact call_sortD hu
def rTupK (K : PySem.W.Frag) : List V → Hp → VK → Prop := fun xs H Q => ∃ p ys, xs = [.ref p] ∧ ((SqL K H p ys ∧ ∀ l, H l = none → Q (.ref l) (upd H l (.tup ys))) ∨ (SqT K H p ys ∧ Q (.ref p) H))
def rLstK (K : PySem.W.Frag) : List V → Hp → VK → Prop := fun xs H Q => ∃ p ys, xs = [.ref p] ∧ (SqL K H p ys ∨ SqT K H p ys) ∧ ∀ l, H l = none → Q (.ref l) (upd H l (.lst ys))
theorem ck_tuple : CallR X (.type "tuple") (rTupK K) := by subst hK; exact call_tuple_of
theorem ck_list : CallR X (.type "list") (rLstK K) := by subst hK; exact call_list_of
theorem ck_sum (hc : X.calm = true) : CallR X (.builtin "sum") (rSum K) := by subst hK; exact cr_sum hc
omit hK in
theorem cgk_tuple : CallG K (rTupK K) gTuple := cg_tuple
omit hK in
theorem cgk_list : CallG K (rLstK K) gList := cg_list
theorem se_isik {y : Str} {T : String} (he : SE X W e te f) (hT : okT T = true) (hg : Gl X "isinstance") (hm : X.mg "isinstance" = none) (hgT : Gl X y) (hmT : X.mg y = none) (hvT : bootBuiltins y = some (.type T)) (hn : y ≠ "__name__" := by decide) (hd : (y == ("__debug__" : Str)) = false := by decide)
    (hs1 : starEach [e, .Name y p2] X.env = (false, eval e X.env) :: starEach [.Name y p2] X.env := by rfl) (hs2 : starEach [.Name y p2] X.env = (false, eval (.Name y p2) X.env) :: starEach [] X.env := by rfl)
    (hpl : (backTo pos (starEach [.Name y p2] X.env)).any (·.1) = false := by rfl) :
    SE X W (.Call (.Name "isinstance" p) [e, .Name y p2] [] pos) (tCB (rIsi K) (tCons te (tCons (tC (.ty T)) tNil))) (fIsi f T) := by subst hK; exact se_isi he hT hg hm hgT hmT hvT hn hd hs1 hs2 hpl
theorem se_callK {es : List Expr} {t : TA} {fr : RF} {k : Nat} {g : Addr} {fd : FuncData} {ps : List Str} {Fn : FN} {x : Str} (C : Cal X.prog X.w X.K X.mg X.base W.T x k ps Fn g fd) (hr : Room k X.A) (tk : L2N.Takes X W.w) (hg : Gl X x) (ha : SAc X W (e :: es) t fr) (hn : (e :: es).length = ps.length := by rfl) (hdb : (x == ("__debug__" : Str)) = false := by decide)
    (he : starEach (e :: es) X.env = (false, eval e X.env) :: starEach es X.env := by rfl) (hpl : (backTo pos (starEach es X.env)).any (·.1) = false := by rfl) :
    SE X W (.Call (.Name x p) (e :: es) [] pos) (tCallS (spF K W.T ps.length Fn) (WE W.w) t) (fCall Fn fr) := by subst hK; exact se_callC C hr tk hg ha hn hdb he hpl
theorem si_seqk {tg : Expr} (hl : SE X W l tl fl) : SI X W tg l (iSeq K tl) (fISeq fl) := by subst hK; exact si_seq hl
theorem sg_tupk {es : List Expr} {u : TGs} {gs : GsF} {is : List Nat} {k n : Nat} (hc : X.calm = true) (h : SGs X es u gs is) (hn : (assignEach es X.env).length = n := by rfl) (hst : (assignEach es X.env).findIdx? (·.1) = none := by rfl) : SG X (.Tuple es k pos) (gTup K n u) (gtTup n gs) is := by subst hK; exact sg_tup hc h hn hst
theorem st_truthk (ha : SE X W a ta fa) (he : ∀ whole, isTrue a X.env whole = (do let v ← whole; standAt a.pos; holding [v] (truthy v)) := by intro _; rfl) :
    ST X W a (fun σ H Q => ta σ H fun x H1 => ∃ k, TruV K x H1 k ∧ Q k H1) (fT fa) := by subst hK; exact st_truth ha he
end
end Pv
set_option maxRecDepth 100000
/-! PvO: evaluating pure functions; points. -/
namespace Pv
open PySem PySem.Spec L2

section
variable {α β : Type} {ρ ρ1 ρ2 : Rho} {r : R} {d : PyData} {m : MO} {x : XV} {i j k : Nat} {f fa fb fc : EF} {fr : RF} {g h : SF} {n : Nat} {ss : List Slot}
@[simp] theorem s_fnF : fnF n g ss = outFn (g (ss ++ List.replicate (n - ss.length) .no)) := rfl
@[simp] theorem s_outFn1 : outFn (.nx ρ) = .ok (.val .none) (lentM ρ) := rfl
@[simp] theorem s_outFn2 : outFn (.rt r ρ) = (match resolve r ρ with | some r' => .ok r' (lentM ρ) | none => .bad) := rfl
@[simp] theorem s_outFn3 : outFn (.ex x ρ) = .ex x (lentM ρ) := rfl
@[simp] theorem s_outFn4 : outFn .bad = .bad := rfl
@[simp] theorem s_res1 : resolve (.val d) ρ = some (.val d) := rfl
@[simp] theorem s_res2 : resolve (.own m) ρ = some (.own m) := rfl
@[simp] theorem s_res3 : resolve (.slot i) ρ = (match ρ[i]? with | some (.val d) => some (.val d) | some (.own m) => some (.own m) | _ => none) := rfl
@[simp] theorem s_lentM0 : lentM [] = none := rfl
@[simp] theorem s_lentM1 : lentM (.lent m :: ρ) = some m := rfl
@[simp] theorem s_lentM2 : lentM (.val d :: ρ) = lentM ρ := rfl
@[simp] theorem s_lentM3 : lentM (.own m :: ρ) = lentM ρ := rfl
@[simp] theorem s_lentM4 : lentM (.no :: ρ) = lentM ρ := rfl
@[simp] theorem s_gSeq : gSeq g h ρ = (match g ρ with | .nx ρ1 => h ρ1 | o => o) := rfl
@[simp] theorem s_gSkip : gSkip ρ = .nx ρ := rfl
@[simp] theorem s_gNever : gNever ρ = .bad := rfl
@[simp] theorem s_gRet : gRet f ρ = toS (f ρ) (fun r ρ1 => .rt r ρ1) := rfl
@[simp] theorem s_gRetN : gRetN ρ = .rt (.val .none) ρ := rfl
@[simp] theorem s_gExpr : gExpr f ρ = toS (f ρ) (fun _ ρ1 => .nx ρ1) := rfl
@[simp] theorem s_gIf {t : TF} : gIf t g h ρ = toS (t ρ) (fun b ρ1 => if b = true then g ρ1 else h ρ1) := rfl
@[simp] theorem s_gSet : gSet i f ρ = toS (f ρ) (fun r ρ1 => match storeR i r ρ1 with | some ρ2 => .nx ρ2 | none => .bad) := rfl
@[simp] theorem s_gAsg {t : GF} : gAsg f t ρ = toSF (f ρ) (fun d ρ1 => match t d ρ1 with | some ρ2 => .nx ρ2 | none => .bad) := rfl
@[simp] theorem s_gFor {fi : IF} {tg : GF} : gFor fi tg g ρ = toS (fi ρ) (fun ds ρ1 => forL tg g ds ρ1) := rfl
@[simp] theorem s_toS1 {a : α} {K : α → Rho → SO} : toS (.ok a ρ) K = K a ρ := rfl
@[simp] theorem s_toS2 {K : α → Rho → SO} : toS (.ex x ρ) K = .ex x ρ := rfl
@[simp] theorem s_toS3 {K : α → Rho → SO} : toS .bad K = .bad := rfl
@[simp] theorem s_toSF1 {K : PyData → Rho → SO} : toSF (.ok r ρ) K = (match freeze ρ r with | some (d, ρ') => K d ρ' | none => .bad) := rfl
@[simp] theorem s_toSF2 {K : PyData → Rho → SO} : toSF (.ex x ρ) K = .ex x ρ := rfl
@[simp] theorem s_toSF3 {K : PyData → Rho → SO} : toSF .bad K = .bad := rfl
@[simp] theorem s_bind1 {a : α} {K : α → Rho → Out β} : (Out.ok a ρ).bind K = K a ρ := rfl
@[simp] theorem s_bind2 {K : α → Rho → Out β} : (Out.ex x ρ).bind K = .ex x ρ := rfl
@[simp] theorem s_bind3 {K : α → Rho → Out β} : (Out.bad).bind K = .bad := rfl
@[simp] theorem s_bindF1 {K : PyData → Rho → Out β} : bindF (.ok r ρ) K = (match freeze ρ r with | some (d, ρ') => K d ρ' | none => .bad) := rfl
@[simp] theorem s_bindF2 {K : PyData → Rho → Out β} : bindF (.ex x ρ) K = .ex x ρ := rfl
@[simp] theorem s_bindF3 {K : PyData → Rho → Out β} : bindF .bad K = .bad := rfl
@[simp] theorem s_noEx1 {a : α} : noEx (.ok a ρ) = .ok a ρ := rfl
@[simp] theorem s_noEx3 : noEx (.bad : Out α) = .bad := rfl
@[simp] theorem s_fr1 : freeze ρ (.val d) = some (d, ρ) := rfl
@[simp] theorem s_fr2 : freeze ρ (.own m) = some (m.data, ρ) := rfl
@[simp] theorem s_fr3 : freeze ρ (.slot i) = (match ρ[i]? with | some (.val d) => some (d, ρ) | some (.own m) => some (m.data, ρ.set i (.val m.data)) | _ => none) := rfl
@[simp] theorem s_de1 : deref ρ (.val d) = some d := rfl
@[simp] theorem s_de2 : deref ρ (.own m) = some m.data := rfl
@[simp] theorem s_de3 : deref ρ (.slot i) = (match ρ[i]? with | some (.val d) => some d | some (.own m) => some m.data | some (.lent m) => some m.data | some (.pin _ m) => some m.data | _ => none) := rfl
@[simp] theorem s_md {ds : List PyData} : MO.data (.lst ds) = .list ds := rfl
@[simp] theorem s_mdT {es : List (List Key × PyData)} : MO.data (.dT es) = .dict (dTd es) := rfl
@[simp] theorem s_mdK {es : List (Key × PyData)} : MO.data (.dK es) = .dict (dKd es) := rfl
@[simp] theorem s_fVar : fVar i ρ = (match ρ[i]? with | some (.val d) => .ok (.val d) ρ | some (.own _) => .ok (.slot i) ρ | some (.lent _) => .ok (.slot i) ρ | _ => .bad) := rfl
@[simp] theorem s_fC : fC d ρ = .ok (.val d) ρ := rfl
@[simp] theorem s_fOp {q : PyData → PyData → Option R} : fOp q fa fb ρ = (fa ρ).bind (fun ra ρ1 => (fb ρ1).bind fun rb ρ2 => res2 q ra rb ρ2) := rfl
@[simp] theorem s_res2b {q : PyData → PyData → Option R} {ra rb : R} : res2 q ra rb ρ = (match deref ρ ra, deref ρ rb with | some da, some db => (match q da db with | some r => .ok r ρ | none => .bad) | _, _ => .bad) := rfl
@[simp] theorem s_fB : fB f ρ = (f ρ).bind outB := rfl
@[simp] theorem s_outB {b : Bool} : outB (.val (.bool b)) ρ = .ok b ρ := rfl
@[simp] theorem s_fT : fT f ρ = (f ρ).bind outT := rfl
@[simp] theorem s_outT : outT r ρ = (match deref ρ r with | some d => (match truth d with | some b => .ok b ρ | none => .bad) | none => .bad) := rfl
@[simp] theorem s_tr1 : truth .none = some false := rfl
@[simp] theorem s_tr2 {b : Bool} : truth (.bool b) = some b := rfl
@[simp] theorem s_tr3 {i : Int} : truth (.int i) = some (i != 0) := rfl
@[simp] theorem s_tr4 {ds : List PyData} : truth (.list ds) = some (!ds.isEmpty) := rfl
@[simp] theorem s_tr5 {ds : List PyData} : truth (.tuple ds) = some (!ds.isEmpty) := rfl
@[simp] theorem s_fNot {t : TF} : fNot t ρ = (t ρ).bind (fun b ρ1 => .ok (!b) ρ1) := rfl
@[simp] theorem s_fAnd {t u : TF} : fAnd t u ρ = (t ρ).bind (fun b ρ1 => if b = true then u ρ1 else .ok false ρ1) := rfl
@[simp] theorem s_fOr {t u : TF} : fOr t u ρ = (t ρ).bind (fun b ρ1 => if b = true then .ok true ρ1 else u ρ1) := rfl
@[simp] theorem s_fYes : fYes ρ = .ok true ρ := rfl
@[simp] theorem s_fAndV : fAndV fa fb ρ = (fa ρ).bind (fun r ρ1 => match r with | .val (.bool true) => fb ρ1 | .val (.bool false) => .ok (.val (.bool false)) ρ1 | _ => .bad) := rfl
@[simp] theorem s_fOrV : fOrV fa fb ρ = (fa ρ).bind (fun r ρ1 => match r with | .val (.bool true) => .ok (.val (.bool true)) ρ1 | .val (.bool false) => fb ρ1 | _ => .bad) := rfl
@[simp] theorem s_fNotV : fNotV fa ρ = (fa ρ).bind (fun r ρ1 => match r with | .val (.bool b) => .ok (.val (.bool (!b))) ρ1 | _ => .bad) := rfl
@[simp] theorem s_fIf {t : TF} : fIf t fa fb ρ = (t ρ).bind (fun k ρ1 => if k = true then fa ρ1 else fb ρ1) := rfl
@[simp] theorem s_fChain {p q : PyData → PyData → Option R} : fChain p q fa fb fc ρ = (fa ρ).bind (fun ra ρ1 => (fb ρ1).bind fun rb ρ2 => (res2 p ra rb ρ2).bind fun r ρ3 => match r with
  | .val (.bool true) => (fc ρ3).bind fun rc ρ4 => res2 q rb rc ρ4
  | .val (.bool false) => .ok (.val (.bool false)) ρ3
  | _ => .bad) := rfl
@[simp] theorem s_fNil : fNil ρ = .ok [] ρ := rfl
@[simp] theorem s_fCons {fr : AF} : fCons fa fr ρ = bindF (fa ρ) (fun d ρ1 => (fr ρ1).bind fun ds ρ2 => .ok (d :: ds) ρ2) := rfl
@[simp] theorem s_fTup {fr : AF} : fTup fr ρ = (fr ρ).bind (fun ds ρ1 => if ds.length ≤ 16777216 then .ok (.val (.tuple ds)) ρ1 else .bad) := rfl
@[simp] theorem s_fLst {fr : AF} : fLst fr ρ = (fr ρ).bind (fun ds ρ1 => if ds.length ≤ 16777216 then .ok (.own (.lst ds)) ρ1 else .bad) := rfl
@[simp] theorem s_fDT : fDT ρ = .ok (.own (.dT [])) ρ := rfl
@[simp] theorem s_fDK : fDK ρ = .ok (.own (.dK [])) ρ := rfl
@[simp] theorem s_rNil : rNil ρ = .ok [] ρ := rfl
@[simp] theorem s_rCons : rCons fa fr ρ = (fa ρ).bind (fun r ρ1 => (fr ρ1).bind fun rs ρ2 => .ok (r :: rs) ρ2) := rfl
@[simp] theorem s_cCons : cCons fa fr ρ = (fa ρ).bind (fun r ρ1 => match argOf r ρ1 with | some (r', ρ1) => (fr ρ1).bind fun rs ρ2 => .ok (r' :: rs) ρ2 | none => .bad) := rfl
@[simp] theorem s_cConsF : cConsF fa fr ρ = bindF (fa ρ) (fun d ρ1 => (fr ρ1).bind fun rs ρ2 => .ok (.val d :: rs) ρ2) := rfl
@[simp] theorem s_arg1 : argOf (.val d) ρ = some (.val d, ρ) := rfl
@[simp] theorem s_arg2 : argOf (.own m) ρ = some (.val m.data, ρ) := rfl
@[simp] theorem s_arg3 : argOf (.slot i) ρ = some (.slot i, ρ) := rfl
@[simp] theorem s_fCB {q : List PyData → Option R} : fCB q fr ρ = (fr ρ).bind (outC q) := rfl
@[simp] theorem s_outC {q : List PyData → Option R} {rs : List R} : outC q rs ρ = (match derefs ρ rs with | some ds => (match q ds with | some r => .ok r ρ | none => .bad) | none => .bad) := rfl
@[simp] theorem s_der0 : derefs ρ [] = some [] := rfl
@[simp] theorem s_der1 {rs : List R} : derefs ρ (r :: rs) = (match deref ρ r, derefs ρ rs with | some d, some ds => some (d :: ds) | _, _ => none) := rfl
@[simp] theorem s_fCall {Fn : FN} : fCall Fn fr ρ = (fr ρ).bind (outF Fn) := rfl
@[simp] theorem s_outF {Fn : FN} {rs : List R} : outF Fn rs ρ = (match callSlots ρ rs with
  | some ss => if oneLent ss = true then (match Fn ss with
    | .ok r m => (match backSlots ρ rs ss m with
      | some ρ' => (match r with
        | .slot _ => .bad
        | r => .ok r ρ')
      | none => .bad)
    | .ex x m => (match backSlots ρ rs ss m with
      | some ρ' => .ex x ρ'
      | none => .bad)
    | .bad => .bad) else .bad
  | none => .bad) := rfl
@[simp] theorem s_cs0 : callSlots ρ [] = some [] := rfl
@[simp] theorem s_cs1 {rs : List R} : callSlots ρ (r :: rs) = (match slotOf ρ r, callSlots ρ rs with | some s, some ss => some (s :: ss) | _, _ => none) := rfl
@[simp] theorem s_so1 : slotOf ρ (.val d) = some (.val d) := rfl
@[simp] theorem s_so3 : slotOf ρ (.slot i) = (match ρ[i]? with | some (.val d) => some (.val d) | some (.own m) => some (.lent m) | some (.lent m) => some (.lent m) | _ => none) := rfl
@[simp] theorem s_ol0 : oneLent [] = true := rfl
@[simp] theorem s_ol1 : oneLent (.val d :: ss) = oneLent ss := rfl
@[simp] theorem s_ol2 : oneLent (.lent m :: ss) = ss.all (fun s => match s with | .lent _ => false | _ => true) := rfl
@[simp] theorem s_bs {rs : List R} {mm : Option MO} : backSlots ρ rs ss mm = (match lentIx rs ss with | none => some ρ | some j => match mm, ρ[j]? with | some m, some s => some (ρ.set j (s.put m)) | _, _ => none) := rfl
@[simp] theorem s_li0 : lentIx [] ss = none := by cases ss <;> rfl
@[simp] theorem s_li1 {rs : List R} {s : Slot} : lentIx (.val d :: rs) (s :: ss) = lentIx rs ss := rfl
@[simp] theorem s_li2 {rs : List R} : lentIx (.slot i :: rs) (.lent m :: ss) = some i := rfl
@[simp] theorem s_li3 {rs : List R} : lentIx (.slot i :: rs) (.val d :: ss) = lentIx rs ss := rfl
@[simp] theorem s_put1 {m' : MO} : Slot.put (.own m) m' = .own m' := rfl
@[simp] theorem s_put2 {m' : MO} : Slot.put (.lent m) m' = .lent m' := rfl
@[simp] theorem s_mo1 : Slot.mo (.own m) = some m := rfl
@[simp] theorem s_mo2 : Slot.mo (.lent m) = some m := rfl
@[simp] theorem s_fIsi {T : String} : fIsi f T ρ = (f ρ).bind (outI T) := rfl
@[simp] theorem s_outI {T : String} : outI T r ρ = (match deref ρ r with | some d => .ok (.val (.bool (isiD d T))) ρ | none => .bad) := rfl
@[simp] theorem s_fIsi2 {T U : String} : fIsi2 f T U ρ = (f ρ).bind (outI2 T U) := rfl
@[simp] theorem s_outI2 {T U : String} : outI2 T U r ρ = (match deref ρ r with | some d => .ok (.val (.bool (isiD d T || isiD d U))) ρ | none => .bad) := rfl
@[simp] theorem s_storeR : storeR i r ρ = (match ρ[i]? with
  | none => none
  | some s => if isLent s then none else (match r with
    | .val d => some (ρ.set i (.val d))
    | .own m => some (ρ.set i (.own m))
    | .slot j => (match freeze ρ (.slot j) with
      | some (d, ρ') => some (ρ'.set i (.val d))
      | none => none))) := rfl
@[simp] theorem s_isL1 : isLent .no = false := rfl
@[simp] theorem s_isL2 : isLent (.val d) = false := rfl
@[simp] theorem s_isL3 : isLent (.own m) = false := rfl
@[simp] theorem s_isL4 : isLent (.lent m) = true := rfl
@[simp] theorem s_isL5 {a : Addr} : isLent (.pin a m) = true := rfl
@[simp] theorem s_isL6 {g : Ins} : isLent (.ins g) = true := rfl
@[simp] theorem s_gtName : gtName i d ρ = (match ρ[i]? with | none => none | some s => if isLent s then none else some (ρ.set i (.val d))) := rfl
@[simp] theorem s_gtTup {gs : GsF} {ds : List PyData} : gtTup n gs (.tuple ds) ρ = (if ds.length = n then gs ds ρ else none) := rfl
@[simp] theorem s_gtNil : gtNil [] ρ = some ρ := rfl
@[simp] theorem s_gtCons {t : GF} {gs : GsF} {ds : List PyData} : gtCons t gs (d :: ds) ρ = (match t d ρ with | some ρ1 => gs ds ρ1 | none => none) := rfl
@[simp] theorem s_par2 : gPar2 i j fr ρ = toS (fr ρ) (fun rs ρ1 => match rs with
  | [r, q] => if plainR r && plainR q then (match storeP i r ρ1 with
    | some ρ2 => (match storeP j q ρ2 with
      | some ρ3 => .nx ρ3
      | none => .bad)
    | none => .bad) else .bad
  | _ => .bad) := rfl
@[simp] theorem s_par3 : gPar3 i j k fr ρ = toS (fr ρ) (fun rs ρ1 => match rs with
  | [r, q, u] => if plainR r && plainR q && plainR u then (match storeP i r ρ1 with
    | some ρ2 => (match storeP j q ρ2 with
      | some ρ3 => (match storeP k u ρ3 with
        | some ρ4 => .nx ρ4
        | none => .bad)
      | none => .bad)
    | none => .bad) else .bad
  | _ => .bad) := rfl
@[simp] theorem s_oCons : oCons fa fr ρ = (fa ρ).bind (fun r ρ1 => if plainR r = true then ((fr ρ1).bind fun rs ρ2 => .ok (r :: rs) ρ2) else (match freeze ρ1 r with
  | some (d, ρ2) => (fr ρ2).bind fun rs ρ3 => .ok (.val d :: rs) ρ3
  | none => .bad)) := rfl
@[simp] theorem s_pl1 : plainR (.val d) = true := rfl
@[simp] theorem s_pl2 : plainR (.own m) = true := rfl
@[simp] theorem s_pl3 : plainR (.slot i) = false := rfl
@[simp] theorem s_storeP1 : storeP i (.val d) ρ = (match ρ[i]? with | some s0 => if isLent s0 then none else some (ρ.set i (.val d)) | none => none) := by
  unfold storeP
  cases ρ[i]? <;> rfl
@[simp] theorem s_storeP2 : storeP i (.own m) ρ = (match ρ[i]? with | some s0 => if isLent s0 then none else some (ρ.set i (.own m)) | none => none) := by
  unfold storeP
  cases ρ[i]? <;> rfl
@[simp] theorem s_fAppend : fAppend fa fb ρ = (fa ρ).bind (fun r ρ1 => if isLst ρ1 r = true then bindF (fb ρ1) fun d ρ2 => (match withSlot ρ2 r fun j s m => appD j s d m ρ2 with
  | some ρ3 => .ok (.val .none) ρ3
  | none => .bad) else .bad) := rfl
@[simp] theorem s_isLst : isLst ρ r = (match deref ρ r with | some (.list _) => true | _ => false) := rfl
@[simp] theorem s_withSlot {K : Nat → Slot → MO → Option Rho} : withSlot ρ (.slot i) K = (match ρ[i]? with | some s => (match s.mo with | some m => K i s m | none => none) | none => none) := rfl
@[simp] theorem s_appD {s : Slot} {ds : List PyData} : appD i s d (.lst ds) ρ = (if ds.length < 16777216 then some (ρ.set i (s.put (.lst (ds ++ [d])))) else none) := rfl
@[simp] theorem s_fPop : fPop fa ρ = (fa ρ).bind (fun r ρ1 => match r with
  | .slot j => (match ρ1[j]? with
    | some s => (match s.mo with
      | some m => (match popD j s ρ1 m with
        | some (d, ρ2) => .ok (.val d) ρ2
        | none => .bad)
      | none => .bad)
    | none => .bad)
  | _ => .bad) := rfl
@[simp] theorem s_popD {s : Slot} {ds : List PyData} : popD i s ρ (.lst ds) = (match ds[ds.length - 1]? with | some d => some (d, ρ.set i (s.put (.lst ds.dropLast))) | none => none) := rfl
@[simp] theorem s_gSetIx {fo fi fe : EF} : gSetIx fo fi fe ρ = toSF (fe ρ) (fun d ρ1 => toS (fo ρ1) fun r ρ2 => toS (fi ρ2) fun ri ρ3 => match ri with
  | .val i => (match withSlot ρ3 r fun j s m => setD j s i d ρ3 m with
    | some ρ4 => .nx ρ4
    | none => .bad)
  | _ => .bad) := rfl
@[simp] theorem s_setD {s : Slot} {ds : List PyData} {z : Int} : setD j s (.int z) d ρ (.lst ds) = (match ixN ds.length z with | some n => some (ρ.set j (s.put (.lst (ds.set n d)))) | none => none) := rfl
@[simp] theorem s_gSetK {fo fi fe : EF} : gSetK fo fi fe ρ = toSF (fe ρ) (fun d ρ1 => toS (fo ρ1) fun r ρ2 => toS (fi ρ2) fun ri ρ3 => match deref ρ3 ri with
  | some i => (match withSlot ρ3 r fun j s m => setK j s i d ρ3 m with
    | some ρ4 => .nx ρ4
    | none => .bad)
  | none => .bad) := rfl
@[simp] theorem s_fISeq : fISeq f ρ = bindF (f ρ) (fun d ρ1 => match seqD d with | some ds => .ok ds ρ1 | none => .bad) := rfl
@[simp] theorem s_seq1 {ds : List PyData} : seqD (.list ds) = some ds := rfl
@[simp] theorem s_seq2 {ds : List PyData} : seqD (.tuple ds) = some ds := rfl
@[simp] theorem s_rng1 : fIRng1 fr ρ = (fr ρ).bind (fun rs ρ1 => match int1? rs with | some j => if okR j = true then .ok (rangeD 0 j.toNat) ρ1 else .bad | none => .bad) := rfl
@[simp] theorem s_rng2 : fIRng2 fr ρ = (fr ρ).bind (fun rs ρ1 => match int2? rs with | some (i, j) => if okR i && okR j then .ok (rangeD i (j - i).toNat) ρ1 else .bad | none => .bad) := rfl
@[simp] theorem s_int1 {z : Int} : int1? [.val (.int z)] = some z := rfl
@[simp] theorem s_int2 {z u : Int} : int2? [.val (.int z), .val (.int u)] = some (z, u) := rfl
@[simp] theorem s_fLc {fi : IF} {tg : GF} {tt : TF} {vs : List Nat} : fLc fi tg tt f vs ρ = (fi ρ).bind (fun ds ρ1 => if ds.length ≤ 16777216 then (match wipeR vs ρ1 with
  | some ρ2 => (lcL tg tt f vs ds ρ2).bind fun ys ρ3 => .ok (.own (.lst ys)) ρ3
  | none => .bad) else .bad) := rfl
@[simp] theorem s_fLc2 {fi fi1 : IF} {tg tg1 : GF} {tt1 : TF} {vs vs1 : List Nat} : fLc2 fi tg fi1 tg1 tt1 f vs vs1 ρ = (fi ρ).bind (fun ds ρ1 => match wipeR vs ρ1 with
  | some ρ2 => (lc2L tg fi1 tg1 tt1 f vs vs1 0 ds ρ2).bind fun ys ρ3 => .ok (.own (.lst ys)) ρ3
  | none => .bad) := rfl
@[simp] theorem s_fDisp1 : fDisp1 fa fb ρ = (fa ρ).bind (fun rk ρ1 => (fb ρ1).bind fun rv ρ2 => match rk, rv with
  | .val (.tuple xs), .val d => (match keysOf xs with
    | some ks => .ok (.own (.dT [(ks, d)])) ρ2
    | none => .bad)
  | _, _ => .bad) := rfl
@[simp] theorem s_fSl {fl fh : PF} : fSl f fl fh ρ = (f ρ).bind (fun r ρ1 => (fl ρ1).bind fun lo ρ2 => (fh ρ2).bind fun hi ρ3 => outSl r lo hi ρ3) := rfl
@[simp] theorem s_fNoPart : fNoPart ρ = .ok none ρ := rfl
@[simp] theorem s_fPart : fPart f ρ = (f ρ).bind outP := rfl
@[simp] theorem s_outP {z : Int} : outP (.val (.int z)) ρ = .ok (some z) ρ := rfl
@[simp] theorem s_outSl {lo hi : Option Int} : outSl r lo hi ρ = (match deref ρ r with | some d => (match gSl d lo hi with | some r => .ok r ρ | none => .bad) | none => .bad) := rfl
@[simp] theorem s_gSl1 {ds : List PyData} {lo hi : Option Int} : gSl (.list ds) lo hi = some (.own (.lst (cutD ds lo hi))) := rfl
@[simp] theorem s_gSl2 {ds : List PyData} {lo hi : Option Int} : gSl (.tuple ds) lo hi = some (.val (.tuple (cutD ds lo hi))) := rfl
@[simp] theorem s_wipe0 : wipeR [] ρ = some ρ := rfl
@[simp] theorem s_gSub {x y : Int} : Pv.gSub (.int x) (.int y) = some (.val (.int (x - y))) := rfl
@[simp] theorem s_gAdd {x y : Int} : gAdd (.int x) (.int y) = some (.val (.int (x + y))) := rfl
@[simp] theorem s_gAddL {x y : List PyData} : gAdd (.list x) (.list y) = (if x.length + y.length ≤ 16777216 then some (.own (.lst (x ++ y))) else none) := rfl
@[simp] theorem s_gMul {x y : Int} : gMul (.int x) (.int y) = (if small64 x || small64 y then some (.val (.int (x * y))) else none) := rfl
@[simp] theorem s_gFdiv {x y : Int} : gFdiv (.int x) (.int y) = (if y ≠ 0 ∧ y.natAbs < 1073741824 then some (.val (.int (x.fdiv y))) else none) := rfl
@[simp] theorem s_gMod {x y : Int} : gMod (.int x) (.int y) = (if y ≠ 0 then some (.val (.int (x.fmod y))) else none) := rfl
@[simp] theorem s_gPow {x y : Int} : gPow (.int x) (.int y) = (if 0 ≤ y ∧ y ≤ 1000000 ∧ x.natAbs < 2 ^ 64 then some (.val (.int (x ^ y.toNat))) else none) := rfl
@[simp] theorem s_gShl {x y : Int} : gShl (.int x) (.int y) = (if 0 ≤ y ∧ y ≤ 1000000 ∧ x.natAbs < 2 ^ 64 then some (.val (.int (x * 2 ^ y.toNat))) else none) := rfl
@[simp] theorem s_gCmp {p : Int → Int → Bool} {x y : Int} : gCmp p (.int x) (.int y) = some (.val (.bool (p x y))) := rfl
@[simp] theorem s_gIxL {ds : List PyData} {z : Int} : gIx (.list ds) (.int z) = (atI ds z).map .val := rfl
@[simp] theorem s_gIxT {ds : List PyData} {z : Int} : gIx (.tuple ds) (.int z) = (atI ds z).map .val := rfl
@[simp] theorem s_gIsN : gIs d .none = some (.val (.bool (isNoneD d))) := by cases d <;> rfl
@[simp] theorem s_gIsB {a b : Bool} : gIs (.bool a) (.bool b) = some (.val (.bool (decide (a = b)))) := rfl
@[simp] theorem s_gIsNotN : gIsNot d .none = some (.val (.bool (!isNoneD d))) := by cases d <;> rfl
@[simp] theorem s_gIsNotB {a b : Bool} : gIsNot (.bool a) (.bool b) = some (.val (.bool (!decide (a = b)))) := rfl
@[simp] theorem s_gLenL {ds : List PyData} : gLen [.list ds] = some (.val (.int ds.length)) := rfl
@[simp] theorem s_gLenT {ds : List PyData} : gLen [.tuple ds] = some (.val (.int ds.length)) := rfl
@[simp] theorem s_gLenD {ds : List (PyData × PyData)} : gLen [.dict ds] = some (.val (.int (dlen ds))) := rfl
@[simp] theorem s_gMin2 {x y : Int} : gMin2 [.int x, .int y] = some (.val (.int (if y < x then y else x))) := rfl
@[simp] theorem s_gMax2 {x y : Int} : gMax2 [.int x, .int y] = some (.val (.int (if y > x then y else x))) := rfl
@[simp] theorem s_gInt1 {x : Int} : gInt1 [.int x] = some (.val (.int x)) := rfl
@[simp] theorem s_gTupL {ds : List PyData} : gTuple [.list ds] = some (.val (.tuple ds)) := rfl
@[simp] theorem s_gTupT {ds : List PyData} : gTuple [.tuple ds] = some (.val (.tuple ds)) := rfl
@[simp] theorem s_gSorted {ds : List PyData} : gSorted [.list ds] = (if sortOk ds then some (.own (.lst (isortD ds))) else none) := rfl
@[simp] theorem s_fNeg : fNeg fa ρ = (fa ρ).bind (outU gNeg) := rfl
@[simp] theorem s_outU {q : PyData → Option R} : outU q r ρ = (match deref ρ r with | some d => (match q d with | some r => .ok r ρ | none => .bad) | none => .bad) := rfl
@[simp] theorem s_gNeg {x : Int} : gNeg (.int x) = some (.val (.int (-x))) := rfl
end
@[simp] theorem isi_non {T : String} : isiD .none T = ("NoneType" == T || (T == "int" && "NoneType" == "bool")) := rfl
@[simp] theorem isi_bool {b : Bool} {T : String} : isiD (.bool b) T = ("bool" == T || (T == "int" && "bool" == "bool")) := rfl
@[simp] theorem isi_int {b : Int} {T : String} : isiD (.int b) T = ("int" == T || (T == "int" && "int" == "bool")) := rfl
@[simp] theorem isi_str {b : Str} {T : String} : isiD (.str b) T = ("str" == T || (T == "int" && "str" == "bool")) := rfl
@[simp] theorem isi_list {b : List PyData} {T : String} : isiD (.list b) T = ("list" == T || (T == "int" && "list" == "bool")) := rfl
@[simp] theorem isi_tuple {b : List PyData} {T : String} : isiD (.tuple b) T = ("tuple" == T || (T == "int" && "tuple" == "bool")) := rfl
@[simp] theorem isNone1 : isNoneD .none = true := rfl
@[simp] theorem isNone2 {b : Bool} : isNoneD (.bool b) = false := rfl
@[simp] theorem isNone3 {b : Int} : isNoneD (.int b) = false := rfl
@[simp] theorem isNone4 {b : Str} : isNoneD (.str b) = false := rfl
@[simp] theorem isNone5 {b : List PyData} : isNoneD (.list b) = false := rfl
@[simp] theorem isNone6 {b : List PyData} : isNoneD (.tuple b) = false := rfl

@[simp] theorem s_wipe1 {v : Nat} {vs : List Nat} {ρ : Rho} : wipeR (v :: vs) ρ = (match wipeR vs ρ with | some ρ' => (match ρ'[v]? with | some s => if isLent s then none else some (ρ'.set v .no) | none => none) | none => none) := rfl
/-- what a part gives, given away -/
def outV (o : Out R) : Out PyData := bindF o fun d ρ => .ok d ρ
theorem bindF_outV {β : Type} {o : Out R} {k : PyData → Rho → Out β} {d : PyData} {ρ : Rho} (h : outV o = .ok d ρ) : bindF o k = k d ρ := by
  unfold outV at h
  cases o with
  | ok r ρ1 =>
    simp only [s_bindF1] at h ⊢
    cases q : freeze ρ1 r with
    | none => simp [q] at h
    | some p =>
      obtain ⟨d', ρ'⟩ := p
      simp only [q, Out.ok.injEq] at h ⊢
      obtain ⟨rfl, rfl⟩ := h
      rfl
  | ex x ρ1 => cases h
  | bad => cases h
@[simp] theorem s_outV1 {d : PyData} {ρ : Rho} : outV (.ok (.val d) ρ) = .ok d ρ := rfl
@[simp] theorem s_outV2 {m : MO} {ρ : Rho} : outV (.ok (.own m) ρ) = .ok m.data ρ := rfl
theorem lcL_pure {α : Type} {tg : GF} {tt : TF} {el : EF} {vs : List Nat} {ρ : Rho} (enc : α → PyData) (ρd : α → Rho) (b : α → Bool) (y : α → PyData) : ∀ (l : List α),
    (∀ a ∈ l, tg (enc a) ρ = some (ρd a) ∧ tt (ρd a) = .ok (b a) (ρd a) ∧ (b a = true → outV (el (ρd a)) = .ok (y a) (ρd a)) ∧ wipeR vs (ρd a) = some ρ) → lcL tg tt el vs (l.map enc) ρ = .ok ((l.filter b).map y) ρ
  | [], _ => rfl
  | a :: l, h => by
    obtain ⟨h1, h2, h3, h4⟩ := h a List.mem_cons_self
    have ih := lcL_pure enc ρd b y l fun x hx => h x (List.mem_cons_of_mem _ hx)
    show lcL tg tt el vs (enc a :: l.map enc) ρ = _
    unfold lcL
    simp only [h1, h2, s_noEx1, s_bind1]
    cases q : b a with
    | true =>
      have h5 : outV (noEx (el (ρd a))) = .ok (y a) (ρd a) := by
        have := h3 q
        cases z : el (ρd a) with
        | ok r ρ1 => rw [z] at this; exact this
        | ex x ρ1 => rw [z] at this; cases this
        | bad => rw [z] at this; cases this
      rw [if_pos rfl, bindF_outV h5]
      simp only [h4, ih, s_bind1, List.filter_cons_of_pos q, List.map_cons]
    | false =>
      rw [if_neg (by simp)]
      have q' : ¬ b a = true := by rw [q]; simp
      simp only [h4, ih, List.filter_cons_of_neg q']
theorem lc2L_pure {α β : Type} {tg tg1 : GF} {fi1 : IF} {tt1 : TF} {el : EF} {vs vs1 : List Nat} {ρ : Rho} (enc : α → PyData) (enc1 : β → PyData) (ρd ρw : α → Rho) (l1 : α → List β) (ρe : α → β → Rho) (b : α → β → Bool) (y : α → β → PyData) : ∀ (l : List α) (n : Nat),
    n + (l.flatMap l1).length ≤ 16777216 →
    (∀ a ∈ l, tg (enc a) ρ = some (ρd a) ∧ fi1 (ρd a) = .ok ((l1 a).map enc1) (ρd a) ∧ wipeR vs1 (ρd a) = some (ρw a) ∧ wipeR vs (ρw a) = some ρ ∧ ∀ c ∈ l1 a, tg1 (enc1 c) (ρw a) = some (ρe a c) ∧ tt1 (ρe a c) = .ok (b a c) (ρe a c) ∧ (b a c = true → outV (el (ρe a c)) = .ok (y a c) (ρe a c)) ∧ wipeR vs1 (ρe a c) = some (ρw a)) →
    lc2L tg fi1 tg1 tt1 el vs vs1 n (l.map enc) ρ = .ok (l.flatMap fun a => ((l1 a).filter (b a)).map (y a)) ρ
  | [], _, _, _ => rfl
  | a :: l, n, hn, h => by
    obtain ⟨h1, h2, h3, h4, h5⟩ := h a List.mem_cons_self
    rw [List.flatMap_cons, List.length_append] at hn
    have e := lcL_pure (vs := vs1) enc1 (ρe a) (b a) (y a) (l1 a) h5
    have hf : (((l1 a).filter (b a)).map (y a)).length ≤ (l1 a).length := by rw [List.length_map]; exact List.length_filter_le _ _
    have ih := lc2L_pure (tg := tg) (tg1 := tg1) (fi1 := fi1) (tt1 := tt1) (el := el) (vs := vs) (vs1 := vs1) (ρ := ρ) enc enc1 ρd ρw l1 ρe b y l (n + (((l1 a).filter (b a)).map (y a)).length) (by omega) fun x hx => h x (List.mem_cons_of_mem _ hx)
    show lc2L tg fi1 tg1 tt1 el vs vs1 n (enc a :: l.map enc) ρ = _
    unfold lc2L
    simp only [h1, h2, s_noEx1, s_bind1]
    rw [if_pos (by rw [List.length_map]; omega)]
    simp only [h3, e, s_noEx1, s_bind1, h4, ih, List.flatMap_cons]
theorem forL_fold {α β : Type} {tg : GF} {body : SF} (enc : α → PyData) (R : β → Rho) (P : β → Prop) (step : β → α → β) : ∀ (l : List α) (b : β), P b →
    (∀ b a, P b → a ∈ l → P (step b a) ∧ ∃ ρ1, tg (enc a) (R b) = some ρ1 ∧ (body ρ1 = .nx (R (step b a)) ∨ body ρ1 = .ct (R (step b a)))) → forL tg body (l.map enc) (R b) = .nx (R (l.foldl step b)) ∧ P (l.foldl step b)
  | [], b, hp, _ => ⟨rfl, hp⟩
  | a :: l, b, hp, h => by
    obtain ⟨p1, ρ1, h1, h2⟩ := h b a hp List.mem_cons_self
    have ih := forL_fold (tg := tg) (body := body) enc R P step l (step b a) p1 fun b' a' hb ha => h b' a' hb (List.mem_cons_of_mem _ ha)
    refine ⟨?_, ih.2⟩
    show forL tg body (enc a :: l.map enc) (R b) = _
    unfold forL
    simp only [h1]
    rcases h2 with h2 | h2
    · simp only [h2]; exact ih.1
    · simp only [h2]; exact ih.1
/-- a while loop, turn by turn -/
theorem whileL_step {t : TF} {body : SF} {n : Nat} {ρ ρ1 ρ2 : Rho} (h1 : t ρ = .ok true ρ1) (h2 : body ρ1 = .nx ρ2) : whileL t body (n + 1) ρ = whileL t body n ρ2 := by
  show (match t ρ with | .ok true ρ1 => _ | .ok false ρ1 => _ | .ex x ρ1 => _ | .bad => _) = _
  simp only [h1, h2]
theorem whileL_stop {t : TF} {body : SF} {n : Nat} {ρ ρ1 : Rho} (h1 : t ρ = .ok false ρ1) : whileL t body (n + 1) ρ = .nx ρ1 := by
  show (match t ρ with | .ok true ρ1 => _ | .ok false ρ1 => _ | .ex x ρ1 => _ | .bad => _) = _
  simp only [h1]
theorem repeat_succ' {β : Type} (step : β → β) : ∀ (k : Nat) (b : β), Nat.repeat step (k + 1) b = Nat.repeat step k (step b)
  | 0, _ => rfl
  | k + 1, b => by
    show step (Nat.repeat step (k + 1) b) = step (Nat.repeat step k (step b))
    rw [repeat_succ' step k b]
/-- a loop that runs in step with a plain one: it counts down -/
theorem whileL_run {β : Type} {t : TF} {body : SF} (R : β → Rho) (go : β → Bool) (step : β → β) (P : β → Prop) (m : β → Nat) (ht : ∀ b, P b → t (R b) = .ok (go b) (R b)) (hb : ∀ b, P b → go b = true → body (R b) = .nx (R (step b)) ∧ P (step b) ∧ m (step b) < m b) : ∀ (n : Nat) (b : β), P b → m b < n →
    ∃ k, whileL t body n (R b) = .nx (R (Nat.repeat step k b)) ∧ go (Nat.repeat step k b) = false ∧ P (Nat.repeat step k b) ∧ ∀ j < k, go (Nat.repeat step j b) = true
  | 0, b, _, h => absurd h (Nat.not_lt_zero _)
  | n + 1, b, hp, h => by
    cases q : go b with
    | false =>
      refine ⟨0, ?_, q, hp, fun j hj => absurd hj (Nat.not_lt_zero _)⟩
      exact whileL_stop (by rw [ht b hp, q]; rfl)
    | true =>
      obtain ⟨h1, h2, h3⟩ := hb b hp q
      obtain ⟨k, e, g, p, hk⟩ := whileL_run R go step P m ht hb n (step b) h2 (by omega)
      refine ⟨k + 1, ?_, by rw [repeat_succ']; exact g, by rw [repeat_succ']; exact p, fun j hj => ?_⟩
      · rw [whileL_step (by rw [ht b hp, q]) h1, e, repeat_succ']
      · cases j with
        | zero => exact q
        | succ j => rw [repeat_succ']; exact hk j (by omega)
/-- the first time is one -/
theorem first_time {g : Nat → Bool} {j k : Nat} (h1 : g j = false) (h2 : ∀ i < j, g i = true) (h3 : g k = false) (h4 : ∀ i < k, g i = true) : j = k := by
  rcases Nat.lt_trichotomy j k with h | h | h
  · rw [h4 j h] at h1; cases h1
  · exact h
  · rw [h2 k h] at h3; cases h3
/-- a loop by its turns' numbers -/
theorem whileL_count {t : TF} {body : SF} (R : Nat → Rho) (n : Nat) {ρe : Rho} (h : ∀ k < n, ∃ ρ1, t (R k) = .ok true ρ1 ∧ body ρ1 = .nx (R (k + 1))) (he : t (R n) = .ok false ρe) {fu : Nat} (hf : n < fu) : whileL t body fu (R 0) = .nx ρe := by
  have key : ∀ (m k fu : Nat), m + k = n → m < fu → whileL t body fu (R k) = .nx ρe := by
    intro m
    induction m with
    | zero =>
      intro k fu hk hfu
      have e : k = n := by omega
      subst e
      cases fu with
      | zero => omega
      | succ fu => exact whileL_stop he
    | succ m ih =>
      intro k fu hk hfu
      cases fu with
      | zero => omega
      | succ fu =>
        obtain ⟨ρ1, h1, h2⟩ := h k (by omega)
        rw [whileL_step h1 h2]
        exact ih (k + 1) fu (by omega) (by omega)
  exact key n 0 fu (by omega) hf
theorem nodup_len {α : Type} [DecidableEq α] : ∀ {l m : List α}, l.Nodup → (∀ x ∈ l, x ∈ m) → l.length ≤ m.length
  | [], _, _, _ => Nat.zero_le _
  | a :: l, m, hn, hs => by
    rw [List.nodup_cons] at hn
    have ha : a ∈ m := hs a List.mem_cons_self
    have ih := nodup_len (l := l) (m := m.erase a) hn.2 fun x hx => by
      have hxa : x ≠ a := fun z => hn.1 (by rw [← z]; exact hx)
      exact (List.mem_erase_of_ne hxa).mpr (hs x (List.mem_cons_of_mem _ hx))
    rw [List.length_erase_of_mem ha] at ih
    have : 0 < m.length := List.length_pos_of_mem ha
    rw [List.length_cons]
    omega
/-- the least number of a kind -/
theorem least {p : Nat → Prop} [DecidablePred p] : ∀ (n : Nat), p n → ∃ k, k ≤ n ∧ p k ∧ ∀ j < k, ¬ p j := by
  intro n
  induction n using Nat.strongRecOn with
  | ind n ih =>
    intro hn
    by_cases q : ∃ j, j < n ∧ p j
    · obtain ⟨j, hj, hp⟩ := q
      obtain ⟨k, hk, r⟩ := ih j hj hp
      exact ⟨k, by omega, r⟩
    · exact ⟨n, Nat.le_refl _, hn, fun j hj hp => q ⟨j, hj, hp⟩⟩
theorem gWhile_eq {t : TF} {body : SF} {ρ : Rho} : gWhile t body ρ = whileL t body 1000 ρ := rfl
@[simp] theorem sm_48271 : Pv.small64 48271 = true := rfl
theorem sm_nat (n : Nat) (h : n ≤ 1000000) : Pv.small64 (n : Int) = true := decide_eq_true (show n < 18446744073709551616 by omega)
theorem okR_nat (n : Nat) (h : n ≤ 1000000) : okR (n : Int) = true := decide_eq_true (show n < 4611686018427387904 by omega)
/-- a loop by its turns' numbers -/
theorem forL_idx {tg : GF} {body : SF} (l : List PyData) (R : Nat → Rho) (h : ∀ i (hi : i < l.length), ∃ ρ1, tg l[i] (R i) = some ρ1 ∧ (body ρ1 = .nx (R (i + 1)) ∨ body ρ1 = .ct (R (i + 1)))) : forL tg body l (R 0) = .nx (R l.length) := by
  have key : ∀ (m k : Nat), m + k = l.length → forL tg body (l.drop k) (R k) = .nx (R l.length) := by
    intro m
    induction m with
    | zero =>
      intro k hk
      have e : k = l.length := by omega
      subst e
      rw [List.drop_length]
      rfl
    | succ m ih =>
      intro k hk
      have hl : k < l.length := by omega
      obtain ⟨ρ1, h1, h2⟩ := h k hl
      rw [List.drop_eq_getElem_cons hl]
      unfold forL
      simp only [h1]
      rcases h2 with h2 | h2
      · simp only [h2]; exact ih (k + 1) (by omega)
      · simp only [h2]; exact ih (k + 1) (by omega)
  have := key l.length 0 (by omega)
  rwa [List.drop_zero] at this
/-- what a loop's name holds behind i turns -/
def lv (l : List PyData) (i : Nat) : Slot := match i with
  | 0 => .no
  | j + 1 => .val (l.getD j .none)
@[simp] theorem isL_lv {l : List PyData} {i : Nat} : isLent (lv l i) = false := by cases i <;> rfl
@[simp] theorem lentM_lv {l : List PyData} {i : Nat} {ρ : Rho} : lentM (lv l i :: ρ) = lentM ρ := by cases i <;> rfl
theorem lv_succ {l : List PyData} {i : Nat} (hi : i < l.length) : lv l (i + 1) = .val l[i] := by
  show Slot.val (l.getD i .none) = _
  simp [hi]
/-! ### indices -/
theorem atI_nat' {α : Type} (xs : List α) (n : Nat) : atI xs (n : Int) = xs[n]? := by
  unfold atI ixN
  by_cases h : n < xs.length
  · simp [h]
  · simp [h]
@[simp] theorem ixN_41 : ixN 4 1 = some 1 := rfl
@[simp] theorem ixN_42 : ixN 4 2 = some 2 := rfl
@[simp] theorem ixN_43 : ixN 4 3 = some 3 := rfl
@[simp] theorem atI_0 {α : Type} (x : α) (xs : List α) : atI (x :: xs) 0 = some x := atI_nat' (x :: xs) 0
@[simp] theorem atI_1 {α : Type} (x y : α) (xs : List α) : atI (x :: y :: xs) 1 = some y := atI_nat' (x :: y :: xs) 1
@[simp] theorem atI_2 {α : Type} (x y z : α) (xs : List α) : atI (x :: y :: z :: xs) 2 = some z := atI_nat' (x :: y :: z :: xs) 2
@[simp] theorem atI_3 {α : Type} (x y z u : α) (xs : List α) : atI (x :: y :: z :: u :: xs) 3 = some u := atI_nat' (x :: y :: z :: u :: xs) 3
end Pv
set_option maxRecDepth 100000
/-! PvP: enumerate, zip, tuple(range(n)), d.get(k, x). -/
namespace Pv
open PySem PySem.Spec L2

section
variable {K : PySem.W.Frag} {S : AS} {H : Hp} {a b : Addr} {xs ys : List V} {ds es : List PyData}
/-- (0, x), (1, y), .. -/
def enumD (ds : List PyData) : List PyData := ds.zipIdx.map fun p => .tuple [.int (p.2 : Nat), p.1]
theorem enumD_length : (enumD ds).length = ds.length := by simp [enumD]
theorem enumD_get {i : Nat} (h : i < ds.length) : (enumD ds)[i]? = some (.tuple [.int (i : Nat), ds[i]]) := by
  simp [enumD, h]
theorem sql_eq (h : LAt K S H a xs) {H' : Hp} {S' : AS} (t : TrS S H S' H') : SqL K H' a xs := (h.trS t).seq
theorem itr_enum (h : LAt K S H a xs) (hs : RpA K S H xs ds) : ItR K S H (Ite K a) (enumD ds) := fun S' H' t dom => by
  have q := (h.trS t).seq
  have hs' := hs.trS t
  have hl := hs.length
  refine ⟨fun i hi => ?_, fun i hi => ⟨xs, q, by rw [enumD_length] at hi; omega⟩⟩
  rw [enumD_length] at hi
  refine ⟨⟨xs, xs[i], q, by simp [hl ▸ hi]⟩, fun x H'' y => ?_⟩
  obtain ⟨T, x0, rfl, hT, rfl, y⟩ := y
  obtain ⟨d, e, rp⟩ := hs'.getV (y xs q)
  have ed : ds[i] = d := by
    rw [List.getElem?_eq_getElem hi] at e
    exact Option.some.inj e
  refine ⟨_, enumD_get hi, fun b o e => by rw [upd_ne (ne_of_none e hT)]; exact e, ?_⟩
  rw [ed]
  exact rp_pair dom hT (.int _) rp
/-- pairs, as long as both last -/
def zipD (ds es : List PyData) : List PyData := (ds.zip es).map fun p => .tuple [p.1, p.2]
theorem zipD_length : (zipD ds es).length = min ds.length es.length := by simp [zipD]
theorem zipD_get {i : Nat} (h1 : i < ds.length) (h2 : i < es.length) : (zipD ds es)[i]? = some (.tuple [ds[i], es[i]]) := by
  unfold zipD
  have e : (ds.zip es)[i]? = some (ds[i], es[i]) := List.getElem?_zip_eq_some.mpr ⟨List.getElem?_eq_getElem h1, List.getElem?_eq_getElem h2⟩
  rw [List.getElem?_map, e]
  rfl
theorem itr_zipL (h : LAt K S H a xs) (hs : RpA K S H xs ds) (h2 : LAt K S H b ys) (hs2 : RpA K S H ys es) : ItR K S H (Itz K a b) (zipD ds es) := fun S' H' t dom => by
  have q := (h.trS t).seq
  have q2 := (h2.trS t).seq
  have r1 := hs.trS t
  have r2 := hs2.trS t
  have l1 := hs.length
  have l2 := hs2.length
  refine ⟨fun i hi => ?_, fun i hi => ⟨xs, ys, q, q2, by rw [zipD_length] at hi; omega⟩⟩
  rw [zipD_length] at hi
  have i1 : i < ds.length := by omega
  have i2 : i < es.length := by omega
  refine ⟨⟨xs, ys, xs[i], ys[i], q, q2, by simp [l1 ▸ i1], by simp [l2 ▸ i2]⟩, fun x H'' y => ?_⟩
  obtain ⟨T, x0, y0, rfl, hT, rfl, f1, f2⟩ := y
  obtain ⟨d, e, rp⟩ := r1.getV (f1 xs q)
  obtain ⟨d2, e2, rp2⟩ := r2.getV (f2 ys q2)
  have ed : ds[i] = d := by
    rw [List.getElem?_eq_getElem i1] at e
    exact Option.some.inj e
  have ed2 : es[i] = d2 := by
    rw [List.getElem?_eq_getElem i2] at e2
    exact Option.some.inj e2
  refine ⟨_, zipD_get i1 i2, fun b o e => by rw [upd_ne (ne_of_none e hT)]; exact e, ?_⟩
  rw [ed, ed2]
  exact rp_pair dom hT rp rp2
theorem itr_zipT (n : ¬ S a) (h : H a = some (.tup xs)) (hs : RpA K S H xs ds) (n2 : ¬ S b) (h2 : H b = some (.tup ys)) (hs2 : RpA K S H ys es) : ItR K S H (RZ.ItzT K a b) (zipD ds es) := fun S' H' t dom => by
  have q : SqT K H' a xs := SqT.of (t.off _ _ nt_tup h n)
  have q2 : SqT K H' b ys := SqT.of (t.off _ _ nt_tup h2 n2)
  have r1 := hs.trS t
  have r2 := hs2.trS t
  have l1 := hs.length
  have l2 := hs2.length
  refine ⟨fun i hi => ?_, fun i hi => ⟨xs, ys, q, q2, by rw [zipD_length] at hi; omega⟩⟩
  rw [zipD_length] at hi
  have i1 : i < ds.length := by omega
  have i2 : i < es.length := by omega
  refine ⟨⟨xs, ys, xs[i], ys[i], q, q2, by simp [l1 ▸ i1], by simp [l2 ▸ i2]⟩, fun x H'' y => ?_⟩
  obtain ⟨T, x0, y0, rfl, hT, rfl, f1, f2⟩ := y
  obtain ⟨d, e, rp⟩ := r1.getV (f1 xs q)
  obtain ⟨d2, e2, rp2⟩ := r2.getV (f2 ys q2)
  have ed : ds[i] = d := by
    rw [List.getElem?_eq_getElem i1] at e
    exact Option.some.inj e
  have ed2 : es[i] = d2 := by
    rw [List.getElem?_eq_getElem i2] at e2
    exact Option.some.inj e2
  refine ⟨_, zipD_get i1 i2, fun b o e => by rw [upd_ne (ne_of_none e hT)]; exact e, ?_⟩
  rw [ed, ed2]
  exact rp_pair dom hT rp rp2
end
def fIEnum (fr : AF) : IF := fun ρ => (fr ρ).bind fun ds ρ1 => match ds with
  | [.list xs] => .ok (enumD xs) ρ1
  | _ => .bad
def fIZip (fr : AF) : IF := fun ρ => (fr ρ).bind fun ds ρ1 => match ds with
  | [.list xs, .list ys] => .ok (zipD xs ys) ρ1
  | [.tuple xs, .tuple ys] => .ok (zipD xs ys) ρ1
  | _ => .bad
section
variable {X : Cx} {W : Wx} {e e2 : Expr} {ta : TA} {fr : AF} {p pos tpos : Pos} {elts : List Expr} {kk : Nat} (K : PySem.W.Frag) (hK0 : X.K = K)
include hK0
theorem si_enum (hg : Gl X "enumerate") (hm : X.mg "enumerate" = none) (ha : SA X W [e] ta fr) (hs : starEach [e] X.env = [(false, eval e X.env)] := by rfl) : SI X W (.Tuple elts kk tpos) (.Call (.Name "enumerate" p) [e] [] pos) (iEnum K ta) (fIEnum fr) := by
  subst hK0
  refine ⟨pi_enum hg hm ha.pa hs, fun F S H σ ρ Rr hK fok er hp => ?_⟩
  refine ha.go hK fok er (wI F W σ Rr) hp fun ds ρ1 vs S1 H1 t1 er1 rp hp1 => ?_
  match ds, rp, hp1 with
  | [.list xs], .cons h .nil, hp1 =>
    cases h with
    | lst h hs => exact ⟨_, _, rfl, by rw [← hK]; exact h.seq, hp1 _ S1 H1 .refl er1 (by rw [← hK]; exact itr_enum h hs)⟩
  | [], _, hp1 => exact hp1.elim
  | [.none], _, hp1 => exact hp1.elim
  | [.bool _], _, hp1 => exact hp1.elim
  | [.int _], _, hp1 => exact hp1.elim
  | [.str _], _, hp1 => exact hp1.elim
  | [.tuple _], _, hp1 => exact hp1.elim
  | [.dict _], _, hp1 => exact hp1.elim
  | d :: _ :: _, _, hp1 => cases d <;> exact hp1.elim
theorem si_zip (hg : Gl X "zip") (hm : X.mg "zip" = none) (ha : SA X W [e, e2] ta fr) (hs : starEach [e, e2] X.env = (false, eval e X.env) :: starEach [e2] X.env := by rfl) (hpl : (backTo pos (starEach [e2] X.env)).any (·.1) = false := by rfl) :
    SI X W (.Tuple elts kk tpos) (.Call (.Name "zip" p) [e, e2] [] pos) (RZ.iZipA K ta) (fIZip fr) := by
  subst hK0
  refine ⟨RZ.pi_zipA hg hm ha.pa hs hpl, fun F S H σ ρ Rr hK fok er hp => ?_⟩
  refine ha.go hK fok er (wI F W σ Rr) hp fun ds ρ1 vs S1 H1 t1 er1 rp hp1 => ?_
  have two : ∀ (d1 d2 : PyData) (hp2 : PostI F W S1 H1 σ ρ1 (match [d1, d2] with
      | [.list xs, .list ys] => .ok (zipD xs ys) ρ1
      | [.tuple xs, .tuple ys] => .ok (zipD xs ys) ρ1
      | _ => .bad) Rr), RpA F.K S1 H1 vs [d1, d2] → ∃ a b xs ys, vs = [.ref a, .ref b] ∧ ((SqL X.K H1 a xs ∧ SqL X.K H1 b ys ∧ Rr (Itz X.K a b) H1) ∨ (SqT X.K H1 a xs ∧ SqT X.K H1 b ys ∧ Rr (RZ.ItzT X.K a b) H1)) := by
    intro d1 d2 hp2 rp
    cases rp with
    | cons h1 r2 =>
      cases r2 with
      | cons h2 r3 =>
        cases r3
        cases d1 with
        | list xs =>
          cases d2 with
          | list ys =>
            cases h1 with
            | lst h hs =>
              cases h2 with
              | lst h' hs' => exact ⟨_, _, _, _, rfl, .inl ⟨by rw [← hK]; exact h.seq, by rw [← hK]; exact h'.seq, hp2 _ S1 H1 .refl er1 (by rw [← hK]; exact itr_zipL h hs h' hs')⟩⟩
          | _ => exact hp2.elim
        | tuple xs =>
          cases d2 with
          | tuple ys =>
            cases h1 with
            | tup n h hs =>
              cases h2 with
              | tup n' h' hs' => exact ⟨_, _, _, _, rfl, .inr ⟨SqT.of h, SqT.of h', hp2 _ S1 H1 .refl er1 (by rw [← hK]; exact itr_zipT n h hs n' h' hs')⟩⟩
          | _ => exact hp2.elim
        | _ => exact hp2.elim
  match ds, rp, hp1 with
  | [d1, d2], rp, hp1 => exact two d1 d2 hp1 rp
  | [], _, hp1 => exact hp1.elim
  | [.none], _, hp1 => exact hp1.elim
  | [.bool _], _, hp1 => exact hp1.elim
  | [.int _], _, hp1 => exact hp1.elim
  | [.str _], _, hp1 => exact hp1.elim
  | [.list _], _, hp1 => exact hp1.elim
  | [.tuple _], _, hp1 => exact hp1.elim
  | [.dict _], _, hp1 => exact hp1.elim
  | d1 :: d2 :: d3 :: r, _, hp1 =>
    have : (match d1 :: d2 :: d3 :: r with
      | [.list xs, .list ys] => Out.ok (zipD xs ys) ρ1
      | [.tuple xs, .tuple ys] => .ok (zipD xs ys) ρ1
      | _ => .bad) = .bad := by cases d1 <;> cases d2 <;> rfl
    have hp2 : PostI F W S1 H1 σ ρ1 (match d1 :: d2 :: d3 :: r with
      | [.list xs, .list ys] => Out.ok (zipD xs ys) ρ1
      | [.tuple xs, .tuple ys] => .ok (zipD xs ys) ρ1
      | _ => .bad) Rr := hp1
    rw [this] at hp2
    exact hp2.elim
end
/-- tuple(range(n)) -/
def fTupRg (fa : EF) : EF := fun ρ => (fa ρ).bind fun r ρ1 => match r with
  | .val (.int j) => if decide (0 ≤ j) && decide (j ≤ 16777216) then .ok (.val (.tuple (rangeD 0 j.toNat))) ρ1 else .bad
  | _ => .bad
theorem rgV_rp {K : PySem.W.Frag} {S : AS} {H : Hp} (j : Int) : RpA K S H (rgV 0 j) (rangeD 0 j.toNat) := by
  have e : (j - 0).toNat = j.toNat := by simp
  unfold rgV rangeD
  rw [e]
  have key : ∀ l : List Nat, RpA K S H (l.map fun i : Nat => V.int (0 + (i : Nat))) (l.map fun i : Nat => PyData.int (0 + (i : Nat))) := by
    intro l
    induction l with
    | nil => exact .nil
    | cons x l ih => exact .cons (.int _) ih
  exact key _
theorem se_tupRg {X : Cx} {W : Wx} {a : Expr} {ta : TE} {fa : EF} {p q pos : Pos} {rp : Pos} (hc : X.calm = true) (hg : Gl X "tuple") (hm : X.mg "tuple" = none) (hg2 : Gl X "range") (hm2 : X.mg "range" = none) (ha : SE X W a ta fa)
    (na : starEach [a] X.env = (false, eval a X.env) :: starEach [] X.env := by rfl)
    (nb : starEach [.Call (.Name "range" q) [a] [] rp] X.env = (false, eval (.Call (.Name "range" q) [a] [] rp) X.env) :: starEach [] X.env := by rfl) :
    SE X W (.Call (.Name "tuple" p) [.Call (.Name "range" q) [a] [] rp] [] pos) (tTupRg (tRg1 ta)) (fTupRg fa) := by
  refine ⟨pe_tupRg hc hg hm (prg_1 hg2 hm2 ha.pe na) nb, fun F S H σ ρ Q hK fok er hp => ?_⟩
  refine ha.go hK fok er (wE F W σ Q) hp fun r ρ1 v S1 H1 t1 er1 rr _ hp1 => ?_
  match r, rr, hp1 with
  | .val (.int j), rr, hp1 =>
    cases (show Rp F.K S1 H1 v (.int j) from rr)
    have hp1 : PostE F W S1 H1 σ ρ1 (if decide (0 ≤ j) && decide (j ≤ 16777216) then .ok (.val (.tuple (rangeD 0 j.toNat))) ρ1 else .bad) Q := hp1
    by_cases hz : (decide (0 ≤ j) && decide (j ≤ 16777216)) = true
    · rw [if_pos hz] at hp1
      simp only [Bool.and_eq_true, decide_eq_true_eq] at hz
      refine ⟨j, rfl, .of_le (Int.le_refl _) hz.2 (by omega) hz.1, fun T hT => ?_⟩
      obtain ⟨t, er', rr', fr'⟩ := (Grow.tup (K := F.K) (S := S1) er1.dom hT (rgV_rp j)).step er1 fok
      exact hp1 _ _ _ t er' rr' fr'
    · rw [if_neg hz] at hp1
      exact hp1.elim
  | .val .none, _, hp1 => exact hp1.elim
  | .val (.bool _), _, hp1 => exact hp1.elim
  | .val (.str _), _, hp1 => exact hp1.elim
  | .val (.list _), _, hp1 => exact hp1.elim
  | .val (.tuple _), _, hp1 => exact hp1.elim
  | .val (.dict _), _, hp1 => exact hp1.elim
  | .own _, _, hp1 => exact hp1.elim
  | .slot _, _, hp1 => exact hp1.elim
end Pv
set_option maxRecDepth 100000
/-! PvQ: d.get(k, x). -/
namespace Pv
open PySem PySem.Spec L2

def isDct (ρ : Rho) (r : R) : Bool := match deref ρ r with
  | some (.dict _) => true
  | _ => false
theorem isDct_ty {F : Fx} {S : AS} {H : Hp} {σ : St} {ρ : Rho} {r : R} {v : V} (rr : RR F S H σ ρ v r) (er : ER F S H σ ρ) (h : isDct ρ r = true) : ∃ a, v = .ref a ∧ IsD H a := by
  unfold isDct at h
  cases q : deref ρ r with
  | none => simp [q] at h
  | some d =>
    cases d with
    | dict ds =>
      obtain ⟨a, rfl, hs⟩ := (rr.rt er q).dict
      rcases hs with ⟨kvs, es, e, _⟩ | ⟨kvs, es, e, _⟩
      · exact ⟨a, rfl, .inr ⟨kvs, .inl e⟩⟩
      · exact ⟨a, rfl, .inl ⟨kvs, .inl e⟩⟩
    | _ => simp [q] at h
def outGet (r rk : R) (dx : PyData) (ρ : Rho) : Out R := match deref ρ r, deref ρ rk with
  | some (.dict ds), some k => (match dget? ds k with
    | some o => .ok (.val (o.getD dx)) ρ
    | none => .bad)
  | _, _ => .bad
def fDGet2 (fo fk fx : EF) : EF := fun ρ => (fo ρ).bind fun r ρ1 => if isDct ρ1 r = true then (fk ρ1).bind fun rk ρ2 => bindF (fx ρ2) fun dx ρ3 => outGet r rk dx ρ3 else .bad
theorem se_dget2 {X : Cx} {W : Wx} {o e f : Expr} {to te tf : TE} {fo fe ff : EF} {apos cpos : Pos} (hu : X.A.units + 1 < cLine) (ho : SE X W o to fo) (he : SE X W e te fe) (hf : SE X W f tf ff) (m : M2 X o "get" apos e f cpos) :
    SE X W (.Call (.Attribute o "get" apos) [e, f] [] cpos) (tDGet2 to te tf) (fDGet2 fo fe ff) := by
  refine ⟨pe_dget2 hu ho.pe he.pe hf.pe m, fun F S H σ ρ Q hK fok er hp => ?_⟩
  refine ho.go hK fok er (wE F W σ Q) hp fun r ρ1 v S1 H1 t1 er1 rr1 _ hp1 => ?_
  have hp1 : PostE F W S1 H1 σ ρ1 (if isDct ρ1 r = true then (fe ρ1).bind fun rk ρ2 => bindF (ff ρ2) fun dx ρ3 => outGet r rk dx ρ3 else .bad) Q := hp1
  by_cases hd : isDct ρ1 r = true
  · rw [if_pos hd] at hp1
    obtain ⟨a, rfl, isd⟩ := isDct_ty rr1 er1 hd
    refine ⟨a, rfl, isd, he.go hK fok er1 (wE F W σ Q) hp1 fun rk ρ2 w S2 H2 t2 er2 rr2 _ hp2 => ?_⟩
    refine hf.goF hK fok er2 (wE F W σ Q) hp2 fun dx ρ3 x S3 H3 t3 er3 rp3 hp3 => ?_
    have r1 := (rr1.tr er1 t2 (er2.len.trans er1.len.symm)).tr er2 t3 (er3.len.trans er2.len.symm)
    have r2 := rr2.tr er2 t3 (er3.len.trans er2.len.symm)
    have hp3 : PostE F W S3 H3 σ ρ3 (outGet r rk dx ρ3) Q := hp3
    unfold outGet at hp3
    cases q1 : deref ρ3 r with
    | none => simp only [q1] at hp3; exact hp3.elim
    | some d1 =>
      cases q2 : deref ρ3 rk with
      | none => simp only [q1, q2] at hp3; cases d1 <;> exact hp3.elim
      | some k =>
        simp only [q1, q2] at hp3
        cases d1 with
        | dict ds =>
          simp only at hp3
          cases q3 : dget? ds k with
          | none => simp only [q3] at hp3; exact hp3.elim
          | some od =>
            simp only [q3] at hp3
            obtain ⟨a', ov, ea, g, ro⟩ := (r1.rt er3 q1).look (r2.rt er3 q2) q3
            cases ea
            refine ⟨ov, g, hp3 _ S3 H3 .refl er3 ?_ trivial⟩
            cases ov with
            | none =>
              cases od with
              | none => exact rp3
              | some _ => exact ro.elim
            | some u =>
              cases od with
              | none => exact ro.elim
              | some _ => exact ro
        | _ => exact hp3.elim
  · rw [if_neg hd] at hp1
    exact hp1.elim
end Pv
set_option maxRecDepth 100000
set_option maxHeartbeats 2000000
/-! PvR: all(.. for .. in ..): the generator's own loop. -/
namespace Pv
open PySem PySem.Spec L2
open PyProof.Rows hiding St
open GenW

/-! ### all over anything -/
section
variable {prog : Program} {w : World} {A : Around} {R : Result → Shared → Prop} {I : Addr}
theorem all_loopJ (J : Nat → Shared → Prop)
    (turn : ∀ m s, J m s → wpAny (model prog w) A.in1 (pyNext (.ref I)) (fun r s' => match r with
      | none => R (.ok (.ret (.bool true))) s'
      | some v => ∃ b, v = .bool b ∧ if b = true then ∃ m', m' < m ∧ J m' s' else R (.ok (.ret (.bool false))) s') (fun _ _ => False) s) :
    ∀ (m : Nat) (s : Shared), J m s → codeAny (model prog w) A (.builtin "all.loop" ⟨[.ref I], []⟩) R s := by
  intro m
  induction m using Nat.strongRecOn with
  | ind m ih =>
    intro s hJ
    refine codeAny_builtin F.entry_all_loop ?_
    rw [Around.under_plainId F.plain_all_loop _]
    show wpAny _ A.in1 (pyNext (.ref I) >>= _) _ _ s
    refine wpAny_bind (thnF (turn m s hJ) fun r s' hr => ?_)
    cases r with
    | none => exact wpAny_bind (wpAny_rule (wpAny_pure hr))
    | some v =>
      obtain ⟨b, rfl, hb⟩ := hr
      refine wpAny_bind (wpAny_holding (wpAny_truthy_bool ?_))
      refine wpAny_bind (wpAny_letGo ?_)
      cases b with
      | true =>
        simp only [if_true] at hb ⊢
        obtain ⟨m', hm, hJ'⟩ := hb
        exact wpAny_pure ⟨plainId_quiet F.plain_all_loop _, ih m' hm s' hJ'⟩
      | false =>
        simp only [Bool.false_eq_true, if_false] at hb ⊢
        exact wpAny_bind (wpAny_rule (wpAny_pure hb))
theorem call_allJ {E : Value → Shared → Prop} {a : Addr} {g : Nat} {s : Shared} {Q : Value → Shared → Prop} (J : Nat → Shared → Prop) (hg : s.heap.IsGen a g) (m : Nat) (h0 : J m s)
    (turn : ∀ m s, J m s → wpAny (model prog w) A.in1 (pyNext (.ref a)) (fun r s' => match r with
      | none => Q (.bool true) s'
      | some v => ∃ b, v = .bool b ∧ if b = true then ∃ m', m' < m ∧ J m' s' else Q (.bool false) s') (fun _ _ => False) s) :
    wpAny (model prog w) A (call (.builtin "all") [.ref a]) Q E s := by
  refine call_function_tree F.kind_all F.plain_all F.entry_all (F.args_all1 _) ?_
  unfold Builtin.«all»
  refine wpAny_bind (m := oneArg "all" _) (wpAny_pure ?_)
  refine wpAny_bind (wpAny_pyIter_gen hg ?_)
  exact wpAny_pure ⟨plainId_quiet F.plain_all_loop _, all_loopJ J (fun m s hJ => thnF (turn m s hJ) fun r s' hr => by
    cases r with
    | none => exact hr
    | some v => exact hr) m s h0⟩
end

/-! ### the generator's context -/
/-- the frames' view of a generator expression's code -/
theorem over_gen {A : Around} {elt tg iter : Expr} {ifs : List Expr} {scope : Scope} {pos : Pos} {it acc : Value} {env : Env} :
    A.over (.compLoop (.GeneratorExp elt [⟨tg, iter, ifs, 0⟩] scope pos) 0 it acc env) [] = A.deeper env := by
  first
    | rfl
    | (obtain ⟨hd, d, fr, gs, u⟩ := A; simp [Around.over, Around.deeper, marksOver, frameCount, unitsOf, envsOf, guardsOf, pushEnvs, pushGuards, Code.envs, Code.env?, Code.isFrame, Code.guards, Code.isGuard, Code.weight, Code.frames, Code.isCreation, Code.isCaller, Code.cUnits])
theorem over_gen0 {A : Around} {elt tg iter : Expr} {ifs : List Expr} {scope : Scope} {pos : Pos} {it acc : Value} {env : Env} :
    A.over (.compStart (.GeneratorExp elt [⟨tg, iter, ifs, 0⟩] scope pos) 0 it acc env) [] = A.deeper env := by
  first
    | rfl
    | (obtain ⟨hd, d, fr, gs, u⟩ := A; simp [Around.over, Around.deeper, marksOver, frameCount, unitsOf, envsOf, guardsOf, pushEnvs, pushGuards, Code.envs, Code.env?, Code.isFrame, Code.guards, Code.isGuard, Code.weight, Code.frames, Code.isCreation, Code.isCaller, Code.cUnits])

/-- the around of a generator's code, woken by all's loop -/
structure GenA (A A' : Around) : Prop where
  hd : A'.handled = A.handled
  dp : A'.depth ≤ A.depth + 1
  un : A'.units ≤ A.units + 5
theorem GenA.room {A A' : Around} {k : Nat} (h : GenA A A') (hr : Room (k + 1) A) : Room k A' := by
  have h1 := hr.dp
  have h2 := hr.un
  have h3 := h.dp
  have h4 := h.un
  exact ⟨h.hd.trans hr.hd, by omega, by omega⟩
abbrev Cx.gen (X : Cx) (s : Shared) (H : Hp) (scope : Scope) (cenv : Env) (fp : List Addr) (A' : Around) : Cx :=
  { X with s_0 := s, H_0 := H, env := cenv, outer := X.stack, stack := cenv :: X.stack, ex := fp, fn := fun x => scope.names.lookup x == some .cell, pn := [], xe := fun _ _ => False, A := A' }
section
variable {X : Cx} {pins : List (Addr × Obj)} {σ : L2.St} {H : Hp} {s : Shared}
theorem gen_start {scope : Scope} {own : List (Str × Nat)} {fp : List Addr} {code : Value} {A' : Around} {h' : Heap} {g' : Array GenState} {t' : Nat} {d' : Drawn} {m0 : Str → Option Value}
    (I : Inv X pins σ H s) (ok : BlkOk X.N X.env.scope scope own) (hN : X.N.Nodup) (hcell : ∀ y ∈ scope.names, y.2 ≠ .cell) (hfp : ∀ b ∈ fp, FpOk X pins H b ∧ b < s.heap.objs.size)
    (hAf : A'.frames = some (genEnv scope (cloFrom X.env.cells scope.names []) s.heap.objs.size code builtinsNs X.env :: X.stack)) (hAh : A'.handled = X.A.handled)
    (hn : h'.Ns s.heap.objs.size m0) (hk : ∀ b o, s.heap.get? b = some o → h'.get? b = some o) (hb : AllBare g') :
    Inv (Cx.gen X s H scope (genEnv scope (cloFrom X.env.cells scope.names []) s.heap.objs.size code builtinsNs X.env) fp A') [] (wipe σ (own.map (·.2))) H { s with heap := h', gens := g', toks := t', drawn := d' } := by
  have hfree : ∀ y ∈ scope.names, y.2 = .free → ∃ c, X.env.cells.lookup y.1 = some c := fun y hy e => by
    rcases ok.free y hy e with k | k
    · exact I.ok.has _ (.inl k)
    · exact I.ok.has _ (.inr k)
  generalize hcenv : genEnv scope (cloFrom X.env.cells scope.names []) s.heap.objs.size code builtinsNs X.env = cenv at hAf
  have hL : cenv.locals = s.heap.objs.size := by rw [← hcenv]; rfl
  have hcl : cenv.cells = cloFrom X.env.cells scope.names [] := by rw [← hcenv]; rfl
  have hsc : cenv.scope = scope := by rw [← hcenv]; rfl
  have hfr : cenv.frame = some cenv.locals := by rw [← hcenv]; rfl
  have cm : ∀ {y c}, (y, c) ∈ cloFrom X.env.cells scope.names [] → X.env.cells.lookup y = some c ∧ c < s.heap.objs.size := fun {y c} hm => by
    rcases cloFrom_mem hm with hm | ⟨h1, rfl⟩
    · cases hm
    · obtain ⟨c, hc⟩ := hfree _ h1 rfl
      rw [hc]
      obtain ⟨w, z⟩ := I.cell _ _ hc
      exact ⟨rfl, z.lt⟩
  have mem : ∀ {y c}, cenv.cells.lookup y = some c → X.env.cells.lookup y = some c ∧ c < s.heap.objs.size := fun {y c} e => by
    rw [hcl] at e
    exact cm (PySem.mem_of_lookup e)
  have look : ∀ {y}, scope.names.lookup y = some .free → ∃ c, cenv.cells.lookup y = some c ∧ X.env.cells.lookup y = some c := fun {y} hl => by
    have hy : (y, NameKind.free) ∈ scope.names := PySem.mem_of_lookup hl
    obtain ⟨c', e'⟩ := mem_lookup (cloFrom_has (cells := X.env.cells) (acc := []) hy)
    rw [← hcl] at e'
    exact ⟨c', e', (mem e').1⟩
  have nocell : ∀ {y}, scope.names.lookup y = some .cell → False := fun {y} hl => hcell _ (PySem.mem_of_lookup hl) rfl
  have okB : (Cx.gen X s H scope cenv fp A').Ok := by
    refine ⟨I.ok.mod, by show cenv.scope.kind = _; rw [hsc]; exact ok.kind, by show cenv.globals = _; rw [← hcenv]; exact I.ok.glob, by show cenv.builtins = _; rw [← hcenv]; rfl, by show s.heap.objs.size ≤ cenv.locals; rw [hL]; exact Nat.le_refl _,
      fun y z c e1 e2 => ?_, fun y hy => ?_, fun y c z e => ?_, fun hc => by show A'.handled = none; rw [hAh]; exact I.ok.hd hc, hAf, .inr ⟨rfl, hfr⟩, fun b hb => ⟨?_, fun y c e z => ?_⟩, I.bs, Nat.le_trans I.ok.bsz I.sz, fun b o e hb => ?_, fun b hb z => ?_, I.stack, I.stkFree⟩
    · have e1 : cenv.cells.lookup y = some c := e1
      have e2 : cenv.cells.lookup z = some c := e2
      exact I.ok.inj y z c (mem e1).1 (mem e2).1
    · show ∃ c, cenv.cells.lookup y = some c
      rcases hy with hy | hy
      · have hy : cenv.scope.names.lookup y = some .cell := hy
        rw [hsc] at hy
        exact (nocell hy).elim
      · have hy : cenv.scope.names.lookup y = some .free := hy
        rw [hsc] at hy
        obtain ⟨c, h1, _⟩ := look hy
        exact ⟨c, h1⟩
    · have z : (scope.names.lookup y == some NameKind.cell) = true := z
      have z : scope.names.lookup y = some .cell := by simpa using z
      exact (nocell z).elim
    · show b ≠ cenv.locals
      rw [hL]; exact Nat.ne_of_lt (hfp b hb).2
    · have e : cenv.cells.lookup y = some c := e
      exact (hfp b hb).1.2.2.2.2.1 y c (mem e).1 z
    · rcases (hfp b hb).1.2.2.2.1 with z | z
      · exact I.ok.noex b o e z
      · exact absurd (Nat.lt_of_lt_of_le (Heap.lt_size e) (Nat.le_trans I.ok.bsz z)) (Nat.lt_irrefl _)
    · rcases List.mem_cons.mp (I.stkSub b z) with z | z
      · exact (hfp b hb).1.2.1 z
      · exact (hfp b hb).1.2.2.1 z
  refine ⟨okB, rfl, hb, Un.kept hk, ⟨m0, ?_, fun i y av e1 e2 e3 => ?_⟩, fun y c e => ?_, ?_, fun y c e => ?_, fun p hp => ?_, I.hok.kept hk, by rw [wipe_length]; exact I.len⟩
  · show Heap.Ns _ cenv.locals _
    rw [hL]
    exact hn
  · obtain ⟨e2, hne⟩ := wipe_some e2
    have hfr2 : scope.names.lookup y = some .free := by
      have e3 : Vis cenv.scope y := e3
      rw [hsc] at e3
      rcases e3 with e3 | e3 | e3
      · exfalso
        rcases ok.own _ (PySem.mem_of_lookup e3) (.inl rfl) with e' | e'
        · obtain ⟨p, hp, hpy⟩ := List.mem_map.mp e'
          have e4 := ok.ix p hp
          have : p.1 = y := hpy
          rw [this] at e4
          exact hne (List.mem_map.mpr ⟨p, hp, nodup_ix hN e4 e1⟩)
        · exact e' (List.mem_of_getElem? e1)
      · exact (nocell e3).elim
      · exact e3
    obtain ⟨m, hn2, hl⟩ := I.loc
    have hvis : Vis X.env.scope y := (ok.free _ (PySem.mem_of_lookup hfr2) rfl).elim (fun k => .inr (.inl k)) (fun k => .inr (.inr k))
    obtain ⟨w, r, q⟩ := hl i y av e1 e2 hvis
    refine ⟨w, r, .inr ⟨.inr (by show cenv.scope.names.lookup y = some .free; rw [hsc]; exact hfr2), ?_⟩⟩
    obtain ⟨c, h1, h2⟩ := look hfr2
    rcases q with ⟨k, _⟩ | ⟨_, c', e', z⟩
    · have k : X.env.scope.names.lookup y = some .local := k
      rcases ok.free _ (PySem.mem_of_lookup hfr2) rfl with k' | k' <;> rw [show X.env.scope.names.lookup y = _ from k'] at k <;> cases k
    · rw [h2] at e'; cases e'
      exact ⟨c, h1, z.keeps hk⟩
  · have e : cenv.cells.lookup y = some c := e
    obtain ⟨w, z⟩ := I.cell y c (mem e).1
    exact ⟨w, z.keeps hk⟩
  · show H cenv.locals = none
    rw [hL]; exact I.hok.fresh (Nat.le_refl _)
  · have e : cenv.cells.lookup y = some c := e
    exact I.freeC y c (mem e).1
  · exact absurd (show p ∈ ([] : List (Addr × Obj)) ++ [] from hp) (by simp)
end

/-! ### the turns -/
/-- between a yield and the next waking nothing is laid or written -/
structure Wake (s s' : Shared) : Prop where
  heap : s'.heap = s.heap
  os : s'.os = s.os
  bare : AllBare s'.gens
theorem Inv.wake {X : Cx} {pins : List (Addr × Obj)} {σ : St} {H : Hp} {s s' : Shared} (I : Inv X pins σ H s) (w : Wake s s') : Inv X pins σ H s' := by
  obtain ⟨hh, g, d, t, o⟩ := s'
  have e1 : hh = s.heap := w.heap
  have e2 : o = s.os := w.os
  subst e1 e2
  exact ⟨I.ok, I.os, w.bare, I.base, I.loc, I.cell, I.free, I.freeC, I.pin, I.hok, I.len⟩
/-- what all asks of a generator's turns -/
def AllW (J : It) (g : TG) (te : TE) (vs : List Nat) (σ : St) (Q : VK) (W : Nat → Nat → Hp → Prop) : Prop := ∀ i m H, W i m H →
  (J.stop i H ∧ Q (.bl true) H) ∨ (J.go i H ∧ ∃ Nx : Hp → Prop, (∀ H', Nx H' → ∃ m', m' < m ∧ W (i + 1) m' H') ∧ ∀ x H', J.yld i H x H' → g x (wipe σ vs) H' fun σ2 H2 => wipe σ2 vs = wipe σ vs ∧ te σ2 H2 fun y H3 =>
    ∃ b, y = .bl b ∧ if b = true then Nx H3 else Q (.bl false) H3)
/-- ahead of a turn -/
def GRun (Y : Cx) (a : Addr) (og : Obj) (σw : St) (fp : List Addr) (tn : Nat → Heap → Prop) (W : Nat → Nat → Hp → Prop) (i m : Nat) (H' : Hp) (s : Shared) : Prop :=
  Inv Y [(a, og)] σw H' s ∧ tn i s.heap ∧ (∀ b ∈ fp, H' b = none) ∧ W i m H'
def GEnd (Y : Cx) (a : Addr) (og : Obj) (Q : VK) (b : Bool) (s : Shared) : Prop := ∃ σ' pins' H', Inv Y ((a, og) :: pins') σ' H' s ∧ Q (.bl b) H'
def gRR (Y : Cx) (a : Addr) (og : Obj) (Q : VK) : GenEnd := fun _ _ r s1 => ((r = .ok (.ret .none) ∨ r = .ok .next) ∧ GEnd Y a og Q true s1) ∨ ∃ e, r = .error e ∧ False
def gYY (Y : Cx) (a : Addr) (og : Obj) (σw : St) (fp : List Addr) (tn : Nat → Heap → Prop) (W : Nat → Nat → Hp → Prop) (Q : VK) : Protocol := fun n _ v s kap =>
  ∃ b, v = .bool b ∧ if b = true then (∃ i m H', m + 1 ≤ n ∧ GRun Y a og σw fp tn W i m H' s ∧ ∀ s'', Wake s s'' → kap (.send .none) s'') else GEnd Y a og Q false s
theorem seg_gl {X : Cx} {elt tg iter : Expr} {scope : Scope} {pos : Pos} {it a : Addr} {og : Obj} {cenv : Env} {fp : List Addr} {tn : Nat → Heap → Prop} {J : It} {g : TG} {te : TE} {vs : List Nat} {σ : St} {Q : VK} {W : Nat → Nat → Hp → Prop} {A2 : Around} {s4 : Shared} {H3 : Hp}
    (hc : X.calm = true) (T : Turn X.prog X.w X.K tg J fp it tn) (hco : cenv.scope.isCoroutine = false) (hfa : ∀ b ∈ fp, b ≠ a)
    (pg : PG (Cx.gen X s4 H3 scope cenv fp (A2.deeper cenv)) tg g) (pe : PE (Cx.gen X s4 H3 scope cenv fp (A2.deeper cenv)) elt te) (hW : AllW J g te vs σ Q W) :
    ∀ (m i n : Nat) (s₀ s : Shared) (H' : Hp), m + 1 ≤ n → GRun (Cx.gen X s4 H3 scope cenv fp (A2.deeper cenv)) a og (wipe σ vs) fp tn W i m H' s →
      Seg (model X.prog X.w) A2 (gRR (Cx.gen X s4 H3 scope cenv fp (A2.deeper cenv)) a og Q) (gYY (Cx.gen X s4 H3 scope cenv fp (A2.deeper cenv)) a og (wipe σ vs) fp tn W Q) n s₀
        (.compLoop (.GeneratorExp elt [⟨tg, iter, [], 0⟩] scope pos) 0 (.ref it) .none cenv)
        ((model X.prog X.w).den (.compLoop (.GeneratorExp elt [⟨tg, iter, [], 0⟩] scope pos) 0 (.ref it) .none cenv)) [] s := by
  intro m
  induction m using Nat.strongRecOn with
  | ind m ih =>
    intro i n s₀ s H' hmn ⟨I, st, nfp, w⟩
    have stat : ∀ {σ' : St} {H' : Hp} {s' : Shared}, Inv (Cx.gen X s4 H3 scope cenv fp (A2.deeper cenv)) [(a, og)] σ' H' s' → (∀ b ∈ fp, H' b = none) → ∀ b ∈ fp, FpOk (Cx.gen X s4 H3 scope cenv fp (A2.deeper cenv)) [(a, og)] H' b := fun {σ' H' s'} I' hn b hb =>
      ⟨hn b hb, (I'.ok.exf b hb).1, I'.ok.exfs b hb, .inl hb, fun x c e => (I'.ok.exf b hb).2 x c e, fun p hp => by
        have e : p = (a, og) := by simpa using hp
        subst e
        exact fun z => hfa b hb z.symm⟩
    show Seg _ A2 _ _ _ s₀ _ ((compTurn (.GeneratorExp elt [⟨tg, iter, [], 0⟩] scope pos) 0 (.ref it) .none cenv).onRaise (leaving cenv)) [] s
    rw [compTurn_gen, Sem.onRaise_eq_wrap]
    refine seg_bind_wrap (wpAny_standAt ?_)
    rcases hW i m H' w with ⟨stop, qq⟩ | ⟨go, Nx, hNx, step⟩
    · have td := T.done (Cx.gen X s4 H3 scope cenv fp (A2.deeper cenv)) rfl rfl rfl hc i [(a, og)] s _ H' (fun _ _ => False) I (stat I nfp) st stop
      refine seg_bind_wrap ?_
      rw [over_gen]
      refine thnF td fun r s6 ⟨hr, I6⟩ => ?_
      subst hr
      exact seg_end (.ok .next) (.inl ⟨.inr rfl, _, [], _, I6, qq⟩)
    · have ti := T.item (Cx.gen X s4 H3 scope cenv fp (A2.deeper cenv)) rfl rfl rfl hc i [(a, og)] s _ H' (fun _ _ => False) I (stat I nfp) st go
      refine seg_bind_wrap ?_
      rw [over_gen]
      refine thnF ti fun r s6 ⟨u, hr, h6⟩ => ?_
      subst hr
      refine seg_bind_wrap ?_
      rw [over_gen]
      refine thnF h6 fun _ s7 ⟨x, H7, I7, r7, y7, st7, n7⟩ => ?_
      have I7' := I7.pinned (stat I7 n7) (T.obj _ _ st7)
      refine seg_bind_wrap ?_
      rw [over_gen]
      refine thnF (pg.run _ s7 _ H7 x u _ I7' r7 (step x H7 y7)) fun _ s8 ⟨σ8, H8, I8, hw8, q8⟩ => ?_
      refine seg_bind_wrap ?_
      rw [List.forIn_nil]
      refine wpAny_pure ?_
      simp only [if_true]
      have hy : ∀ v, yieldOut cenv v = yieldValue v := fun v => by simp only [yieldOut, hco, Bool.false_eq_true, if_false]
      simp only [hy]
      rw [Sem.bind_eq_wrap', Sem.bind_eq_wrap', Sem.wrap_wrap, Sem.wrap_wrap]
      refine seg_wrap ?_
      rw [over_gen]
      refine thnF (pe.run _ s8 σ8 H8 _ I8 q8) fun z s10 ⟨yv, H10, I10, r10, b, eb, nx⟩ => ?_
      subst eb
      obtain rfl : z = Value.bool b := r10
      obtain ⟨n, rfl⟩ : ∃ k, n = k + 1 := ⟨n - 1, by omega⟩
      refine seg_at (seg_yield rfl rfl rfl ⟨b, rfl, ?_⟩)
      cases b with
      | false =>
        rw [if_neg Bool.false_ne_true] at nx ⊢
        exact ⟨_, _, _, I10, nx⟩
      | true =>
        rw [if_pos rfl] at nx ⊢
        obtain ⟨m', hm, w'⟩ := hNx H10 nx
        have pin' : ∀ b ∈ fp, ∀ o, s7.heap.get? b = some o → s10.heap.get? b = some o ∧ H10 b = none := fun b hb o e =>
          let z := I10.pin (b, o) (List.mem_append_right _ (List.mem_append_right _ (mem_pinsAt hb e)))
          ⟨z.1, z.2.1⟩
        have hl : (wipe σ vs).length = σ8.length := by rw [← hw8, wipe_length]
        have run : GRun (Cx.gen X s4 H3 scope cenv fp (A2.deeper cenv)) a og (wipe σ vs) fp tn W (i + 1) m' H10 s10 := by
          refine ⟨(I10.unpinned (pins := [(a, og)])).weak hl (fun j v e => ?_), T.keep _ _ _ st7 fun b hb o e => (pin' b hb o e).1, fun b hb => ?_, w'⟩
          · rw [← hw8] at e
            exact (wipe_some e).1
          · obtain ⟨o, e, _⟩ := T.obj _ _ st7 b hb
            exact (pin' b hb o e).2
        refine ⟨i + 1, m', H10, by omega, run, fun s'' wk => ?_⟩
        exact seg_again rfl (ih m' hm (i + 1) n s'' s'' H10 (by omega) ⟨Inv.wake run.1 wk, by rw [wk.heap]; exact run.2.1, run.2.2.1, w'⟩)
theorem seg_gl0 {X : Cx} {elt tg iter : Expr} {scope : Scope} {pos : Pos} {it a : Addr} {og : Obj} {cenv : Env} {fp : List Addr} {tn : Nat → Heap → Prop} {J : It} {g : TG} {te : TE} {vs : List Nat} {σ : St} {Q : VK} {W : Nat → Nat → Hp → Prop} {A2 : Around} {s4 : Shared} {H3 : Hp}
    (hc : X.calm = true) (T : Turn X.prog X.w X.K tg J fp it tn) (hco : cenv.scope.isCoroutine = false) (hfa : ∀ b ∈ fp, b ≠ a)
    (pg : PG (Cx.gen X s4 H3 scope cenv fp (A2.deeper cenv)) tg g) (pe : PE (Cx.gen X s4 H3 scope cenv fp (A2.deeper cenv)) elt te) (hW : AllW J g te vs σ Q W)
    (m i n : Nat) (s₀ s : Shared) (H' : Hp) (hmn : m + 1 ≤ n) (hr : GRun (Cx.gen X s4 H3 scope cenv fp (A2.deeper cenv)) a og (wipe σ vs) fp tn W i m H' s) :
      Seg (model X.prog X.w) A2 (gRR (Cx.gen X s4 H3 scope cenv fp (A2.deeper cenv)) a og Q) (gYY (Cx.gen X s4 H3 scope cenv fp (A2.deeper cenv)) a og (wipe σ vs) fp tn W Q) n s₀
        (.compStart (.GeneratorExp elt [⟨tg, iter, [], 0⟩] scope pos) 0 (.ref it) .none cenv)
        ((model X.prog X.w).den (.compStart (.GeneratorExp elt [⟨tg, iter, [], 0⟩] scope pos) 0 (.ref it) .none cenv)) [] s := by
  have loop := seg_gl (iter := iter) (pos := pos) hc T hco hfa pg pe hW m i n s₀ s H' hmn hr
  have st := hr.2.1
  show Seg _ A2 _ _ _ s₀ _ ((compStart (.GeneratorExp elt [⟨tg, iter, [], 0⟩] scope pos) 0 (.ref it) .none cenv).onRaise (leaving cenv)) [] s
  unfold compStart
  rw [Sem.onRaise_eq_wrap]
  show Seg _ A2 _ _ _ s₀ _ ((ask >>= _).wrap _ _ _ _) [] s
  refine seg_bind_wrap (wpAny_askSetting ?_)
  split
  · exact seg_again rfl loop
  · first
      | exact seg_bind_wrap (wpAny_rule (seg_bind_wrap (wpAny_standAt (seg_bind_wrap (T.self _ i s _ _ st (seg_again rfl loop))))))
      | (refine seg_bind_wrap (wpAny_rule ?_); show Seg _ A2 _ _ _ s₀ _ ((standAt iter.pos >>= _).wrap _ _ _ _) [] s; exact seg_bind_wrap (wpAny_standAt (seg_bind_wrap (T.self _ i s _ _ st (seg_again rfl loop)))))
end Pv
set_option maxRecDepth 100000
set_option maxHeartbeats 2000000
/-! PvS: all(.. for .. in ..) as a value. -/
namespace Pv
open PySem PySem.Spec L2
open PyProof.Rows hiding St
open GenW

/-- all(elt for tg in iter); behind it the def's table may have grown -/
def tAll (P : Addr) (wi : TI) (g : TG) (te : TE) (vs : List Nat) : TE := fun σ H Q => wi σ H fun J H1 => GxR.TabG H1 P ∧ ∀ H2, GxR.Tabbed P H1 H2 → ∃ W : Nat → Nat → Hp → Prop, (∃ m, W 0 m H2) ∧ AllW J g te vs σ Q W
section
variable {X : Cx}
theorem pe_allG {c P : Addr} {elt tg iter : Expr} {scope : Scope} {own : List (Str × Nat)} {p pos gpos : Pos} {wi : TI} {g : TG} {te : TE} {k : Nat}
    (hr : Room k X.A) (hc : X.calm = true) (hN : X.N.Nodup) (hg : Gl X "all") (hm : X.mg "all" = none) (TB : GxR.TabB X.base X.mg c P) (hcode : X.env.code = .ref c) (hi : PI X tg iter wi) (ok : BlkOk X.N X.env.scope scope own)
    (hco : scope.isCoroutine = false) (hcell : ∀ y ∈ scope.names, y.2 ≠ .cell) (hdot : scope.names.lookup (".0" : Str) = some NameKind.local)
    (pg : ∀ (s : Shared) (H : Hp) (C : Addr) (cl : List (Str × Addr)) (fp : List Addr) (code : Value) (A' : Around), GenA X.A A' → PG (Cx.gen X s H scope (genEnv scope cl C code builtinsNs X.env) fp A') tg g)
    (pe : ∀ (s : Shared) (H : Hp) (C : Addr) (cl : List (Str × Addr)) (fp : List Addr) (code : Value) (A' : Around), GenA X.A A' → PE (Cx.gen X s H scope (genEnv scope cl C code builtinsNs X.env) fp A') elt te)
    (hs : ∀ v, genFold iter X.env v = pure v := by intro _; rfl)
    (he : starEach [.GeneratorExp elt [⟨tg, iter, [], 0⟩] scope gpos] X.env = (false, eval (.GeneratorExp elt [⟨tg, iter, [], 0⟩] scope gpos) X.env) :: starEach [] X.env := by rfl) :
    PE X (.Call (.Name "all" p) [.GeneratorExp elt [⟨tg, iter, [], 0⟩] scope gpos] [] pos) (tAll P wi g te (own.map (·.2))) := by
  refine ⟨fun pins s σ H Q I h => ?_⟩
  refine wpAny_Call_Name_kw (ld_blt I hg hm (by rfl) ?_)
  refine PyProof.Rows.callWith_builtin1 ?_ he (by rfl)
  rw [he]
  show wpAny _ _ (spliced ((false, eval (.GeneratorExp elt [⟨tg, iter, [], 0⟩] scope gpos) X.env) :: backTo pos (starEach [] X.env))) _ _ s
  have hfree : ∀ y ∈ scope.names, y.2 = .free → ∃ c, X.env.cells.lookup y.1 = some c := fun y hy e => by
    rcases ok.free y hy e with k | k
    · exact I.ok.has _ (.inl k)
    · exact I.ok.has _ (.inr k)
  refine Calls.spliced_cons (wpAny_GeneratorExp_make hco (closure_ok hfree) hcell hdot ok.kind (by have := hr.dp; omega) (thn (hi.run pins s σ H _ I h) fun xv s1 h1 => thn h1 fun itv s2 h2 => ?_) hs)
  obtain ⟨it, fp, tn, J, H2, e, I2, T, st2, f2, ⟨ps, hP, ht⟩, q⟩ := h2
  subst e
  refine ⟨I2.nolimit, ?_⟩
  have hPs : s2.heap.get? P = some { cls := .none, data := .fields ps } := I2.hok P _ hP
  have cd : PySem.W.CodeHd s2.heap c P := TB.code.keeps fun b u e => I2.bk b u e
  have szf : ∀ b ∈ fp, b < s2.heap.objs.size := fun b hb => by
    obtain ⟨o, e, _⟩ := T.obj _ _ st2 b hb
    exact Heap.lt_size e
  have nPf : ∀ b ∈ fp, b ≠ P := fun b hb z => by
    have := (f2 b hb).1
    rw [z, hP] at this
    cases this
  have cont : ∀ (code : Value) (h3 : Heap) (tk : Nat) (ps' : Array Value), Heap.ExtBut P s2.heap h3 → s2.heap.objs.size ≤ h3.objs.size → h3.get? P = some { cls := .none, data := .fields ps' } → (∃ more, ps' = ps ++ more) → TriplesOk ps'.toList →
      wpAny (model X.prog X.w) X.A (builtinsFor X.env.globals X.env.builtins) (fun bi s₄ =>
        ∀ h', h'.Ns s₄.heap.objs.size (fun y => if y = ".0" then some (Value.ref it) else none) → Heap.SameBut s₄.heap.objs.size (s₄.heap.push { cls := .type "frame", data := .dict #[] }) h' →
          wpAny (model X.prog X.w) X.A (spliced (backTo pos (starEach [] X.env))) (fun us s' => wpAny (model X.prog X.w) X.A (call (.builtin "all") (.ref h'.objs.size :: us)) (fun v s'' => ∃ x H', Inv X pins σ H' s'' ∧ RelV x v ∧ Q x H') X.xe s') X.xe
          { s₄ with
            gens := s₄.gens.push (.fresh (.compStart (.GeneratorExp elt [⟨tg, iter, [], 0⟩] scope gpos) 0 (.ref it) .none (genEnv scope (cloFrom X.env.cells scope.names []) s₄.heap.objs.size code bi X.env))),
            toks := s₄.toks + 1 + 1 + 1,
            heap := h'.push { cls := .type "generator", data := .fields #[.int s₄.gens.size 0, .str "<genexpr>" (s₄.toks + 1), .str (X.env.qual ++ "<genexpr>") (s₄.toks + 1 + 1)] } }) X.xe { s2 with heap := h3, toks := tk } := by
    intro code h3 tk ps' hx hsz hP3 hmore ht3
    obtain ⟨bm, ob, e1, e2, e3, e4, e5, e6, e7, e8⟩ := TB.bm
    have keep3 : ∀ b u, b ≠ P → s2.heap.get? b = some u → h3.get? b = some u := fun b u hb e => hx b u hb e
    refine wpAny_builtinsFor (m := X.mg) (by rw [I2.ok.glob]; exact ((I2.mod.glob.keeps I2.bk)).extBut hx TB.gP) e1 e2 (keep3 _ _ e4 (I2.bk _ _ e5)) e6 e7 e8 ?_
    intro h' hn' hs'
    obtain ⟨more, em⟩ := hmore
    have I3 := GxR.inv_tab (more := more) (h' := h3) (g' := s2.gens) (d' := s2.drawn) (t' := tk) I2 hP (fun b u hb e => keep3 b u hb e) (by rw [← em]; exact hP3) I2.bare
    generalize hH3 : upd H2 P (.tbl (ps ++ more)) = H3 at I3
    have tb3 : GxR.Tabbed P H2 H3 := by rw [← hH3]; exact ⟨⟨ps ++ more, upd_same, by rw [← em]; exact ht3⟩, fun b hb => upd_ne hb⟩
    obtain ⟨W, ⟨m0, w0⟩, hW⟩ := q H3 tb3
    have f3 : ∀ b ∈ fp, FpOk X pins H3 b ∧ b < h3.objs.size := fun b hb => ⟨⟨by rw [tb3.2 b (nPf b hb)]; exact (f2 b hb).1, (f2 b hb).2⟩, Nat.lt_of_lt_of_le (szf b hb) hsz⟩
    have st3 : tn 0 h3 := T.keep _ _ _ st2 fun b hb o e => keep3 b o (nPf b hb) e
    have hn' : h'.Ns h3.objs.size (fun y => if y = ".0" then some (Value.ref it) else none) := hn'
    have hs' : Heap.SameBut h3.objs.size (h3.push { cls := .type "frame", data := .dict #[] }) h' := hs'
    have hsz' : h'.objs.size = h3.objs.size + 1 := by rw [hs'.1, Heap.size_push]
    have keep' : ∀ b o, h3.get? b = some o → h'.get? b = some o := fun b o e => hs'.extBut b o (Nat.ne_of_lt (Heap.lt_size e)) (Heap.get?_push_of_some _ e)
    generalize hog : ({ cls := .type "generator", data := .fields #[.int s2.gens.size 0, .str "<genexpr>" (tk + 1), .str (X.env.qual ++ "<genexpr>") (tk + 1 + 1)] } : Obj) = og
    have hfo : og.isFreed = false := by rw [← hog]; rfl
    have keep5 : ∀ b o, h3.get? b = some o → (h'.push og).get? b = some o := fun b o e => Heap.get?_push_of_some _ (keep' b o e)
    generalize hcs : Code.compStart (.GeneratorExp elt [⟨tg, iter, [], 0⟩] scope gpos) 0 (.ref it) .none (genEnv scope (cloFrom X.env.cells scope.names []) h3.objs.size code builtinsNs X.env) = cs
    have goal : ∀ s5 : Shared, s5 = { s2 with heap := h'.push og, gens := s2.gens.push (.fresh cs), toks := tk + 1 + 1 + 1 } →
        wpAny (model X.prog X.w) X.A (call (.builtin "all") [.ref h'.objs.size]) (fun v s'' => ∃ x H', Inv X pins σ H' s'' ∧ RelV x v ∧ Q x H') X.xe s5 := by
      intro s5 hs5
      have hAd : GenA X.A (X.A.in1.in1.deeper (genEnv scope (cloFrom X.env.cells scope.names []) h3.objs.size code builtinsNs X.env)) := ⟨rfl, Nat.le_refl _, Nat.le_refl _⟩
      have b5 : AllBare (s2.gens.push (.fresh cs)) := I2.bare.push rfl
      have I5 := gen_start (code := code) (g' := s2.gens.push (.fresh cs)) (t' := tk + 1 + 1 + 1) (d' := s2.drawn) I3 ok hN hcell f3 (Around.frames_deeper (A := X.A.in1.in1) I3.ok.frames) hAd.hd (hn'.push og) keep5 b5
      have PGx := pg { s2 with heap := h3, toks := tk } H3 h3.objs.size (cloFrom X.env.cells scope.names []) fp code _ hAd
      have PEx := pe { s2 with heap := h3, toks := tk } H3 h3.objs.size (cloFrom X.env.cells scope.names []) fp code _ hAd
      have hfa : ∀ b ∈ fp, b ≠ h'.objs.size := fun b hb => Nat.ne_of_lt (by have h8 : b < h3.objs.size := (f3 b hb).2; have h9 : (h'.objs.size : Nat) = h3.objs.size + 1 := hsz'; exact Nat.lt_of_lt_of_le h8 (by rw [h9]; exact Nat.le_succ _))
      have hHa : H3 h'.objs.size = none := I3.hok.fresh (by show h3.objs.size ≤ _; omega)
      have I5 := I5.pins_of (pins' := [(h'.objs.size, og)]) fun p hp => by
        have e : p = (h'.objs.size, og) := by simpa using hp
        subst e
        refine ⟨Heap.get?_push_size _ hfo, hHa, ?_, fun z => ?_, fun v z => ?_⟩
        · show h'.objs.size ≠ h3.objs.size
          omega
        · have z : h'.objs.size ∈ frs X.stack := z
          rcases List.mem_cons.mp (I3.stkSub _ z) with y | y
          · have h9 : X.env.locals < h3.objs.size := I3.lt
            rw [← y, hsz'] at h9
            exact absurd h9 (Nat.not_lt.mpr (Nat.le_succ _))
          · exact I3.nofs (a := h'.objs.size) (by show h3.objs.size ≤ _; omega) y
        · rw [← hog] at z
          cases z
      generalize hce : genEnv scope (cloFrom X.env.cells scope.names []) h3.objs.size code builtinsNs X.env = cenv at I5 PGx PEx hcs
      have hco' : cenv.scope.isCoroutine = false := by rw [← hce]; exact hco
      have run0 : GRun (Cx.gen X { s2 with heap := h3, toks := tk } H3 scope cenv fp (X.A.in1.in1.deeper cenv)) h'.objs.size og (wipe σ (own.map (·.2))) fp tn W 0 m0 H3 s5 := by
        rw [hs5]
        exact ⟨I5, T.keep _ _ _ st3 fun b _ o e => keep5 b o e, fun b hb => (f3 b hb).1.1, w0⟩
      have isg : ∀ {h : Heap}, h.get? h'.objs.size = some og → h.IsGen h'.objs.size s2.gens.size := fun {h} e => by
        rw [← hog] at e
        exact ⟨_, _, _, e, rfl, rfl, rfl⟩
      have back : ∀ {b : Bool} {s' : Shared}, GEnd (Cx.gen X { s2 with heap := h3, toks := tk } H3 scope cenv fp (X.A.in1.in1.deeper cenv)) h'.objs.size og Q b s' → ∃ x H', Inv X pins σ H' s' ∧ RelV x (.bool b) ∧ Q x H' := fun {b s'} ⟨σ', pins', H', I6, qq⟩ =>
        ⟨.bl b, H', I3.call' (ch := fp) I6.os I6.base I6.hok I6.bare fun b hb => ⟨(f3 b hb).1.2.2.2.1, (f3 b hb).1.2.1, (f3 b hb).1.2.2.2.2.1, (f3 b hb).1.2.2.2.2.2⟩, rfl, qq⟩
      have bare5 : AllBare s5.gens := by rw [hs5]; exact b5
      refine call_allJ (g := s2.gens.size) (fun n s => ∃ i m H' gs, m + 1 ≤ n ∧ GRun (Cx.gen X { s2 with heap := h3, toks := tk } H3 scope cenv fp (X.A.in1.in1.deeper cenv)) h'.objs.size og (wipe σ (own.map (·.2))) fp tn W i m H' s ∧ s.gens[s2.gens.size]? = some gs ∧ AllBare s.gens ∧
        gs.Goes (model X.prog X.w) X.A.in1.in1 (gRR (Cx.gen X { s2 with heap := h3, toks := tk } H3 scope cenv fp (X.A.in1.in1.deeper cenv)) h'.objs.size og Q) (gYY (Cx.gen X { s2 with heap := h3, toks := tk } H3 scope cenv fp (X.A.in1.in1.deeper cenv)) h'.objs.size og (wipe σ (own.map (·.2))) fp tn W Q) n (.send .none) (s.setGen s2.gens.size .running))
        (by rw [hs5]; exact isg (Heap.get?_push_size _ hfo)) (m0 + 1) ⟨0, m0, H3, .fresh cs, Nat.le_refl _, run0, by rw [hs5]; exact Array.getElem?_push_size .., bare5, rfl, ?_⟩ ?_
      · subst hcs
        have wk : Wake s5 (s5.setGen s2.gens.size .running) := ⟨rfl, rfl, allBare_setGen bare5 rfl⟩
        exact seg_gl0 hc T hco' hfa PGx PEx hW m0 0 (m0 + 1) _ _ H3 (Nat.le_refl _) ⟨Inv.wake run0.1 wk, run0.2.1, run0.2.2⟩
      · rintro n s ⟨i, m, H', gs, hmn, run, hgs, hb, hgo⟩
        have hgl : s2.gens.size < s.gens.size := (Array.getElem?_eq_some_iff.mp hgs).1
        obtain ⟨n, rfl⟩ : ∃ k, n = k + 1 := ⟨n - 1, by omega⟩
        have hpin := run.1.pin (h'.objs.size, og) (List.mem_append_right _ (List.mem_singleton.mpr rfl))
        have hroom : X.A.in1.depth < recursionLimit := by have := hr.dp; show X.A.depth < _; omega
        refine wpAny_gsz (n := s2.gens.size + 1) hgl (next_genG (A := X.A.in1) (F := fun _ _ s1 => GEnd (Cx.gen X { s2 with heap := h3, toks := tk } H3 scope cenv fp (X.A.in1.in1.deeper cenv)) h'.objs.size og Q true s1) (Er := fun _ _ => False) hr.hd run.1.nolimit hroom (isg hpin.1) hgs hgo (fun v s₁ gs' hbare hv => ?_) (fun s₁ hp h'' hk => ?_) fun e s₁ he => he.elim)
        · intro hsz5
          obtain ⟨b, rfl, hv⟩ := hv
          refine ⟨b, rfl, ?_⟩
          have hsz1 : s2.gens.size < s₁.gens.size := by
            have q : (s₁.setGen s2.gens.size gs').gens.size = s₁.gens.size := setGen_size _ _ _
            have h9 : s2.gens.size + 1 ≤ (s₁.setGen s2.gens.size gs').gens.size := hsz5
            omega
          cases b with
          | true =>
            rw [if_pos rfl] at hv ⊢
            obtain ⟨i', m', H'', hmn', run', kap⟩ := hv
            have hb1 := run'.1.bare
            have wk : Wake s₁ (s₁.setGen s2.gens.size gs') := ⟨rfl, rfl, allBare_setGen hb1 hbare⟩
            refine ⟨n, Nat.lt_succ_self n, i', m', H'', gs', hmn', ⟨Inv.wake run'.1 wk, run'.2.1, run'.2.2⟩, setGen_at hsz1, wk.bare, ?_⟩
            exact kap _ ⟨rfl, rfl, allBare_setGen wk.bare rfl⟩
          | false =>
            rw [if_neg Bool.false_ne_true] at hv ⊢
            obtain ⟨σ', pins', H'', I6, qq⟩ := hv
            exact back ⟨σ', pins', H'', Inv.wake I6 ⟨rfl, rfl, allBare_setGen I6.bare hbare⟩, qq⟩
        · intro _
          obtain ⟨σ', pins', H'', I6, qq⟩ := hp
          have I7 : Inv _ _ σ' H'' (s₁.setGen s2.gens.size .finished) := Inv.wake I6 ⟨rfl, rfl, allBare_setGen I6.bare rfl⟩
          exact back ⟨σ', pins', H'', I7.kept (t' := (s₁.setGen s2.gens.size .finished).toks) hk, qq⟩
    refine Calls.spliced_nil ?_
    have := goal _ rfl
    subst hog hcs
    exact this
  cases hf : codeAmong gpos ps.toList with
  | none =>
    refine wpAny_genexprCodeX hcode (cd.code hPs ht) (cd.tab hPs) hf fun c' h' tk hx hge hlt hco' _ htab' _ => ?_
    obtain ⟨o1, vs, f1, tf, fl, tg, inF, tx, tt, op, _, _, _, _, _, _, _, _, _, htr, _⟩ := hco'
    exact cont _ h' tk _ hx (Nat.le_trans hge (Nat.le_of_lt hlt)) htab'.2 ⟨_, rfl⟩ htr
  | some cv =>
    refine wpAny_genexprCode_hit hcode (cd.code hPs ht) hf ?_
    exact cont cv s2.heap s2.toks ps (Heap.ExtBut.refl _ _) (Nat.le_refl _) hPs ⟨#[], by simp⟩ ht
end
end Pv
set_option maxRecDepth 100000
set_option maxHeartbeats 2000000
/-! PvT: all(.. for .. in ..) by data. -/
namespace Pv
open PySem PySem.Spec L2

section
variable {F : Fx} {S : AS} {H H2 : Hp} {σ : St} {ρ : Rho} {P : Addr}
/-- a table has grown -/
theorem ER.tabbed (er : ER F S H σ ρ) (h1 : GxR.TabG H P) (tb : GxR.Tabbed P H H2) : Tr S H σ ρ S H2 ρ ∧ ER F S H2 σ ρ := by
  obtain ⟨ps, hP, _⟩ := h1
  obtain ⟨h2, h3⟩ := tb
  have same : ∀ b o, NT o → H b = some o → H2 b = some o := fun b o nt e => by
    rw [h3 b fun z => by rw [z, hP] at e; exact nt ps (Option.some.inj e).symm]
    exact e
  have tabs : ∀ a, GxR.TabG H a → GxR.TabG H2 a := fun a ⟨qs, e, t⟩ => by
    by_cases q : a = P
    · rw [q]; exact h2
    · exact ⟨qs, by rw [h3 a q]; exact e, t⟩
  have stay : ∀ a, H a ≠ none → H2 a ≠ none := fun a h => by
    by_cases q : a = P
    · obtain ⟨qs, e, _⟩ := h2
      rw [q, e]; exact fun z => nomatch z
    · rw [h3 a q]; exact h
  have off : ∀ b o, NT o → H b = some o → ¬ S b → H2 b = some o := fun b o nt e _ => same b o nt e
  refine ⟨⟨fun b o nt e _ => same b o nt e, tabs, fun _ h => .inl h, fun _ h _ => h, fun _ _ h => h, stay⟩, er.len, fun i s e => ?_, er.dj, er.sub, fun a h => stay a (er.dom a h), fun b o nt e n => same b o nt (er.fr b o nt e n), fun a h => tabs a (er.tb a h), fun a h => stay a (er.st a h), er.lt⟩
  have h := er.at_ i s e
  cases s with
  | no => trivial
  | val d => obtain ⟨x, e, h⟩ := h; exact ⟨x, e, h.mono off fun _ z => .inl z⟩
  | own m => obtain ⟨a, e, s, f, h⟩ := h; exact ⟨a, e, s, f, h.mono off (fun _ z => .inl z) fun o nt q => same a o nt q⟩
  | lent m => obtain ⟨a, e, l, s, h⟩ := h; exact ⟨a, e, l, s, h.mono off (fun _ z => .inl z) fun o nt q => same a o nt q⟩
  | pin a m => obtain ⟨e, s, f, h⟩ := h; exact ⟨e, s, f, h.mono off (fun _ z => .inl z) fun o nt q => same a o nt q⟩
  | ins g => exact ins_mono off (fun _ z => .inl z) h
end

def allL (tg : GF) (el : EF) (vs : List Nat) : List PyData → Rho → Out Bool
  | [], ρ => .ok true ρ
  | d :: ds, ρ => match tg d ρ with
    | none => .bad
    | some ρ1 => (noEx (fB el ρ1)).bind fun b ρ2 => match wipeR vs ρ2 with
      | some ρ3 => if b = true then allL tg el vs ds ρ3 else .ok false ρ3
      | none => .bad
def fAll (fi : IF) (tg : GF) (el : EF) (vs : List Nat) : EF := fun ρ => (fi ρ).bind fun ds ρ1 => match wipeR vs ρ1 with
  | some ρ2 => (allL tg el vs ds ρ2).bind fun b ρ3 => .ok (.val (.bool b)) ρ3
  | none => .bad
section
variable {X : Cx} {W : Wx} {elt tg iter : Expr} {scope : Scope} {own : List (Str × Nat)} {p pos gpos : Pos} {wi : TI} {t : TG} {te : TE} {fi : IF} {gt : GF} {fe : EF} {is vs : List Nat} {P : Addr}
structure BlkG (X : Cx) (scope : Scope) (tg elt : Expr) (t : TG) (gt : GF) (is : List Nat) (te : TE) (fe : EF) (T : AS) : Prop where
  g : ∀ (s : Shared) (H : Hp) (C : Addr) (cl : List (Str × Addr)) (fp : List Addr) (code : Value) (A' : Around), GenA X.A A' → SG (Cx.gen X s H scope (genEnv scope cl C code builtinsNs X.env) fp A') tg t gt is
  e : ∀ (s : Shared) (H : Hp) (C : Addr) (cl : List (Str × Addr)) (fp : List Addr) (code : Value) (A' : Around), GenA X.A A' → SE (Cx.gen X s H scope (genEnv scope cl C code builtinsNs X.env) fp A') (W0 T) elt te fe
theorem sn_all (hT : W.T P) (hi : SI X W tg iter wi fi) (B : BlkG X scope tg elt t gt is te fe W.T) (hv : ∀ i ∈ is, i ∈ vs) :
    ∀ (F : Fx) (S : AS) (H : Hp) (σ : St) (ρ : Rho) (Q : VK), F.K = X.K → F.Ok W.T → ER F S H σ ρ → PostE F W S H σ ρ (fAll fi gt fe vs ρ) Q → tAll P wi t te vs σ H Q := by
  intro F S H σ ρ Q hK fok er hp
  refine hi.sn F S H σ ρ _ hK fok er ?_
  unfold fAll at hp
  cases q : fi ρ with
  | ex x ρ1 => rw [q] at hp; exact hp
  | bad => rw [q] at hp; exact hp
  | ok ds ρ1 =>
    rw [q] at hp
    intro J S1 H1 t1 er1 it
    have tab1 : GxR.TabG H1 P := er1.tb P (fok.tab P hT)
    refine ⟨tab1, fun H2 tb => ?_⟩
    obtain ⟨t2, er2⟩ := er1.tabbed tab1 tb
    have hp : PostE F W S H σ ρ (match wipeR vs ρ1 with
      | some ρ2 => (allL gt fe vs ds ρ2).bind fun b ρ3 => .ok (.val (.bool b)) ρ3
      | none => .bad) Q := hp
    cases qw : wipeR vs ρ1 with
    | none => simp only [qw] at hp; exact hp.elim
    | some ρ2 =>
      simp only [qw] at hp
      obtain ⟨er3, no3, mu3, l3⟩ := wipeR_ok er2 qw
      generalize hfull : ((allL gt fe vs ds ρ2).bind fun b ρ3 => Out.ok (R.val (.bool b)) ρ3) = full at hp
      have nbF : full ≠ .bad := fun z => by rw [z] at hp; exact hp
      have hA0 : GenA X.A ⟨X.A.handled, X.A.depth, X.A.frames, X.A.guards, X.A.units⟩ := ⟨rfl, Nat.le_succ _, Nat.le_add_right _ _⟩
      refine ⟨fun i m H' => ∃ S' ρ', m = ds.length - i ∧ i ≤ ds.length ∧ Tr S H σ ρ S' H' ρ' ∧ TrS S1 H1 S' H' ∧ ER F S' H' (wipe σ vs) ρ' ∧ NoAt vs ρ' ∧
          full = (allL gt fe vs (ds.drop i) ρ').bind fun b ρ3 => .ok (.val (.bool b)) ρ3,
        ⟨ds.length, S1, ρ2, by simp, Nat.zero_le _, ?_, t2.s er1, er3, no3, hfull.symm⟩, ?_⟩
      · have ta : Tr S1 H2 σ ρ1 S1 H2 ρ2 := ⟨fun _ _ _ e _ => e, fun _ z => z, fun _ z => .inl z, fun _ z _ => z, fun i a z => mu3 i a ((mut_wipe no3).mpr z), fun _ z => z⟩
        exact (t1.trans er t2).trans er ta
      rintro i m H' ⟨S', ρ', rfl, hle, tS, tI, er', no', hfl⟩
      obtain ⟨itgo, itstop⟩ := it S' H' tI er'.dom
      by_cases hlt : i < ds.length
      · obtain ⟨hgo, hy⟩ := itgo i hlt
        refine .inr ⟨hgo, fun H'' => ∃ S' ρ', Tr S H σ ρ S' H'' ρ' ∧ TrS S1 H1 S' H'' ∧ ER F S' H'' (wipe σ vs) ρ' ∧ NoAt vs ρ' ∧
          full = (allL gt fe vs (ds.drop (i + 1)) ρ').bind fun b ρ3 => .ok (.val (.bool b)) ρ3, fun H'' ⟨S2, ρ2, b3, b4, b5, b6, b7⟩ => ⟨ds.length - (i + 1), by omega, S2, ρ2, rfl, hlt, b3, b4, b5, b6, b7⟩, fun x H'' y => ?_⟩
        obtain ⟨d, ed, same, rp⟩ := hy x H'' y
        have stay : ∀ a, H' a ≠ none → H'' a ≠ none := fun a z => by
          cases w : H' a with
          | none => exact absurd w z
          | some o => rw [same a o w]; exact fun z => nomatch z
        have er4 : ER F S' H'' (wipe σ vs) ρ' := er'.grow same (fun _ z => .inl z) (fun _ z => z) fun a z => stay a (er'.dom a z)
        have ed' : ds.drop i = d :: ds.drop (i + 1) := by
          rw [List.drop_eq_getElem_cons hlt]
          congr 1
          rw [List.getElem?_eq_getElem hlt] at ed
          exact Option.some.inj ed
        rw [ed'] at hfl
        cases w : gt d ρ' with
        | none => exact absurd (by rw [hfl]; simp only [allL, w, Out.bind]) nbF
        | some ρ3 =>
          refine (B.g ({} : Shared) (fun _ => none) (0 : Nat) [] [] .none _ hA0).sn F S' H'' (wipe σ vs) ρ' ρ3 x d _ hK fok.nil er4 rp w fun σ3 as er5 => ?_
          have hwp : wipe σ3 vs = wipe σ vs := wipe_asg as hv
          refine ⟨hwp, ?_⟩
          have hfl2 : full = ((noEx (fB fe ρ3)).bind fun b ρ2 => match wipeR vs ρ2 with
              | some ρ3 => if b = true then allL gt fe vs (ds.drop (i + 1)) ρ3 else .ok false ρ3
              | none => .bad).bind fun b ρ3 => .ok (.val (.bool b)) ρ3 := by
            rw [hfl]
            simp only [allL, w]
          have far : ∀ {S5 : AS} {H5 : Hp} {ρ5 ρ6 : Rho}, Tr S' H'' σ3 ρ3 S5 H5 ρ5 → wipeR vs ρ5 = some ρ6 → ER F S5 H5 σ3 ρ5 → ER F S5 H5 (wipe σ vs) ρ6 ∧ NoAt vs ρ6 ∧ Tr S H σ ρ S5 H5 ρ6 ∧ TrS S1 H1 S5 H5 := by
            intro S5 H5 ρ5 ρ6 t5 w6 er5
            obtain ⟨er6, no6, mu6, l6⟩ := wipeR_ok er5 w6
            rw [hwp] at er6 mu6
            have toMut : ∀ i a, MutAt σ3 ρ3 i a → MutAt σ ρ' i a := fun i a z => (mut_wipe no').mp (as.mu i a z)
            refine ⟨er6, no6, ⟨fun b ob nt eb nb => ?_, (fun b hb => t5.tb b (tab_same same b (tS.tb b hb))), fun b hb => ?_, fun b hb nb => ?_, fun j b z => ?_, fun b hb => ?_⟩, ⟨fun b ob nt eb nb => ?_, (fun b hb => t5.tb b (tab_same same b (tI.tb b hb))), fun b hb => ?_, fun b hb => ?_⟩⟩
            · exact t5.off b ob nt (same b ob (tS.off b ob nt eb nb)) fun j z => nb j (tS.mu j b (toMut j b z))
            · rcases t5.new b hb with z | z
              · exact tS.new b z
              · cases y : H b with
                | none => exact .inr rfl
                | some ob => exact absurd z (stay b (tS.stay b (by rw [y]; exact fun z => nomatch z)))
            · exact t5.old b (tS.old b hb nb) fun j z => nb j (tS.mu j b (toMut j b z))
            · exact tS.mu j b (toMut j b (t5.mu j b (mu6 j b ((mut_wipe no6).mpr z))))
            · exact t5.stay b (stay b (tS.stay b hb))
            · exact t5.off b ob nt (same b ob (tI.off b ob nt eb nb)) fun j z => by
                have h1 := er'.mutS (as.mu j b z)
                rcases tI.new b h1 with h1 | h1
                · exact nb h1
                · rw [eb] at h1; cases h1
            · rcases t5.new b hb with z | z
              · exact tI.new b z
              · cases y : H1 b with
                | none => exact .inr rfl
                | some ob => exact absurd z (stay b (tI.stay b (by rw [y]; exact fun z => nomatch z)))
            · exact t5.stay b (stay b (tI.stay b hb))
          refine sn_tB (B.e ({} : Shared) (fun _ => none) (0 : Nat) [] [] .none _ hA0) F S' H'' σ3 ρ3 _ hK fok er5 (noEx_T (k := fun b ρ2 => match wipeR vs ρ2 with
              | some ρ3 => if b = true then allL gt fe vs (ds.drop (i + 1)) ρ3 else .ok false ρ3
              | none => .bad) (fun z => nbF (by rw [hfl2, z]; rfl)) fun b ρ4 S4 H4 eb t4 er6 => ?_)
          have hfl3 : full = (match wipeR vs ρ4 with
              | some ρ3 => if b = true then allL gt fe vs (ds.drop (i + 1)) ρ3 else .ok false ρ3
              | none => .bad).bind fun b ρ3 => .ok (.val (.bool b)) ρ3 := by
            rw [hfl2, eb]
            rfl
          cases w6 : wipeR vs ρ4 with
          | none => exact absurd (by rw [hfl3]; simp only [w6, Out.bind]) nbF
          | some ρ6 =>
            simp only [w6] at hfl3
            obtain ⟨c1, c2, c3, c4⟩ := far t4 w6 er6
            cases b with
            | true =>
              rw [if_pos rfl] at hfl3 ⊢
              exact ⟨S4, ρ6, c3, c4, c1, c2, hfl3⟩
            | false =>
              rw [if_neg Bool.false_ne_true] at hfl3 ⊢
              have hfl4 : full = .ok (.val (.bool false)) ρ6 := hfl3
              rw [hfl4] at hp
              exact hp _ S4 H4 c3 (c1.unwipe c2) (.bl false) trivial
      · have e : i = ds.length := by omega
        subst e
        refine .inl ⟨itstop _ (Nat.le_refl _), ?_⟩
        rw [List.drop_length] at hfl
        have hfl : full = .ok (.val (.bool true)) ρ' := hfl
        rw [hfl] at hp
        exact hp _ S' H' tS (er'.unwipe no') (.bl true) trivial
theorem se_all {c : Addr} {k : Nat} (hT : W.T P) (hr : Room k X.A) (hc : X.calm = true) (hN : X.N.Nodup) (hg : Gl X "all") (hm : X.mg "all" = none) (TB : GxR.TabB X.base X.mg c P) (hcode : X.env.code = .ref c) (hi : SI X W tg iter wi fi) (ok : BlkOk X.N X.env.scope scope own)
    (B : BlkG X scope tg elt t gt is te fe W.T) (hv : ∀ i ∈ is, i ∈ own.map (·.2))
    (hco : scope.isCoroutine = false := by rfl) (hcell : ∀ y ∈ scope.names, y.2 ≠ .cell := by decide +kernel) (hdot : scope.names.lookup (".0" : Str) = some NameKind.local := by rfl)
    (hs : ∀ v, genFold iter X.env v = pure v := by intro _; rfl)
    (he : starEach [.GeneratorExp elt [⟨tg, iter, [], 0⟩] scope gpos] X.env = (false, eval (.GeneratorExp elt [⟨tg, iter, [], 0⟩] scope gpos) X.env) :: starEach [] X.env := by rfl) :
    SE X W (.Call (.Name "all" p) [.GeneratorExp elt [⟨tg, iter, [], 0⟩] scope gpos] [] pos) (tAll P wi t te (own.map (·.2))) (fAll fi gt fe (own.map (·.2))) :=
  ⟨pe_allG hr hc hN hg hm TB hcode hi.pi ok hco hcell hdot (fun s H C cl fp code A' hA => (B.g s H C cl fp code A' hA).pg) (fun s H C cl fp code A' hA => (B.e s H C cl fp code A' hA).pe) hs he, sn_all hT hi B hv⟩
end
@[simp] theorem s_fAll {fi : IF} {tg : GF} {el : EF} {vs : List Nat} {ρ : Rho} : fAll fi tg el vs ρ = (fi ρ).bind (fun ds ρ1 => match wipeR vs ρ1 with
  | some ρ2 => (allL tg el vs ds ρ2).bind fun b ρ3 => .ok (.val (.bool b)) ρ3
  | none => .bad) := rfl
/-- all by plain tests -/
theorem allL_pure {α : Type} {tg : GF} {el : EF} {vs : List Nat} {ρ : Rho} (enc : α → PyData) (ρd : α → Rho) (b : α → Bool) : ∀ (l : List α),
    (∀ a ∈ l, tg (enc a) ρ = some (ρd a) ∧ el (ρd a) = .ok (.val (.bool (b a))) (ρd a) ∧ wipeR vs (ρd a) = some ρ) → allL tg el vs (l.map enc) ρ = .ok (l.all b) ρ
  | [], _ => rfl
  | a :: l, h => by
    obtain ⟨h1, h2, h4⟩ := h a List.mem_cons_self
    have ih := allL_pure enc ρd b l fun x hx => h x (List.mem_cons_of_mem _ hx)
    show allL tg el vs (enc a :: l.map enc) ρ = _
    unfold allL
    simp only [h1, s_fB, h2, s_bind1, s_outB, s_noEx1, h4, List.all_cons]
    cases q : b a with
    | true => simp only [if_true, Bool.true_and, ih]
    | false => simp
end Pv
set_option maxRecDepth 100000
set_option maxHeartbeats 4000000
/-! PvU: sets of pairs, of ints: how many, in order. -/
namespace Pv
open PySem PySem.Spec L2
open PyProof.Rows hiding St

section
variable {P : Program} {w : World} {A : Around} {E : Value → Shared → Prop} {s : Shared}
/-- set of a tuple -/
theorem call_set_tupsT {l : Addr} {items : Array Value} (ks : List (Addr × List Int)) {Q : Value → Shared → Prop} (hh : A.handled = none) (hl : s.heap.IsTuple l items) (hit : items.toList = ks.map fun p => Value.ref p.1)
    (hk : ∀ p ∈ ks, IsT P w s.heap p.2 p.1) (hfew : ks.length < 64) (hu : A.units + 3 < cLine)
    (h : ∀ (h' : Heap) (tk : Nat) L es ep t, SetTR P w h' s.heap.objs.size L es ep t → Got ks ks.length L → (∀ b o, s.heap.get? b = some o → h'.get? b = some o) → Q (.ref s.heap.objs.size) { s with heap := h', toks := tk }) :
    wpAny (model P w) A (call (.type "set") [.ref l]) Q E s := by
  have hisz : items.size = ks.length := by
    have q := congrArg List.length hit
    rwa [Array.length_toList, List.length_map] at q
  generalize hE : ({ cls := .type "set", dict := none, data := .set #[] 0 (.fresh 0 0 (!w.params.followText "set-order")) } : Obj) = eo
  have heo : eo.isFreed = false := by rw [← hE]; rfl
  obtain ⟨c, tl, hmro⟩ := F.called_set.mro
  have hmade := F.called_set.made
  have hsub := F.called_set.sub
  refine wpAny_call (codeAny_of_tree ?_)
  show wpAny _ _ (callAny (.type "set") _) _ _ _
  refine wpAny_pure ⟨Code.quiet_builtin _ (by decide +kernel), codeAny_builtin F.entry_type_call ?_⟩
  rw [Around.under_plain (weight_type_call_type "set" [.ref l] []) rfl]
  have h1 := F.called_set.notType
  have h2 := F.called_set.canCreate
  have hct := F.typeCall_set_1 (.ref l)
  repeat (any_goals (first | assumption | wp_step))
  refine codeAny_mono (code_set_led1 (.ref l) (E := E) (Q₁ := fun obj s₁ => obj = .ref s.heap.objs.size ∧ s₁ = { s with heap := s.heap.push eo }) (by rw [← hE]; exact ⟨rfl, rfl⟩)) fun r s₁ hr => ?_
  cases r with
  | error e => exact hr
  | ok fl =>
    cases fl with
    | ret obj =>
      obtain ⟨rfl, rfl⟩ := hr
      have hS : (s.heap.push eo).get? s.heap.objs.size = some eo := Heap.get?_push_size _ heo
      have hT : Shared.TypeIs { s with heap := s.heap.push eo } (.ref s.heap.objs.size) "set" := ⟨_, hS, by rw [← hE]⟩
      have hli := F.called_set.init.lookup
      have hbi := F.called_set.init.bind (.ref s.heap.objs.size)
      repeat (any_goals (first | assumption | wp_step))
      refine codeAny_mono (codeAny_call_builtin (R := wants (fun r s₂ => r = .none ∧ ∃ h' tk L es ep t, s₂ = { s with heap := h', toks := tk } ∧ SetTR P w h' s.heap.objs.size L es ep t ∧ Got ks ks.length L ∧
          (∀ b o, s.heap.get? b = some o → h'.get? b = some o)) E) F.called_set.init.plain F.entry_set_init (check_set_init_1 hT ?_)) fun r₂ s₂ hr₂ => ?_
      · have hl1 : (s.heap.push eo).IsTuple l items := hl.push _
        obtain ⟨ol, hol, hcl, nl, hdl⟩ := id hl1
        obtain ⟨ocls, odict, odata, oslots⟩ := ol
        simp only at hcl hdl
        subst hcl; subst hdl
        have hsls := F.sub_tuple_set
        have hslf := F.sub_tuple_frozenset
        have hne : (Value.type "tuple" == Value.type "dict") = false := by decide
        have hlS : l < s.heap.objs.size := let ⟨_, e, _⟩ := hl; Heap.lt_size e
        subst hE
        unfold Builtin.«set.__init__» noKeywords Builtin.Frozenset.updateFrom
        generalize hPI : pyIter = PI
        wp_walk
        subst hPI
        refine wpAny_pyIter_tuple hl1 ?_
        refine wpAny_bind (wpAny_runValue ?_)
        have hh3 : A.in1.in1.in1.handled = none := by simp [hh]
        have hneI : l ≠ (s.heap.push { cls := .type "set", dict := none, data := .set #[] 0 (.fresh 0 0 (!w.params.followText "set-order")) }).objs.size := by
          rw [Heap.size_push]; exact Nat.ne_of_lt (Nat.lt_succ_of_lt hlS)
        have hSf : s.heap.objs.size ∉ [(s.heap.push { cls := .type "set", dict := none, data := .set #[] 0 (.fresh 0 0 (!w.params.followText "set-order")) }).objs.size, l] := by
          rw [Heap.size_push]; simp only [List.mem_cons, List.not_mem_nil, or_false, not_or]
          exact ⟨Nat.ne_of_lt (Nat.lt_succ_self _), Nat.ne_of_gt hlS⟩
        have hval : ∀ (i : Nat) (v : Value), items[i]? = some v → ∃ p, ks[i]? = some p ∧ v = .ref p.1 := fun i v hv => by
          have q : items.toList[i]? = some v := by rw [Array.getElem?_toList]; exact hv
          rw [hit, List.getElem?_map] at q
          obtain ⟨p, h1, h2⟩ := Option.map_eq_some_iff.mp q
          exact ⟨p, h1, h2.symm⟩
        have none_of : ∀ b, s.heap.objs.size ≤ b → s.heap.get? b = none := fun b hb => Heap.get?_none_of_le hb
        refine set_update_tups ((Walks.tuple hh3 _ l hneI items).toS) s.heap.objs.size
          hSf ks hisz hfew hval s.heap hk (none_of _ (Nat.le_refl _)) (fun b hb => none_of b (by
            rw [List.mem_singleton.mp hb, Heap.size_push]
            exact Nat.le_succ _)) hu (items.size - 0) 0 _ (by omega) (Nat.zero_le _)
          ⟨⟨_, Heap.get?_push_size _ rfl, rfl, rfl⟩, (hl1.push _)⟩ (fun b o e => Heap.get?_push_of_some _ (Heap.get?_push_of_some _ e)) ?hS0 ?hR
        case hS0 =>
          have hget := Heap.get?_push_of_some ({ cls := .type "tuple_iterator", data := .fields #[.ref l, .int 0 0] } : Obj) hS
          exact ⟨[], #[], 0, _, setTR_fresh hget, Got.zero ks⟩
        case hR =>
          intro s' L es ep t hm hS' g' hkp
          obtain ⟨h', g2, d', tk', os'⟩ := s'
          have eg : g2 = s.gens := hm.gens
          have ed : d' = s.drawn := hm.drawn
          have eo : os' = s.os := hm.os
          subst eg; subst ed; subst eo
          show wpAny _ _ _ _ _ _
          refine wpAny_pure ?_
          show wpAny _ _ (ret Value.none) _ _ _
          rw [hisz] at g'
          exact wpAny_pure ⟨rfl, h', tk', L, es, ep, t, rfl, hS', g', hkp⟩
      · cases r₂ with
        | error e => exact hr₂
        | ok fl₂ =>
          cases fl₂ with
          | ret r =>
            obtain ⟨rfl, h', tk, L, es, ep, t, rfl, hS', g', hk'⟩ := hr₂
            repeat (any_goals (first | assumption | wp_step))
            exact h _ _ _ _ _ _ hS' g' hk'
          | _ => exact hr₂.elim
    | _ => exact hr.elim
end
end Pv
set_option maxRecDepth 100000
set_option maxHeartbeats 4000000
/-! PvV: len(set(..)), sorted(set(..)) of pairs, by data. -/
namespace Pv
open PySem PySem.Spec L2
open PyProof.Rows hiding St

/-- each once -/
def nubI (l : List (List Int)) : List (List Int) := l.foldr (fun x r => if x ∈ r then r else x :: r) []
theorem nubI_cons (x : List Int) (l : List (List Int)) : nubI (x :: l) = if x ∈ nubI l then nubI l else x :: nubI l := rfl
theorem mem_nubI {y : List Int} : ∀ {l : List (List Int)}, y ∈ nubI l ↔ y ∈ l
  | [] => by simp [nubI]
  | x :: l => by
    rw [nubI_cons]
    have ih := mem_nubI (y := y) (l := l)
    split
    · rename_i h
      rw [ih, List.mem_cons]
      constructor
      · exact .inr
      · rintro (rfl | h2)
        · exact mem_nubI.mp h
        · exact h2
    · rw [List.mem_cons, List.mem_cons, ih]
theorem nodup_nubI : ∀ (l : List (List Int)), (nubI l).Nodup
  | [] => List.nodup_nil
  | x :: l => by
    rw [nubI_cons]
    split
    · exact nodup_nubI l
    · rename_i h
      exact List.nodup_cons.mpr ⟨h, nodup_nubI l⟩
theorem nubI_of_nodup : ∀ {l : List (List Int)}, l.Nodup → nubI l = l
  | [], _ => rfl
  | x :: l, h => by
    obtain ⟨h1, h2⟩ := List.nodup_cons.mp h
    rw [nubI_cons, nubI_of_nodup h2, if_neg h1]
theorem nubI_length_le : ∀ (l : List (List Int)), (nubI l).length ≤ l.length
  | [] => Nat.le_refl _
  | x :: l => by
    rw [nubI_cons]
    have := nubI_length_le l
    split
    · exact Nat.le_succ_of_le this
    · simp; exact this
theorem nubI_length_lt : ∀ {l : List (List Int)}, ¬ l.Nodup → (nubI l).length < l.length
  | [], h => absurd List.nodup_nil h
  | x :: l, h => by
    rw [nubI_cons]
    have := nubI_length_le l
    split
    · simp; omega
    · rename_i h1
      have h2 : ¬ l.Nodup := fun z => h (List.nodup_cons.mpr ⟨fun y => h1 (mem_nubI.mpr y), z⟩)
      have := nubI_length_lt h2
      simp; omega
/-- rows of ints -/
def rowsD : List PyData → Option (List (List Int))
  | [] => some []
  | .tuple ds :: r => match intsD ds, rowsD r with
    | some ns, some ks => some (ns :: ks)
    | _, _ => none
  | _ => none
theorem rowsD_cons {d : PyData} {r : List PyData} {ks : List (List Int)} (e : rowsD (d :: r) = some ks) : ∃ ds ns ks', d = .tuple ds ∧ intsD ds = some ns ∧ rowsD r = some ks' ∧ ks = ns :: ks' := by
  cases d with
  | tuple ds =>
    simp only [rowsD] at e
    cases q1 : intsD ds with
    | none => simp [q1] at e
    | some ns =>
      cases q2 : rowsD r with
      | none => simp [q1, q2] at e
      | some ks' =>
        simp only [q1, q2, Option.some.injEq] at e
        exact ⟨ds, ns, ks', rfl, q1, rfl, e.symm⟩
  | _ => simp [rowsD] at e
theorem rowsD_rp {K : PySem.W.Frag} {S : AS} {H : Hp} : ∀ {ds : List PyData} {vs : List V} {ks : List (List Int)}, RpA K S H vs ds → rowsD ds = some ks → ∃ ps : List (Addr × List Int), vs = ps.map (fun p => V.ref p.1) ∧ ps.map (·.2) = ks ∧ ∀ p ∈ ps, SqT K H p.1 (p.2.map V.int)
  | [], _, ks, h, e => by cases h; cases e; exact ⟨[], rfl, rfl, fun p hp => absurd hp (by simp)⟩
  | d :: ds, _, ks, h, e => by
    obtain ⟨xs, ns, ks', rfl, e1, e2, rfl⟩ := rowsD_cons e
    cases h with
    | cons h1 h2 =>
      cases h1 with
      | tup n ha hs =>
        obtain ⟨ps, rfl, ep, hp⟩ := rowsD_rp h2 e2
        have ex := intsD_rp hs e1
        subst ex
        refine ⟨(_, ns) :: ps, rfl, by rw [List.map_cons, ep], fun p hp' => ?_⟩
        rcases List.mem_cons.mp hp' with e | e
        · rw [e]; exact SqT.of ha
        · exact hp p e
def lenSetD : PyData → Option Nat
  | .tuple ds => (rowsD ds).bind fun ks => if ks.length < 64 then some (nubI ks).length else none
  | .list ds => (rowsD ds).bind fun ks => if ks.length < 64 then some (nubI ks).length else none
  | _ => none
def outLs (r : R) (ρ : Rho) : Out R := match deref ρ r with
  | some d => (match lenSetD d with
    | some n => .ok (.val (.int n)) ρ
    | none => .bad)
  | none => .bad
def fLenSet (fa : EF) : EF := fun ρ => (fa ρ).bind outLs
section
variable {X : Cx} {W : Wx} {a : Expr} {ta : TE} {fa : EF} {p p2 q pos : Pos}
def tLenSet (K : PySem.W.Frag) (ta : TE) : TE := fun σ H Q => ta σ H fun x H1 => ∃ (l : Addr) (ks : List (Addr × List Int)), x = V.ref l ∧ (SqL K H1 l (ks.map fun p => V.ref p.1) ∨ SqT K H1 l (ks.map fun p => V.ref p.1)) ∧ (∀ p ∈ ks, SqT K H1 p.1 (p.2.map V.int)) ∧ ks.length < 64 ∧ Q (.int (nubI (ks.map (·.2))).length) H1
theorem pe_lenSet (hc : X.calm = true) (hu : X.A.units + 64 < cLine) (hg : Gl X "len") (hm : X.mg "len" = none) (hg2 : Gl X "set") (hm2 : X.mg "set" = none) (ha : PE X a ta)
    (na : starEach [a] X.env = (false, eval a X.env) :: starEach [] X.env := by rfl) : PE X (.Call (.Name "len" p) [.Call (.Name "set" p2) [a] [] q] [] pos) (tLenSet X.K ta) := by
  refine ⟨fun pins s σ H Q I h => ?_⟩
  refine Call_ (ld_blt I hg hm PySem.boot_len ?_)
  refine PyProof.Rows.callWith_builtin1 (PyProof.Rows.args_cons ?_ rfl) rfl rfl
  refine Call_ (ld_blt I hg2 hm2 PyProof.Rows.boot_set ?_)
  refine PyProof.Rows.callWith_type1 (PyProof.Rows.args_cons (thn (ha.run pins s σ H _ I h) fun v s1 ⟨x, H1, I1, r1, q1⟩ => PyProof.Rows.args_nil ?_) na) na rfl
  obtain ⟨l, ks, rfl, hq, hk, hf, q1⟩ := q1
  cases r1
  have fin : ∀ (h' : Heap) (tk : Nat) L es ep t, SetTR X.prog X.w h' s1.heap.objs.size L es ep t → Got ks ks.length L → (∀ b o, s1.heap.get? b = some o → h'.get? b = some o) →
      wpAny (model X.prog X.w) X.A (call (.builtin "len") [.ref s1.heap.objs.size]) (EP X pins σ Q) X.xe { s1 with heap := h', toks := tk } := by
    intro h' tk L es ep t R g k
    have I2 : Inv X pins σ H1 { s1 with heap := h', toks := tk } := I1.kept k
    obtain ⟨o, ho, hex, hd⟩ := R.ob
    have e1 : es.size = (nubI (ks.map (·.2))).length := by
      rw [SetTR.size (s := { s1 with heap := h', toks := tk }) R, ← List.length_map (f := (·.2)) (as := L)]
      refine ((List.perm_ext_iff_of_nodup R.nd (nodup_nubI _)).mpr fun z => ?_).length_eq
      rw [mem_nubI]
      constructor
      · intro hz
        obtain ⟨p, hp, rfl⟩ := List.mem_map.mp hz
        exact List.mem_map.mpr ⟨p, List.mem_of_mem_take (g.sub p hp), rfl⟩
      · intro hz
        obtain ⟨p, hp, rfl⟩ := List.mem_map.mp hz
        exact g.all p (by rw [List.take_length]; exact hp)
    have hfew := R.few
    have hfit : (es.size : Int) < 2 ^ 63 := by
      have := nubI_length_le (ks.map (·.2))
      rw [List.length_map] at this
      rw [e1]; omega
    refine call_len_set ho hex hd (SetTR.fits (s := { s1 with heap := h', toks := tk }) R) hfit ?_
    exact ⟨.int (nubI (ks.map (·.2))).length, H1, I2.tok _, ⟨_, by rw [e1]⟩, q1⟩
  rcases hq with hq | hq
  · obtain ⟨its, rv, pl, hz⟩ := I1.list hq
    refine call_set_tups (P := X.prog) (w := X.w) ks (I1.ok.hd hc) pl.isList (by simpa using refs_of_vals rv) (fun p hp => I1.isT (hk p hp)) hf (by omega) fun h' tk L es ep t R g k => ?_
    exact PyProof.Rows.args_nil (fin h' tk L es ep t R g k)
  · obtain ⟨its, rv, pl, hz⟩ := I1.tuple hq
    refine call_set_tupsT (P := X.prog) (w := X.w) ks (I1.ok.hd hc) (show s1.heap.IsTuple l its.toArray from pl) (by simpa using refs_of_vals rv) (fun p hp => I1.isT (hk p hp)) hf (by omega) fun h' tk L es ep t R g k => ?_
    exact PyProof.Rows.args_nil (fin h' tk L es ep t R g k)
theorem se_lenSet (K : PySem.W.Frag) (hK0 : X.K = K) (hc : X.calm = true) (hu : X.A.units + 64 < cLine) (hg : Gl X "len") (hm : X.mg "len" = none) (hg2 : Gl X "set") (hm2 : X.mg "set" = none) (ha : SE X W a ta fa)
    (na : starEach [a] X.env = (false, eval a X.env) :: starEach [] X.env := by rfl) : SE X W (.Call (.Name "len" p) [.Call (.Name "set" p2) [a] [] q] [] pos) (tLenSet K ta) (fLenSet fa) := by
  subst hK0
  refine ⟨pe_lenSet hc hu hg hm hg2 hm2 ha.pe na, fun F S H σ ρ Q hK fok er hp => ?_⟩
  refine ha.go hK fok er (wE F W σ Q) hp fun r ρ1 v S1 H1 t1 er1 rr _ hp1 => ?_
  have hp1 : PostE F W S1 H1 σ ρ1 (outLs r ρ1) Q := hp1
  unfold outLs at hp1
  cases qa : deref ρ1 r with
  | none => simp only [qa] at hp1; exact hp1.elim
  | some d =>
    simp only [qa] at hp1
    have rt := rr.rt er1 qa
    rw [hK] at rt
    cases qn : lenSetD d with
    | none => simp only [qn] at hp1; exact hp1.elim
    | some n =>
      simp only [qn] at hp1
      cases d with
      | tuple ds =>
        obtain ⟨ks, e1, e2⟩ := Option.bind_eq_some_iff.mp (show (rowsD ds).bind (fun ks => if ks.length < 64 then some (nubI ks).length else none) = some n from qn)
        split at e2
        · rename_i hl
          cases e2
          obtain ⟨b, xs, rfl, _, hb, hs⟩ := rt.tuple
          obtain ⟨ps, rfl, rfl, hp⟩ := rowsD_rp hs e1
          exact ⟨b, ps, rfl, .inr (SqT.of hb), hp, by rw [List.length_map] at hl; exact hl, hp1 _ S1 H1 .refl er1 (.int _) trivial⟩
        · cases e2
      | list ds =>
        obtain ⟨ks, e1, e2⟩ := Option.bind_eq_some_iff.mp (show (rowsD ds).bind (fun ks => if ks.length < 64 then some (nubI ks).length else none) = some n from qn)
        split at e2
        · rename_i hl
          cases e2
          obtain ⟨b, xs, rfl, hb, hs⟩ := rt.list
          obtain ⟨ps, rfl, rfl, hp⟩ := rowsD_rp hs e1
          exact ⟨b, ps, rfl, .inl hb, hp, by rw [List.length_map] at hl; exact hl, hp1 _ S1 H1 .refl er1 (.int _) trivial⟩
        · cases e2
      | _ => cases qn
end
@[simp] theorem s_fLenSet {fa : EF} {ρ : Rho} : fLenSet fa ρ = (fa ρ).bind outLs := rfl
@[simp] theorem s_outLs {r : R} {ρ : Rho} : outLs r ρ = (match deref ρ r with
  | some d => (match lenSetD d with
    | some n => .ok (.val (.int n)) ρ
    | none => .bad)
  | none => .bad) := rfl
end Pv
set_option maxRecDepth 100000
set_option maxHeartbeats 4000000
/-! PvW: sorted(set(..)) of pairs. -/
namespace Pv
open PySem PySem.Spec L2
open PyProof.Rows hiding St

def insP (x : List Int) : List (List Int) → List (List Int)
  | [] => [x]
  | y :: l => if TS.code 64 x ≤ TS.code 64 y then x :: y :: l else y :: insP x l
def sortP (l : List (List Int)) : List (List Int) := l.foldr insP []
theorem insP_perm (x : List Int) : ∀ l, (insP x l).Perm (x :: l)
  | [] => .refl _
  | y :: l => by
    unfold insP
    split
    · exact .refl _
    · exact ((insP_perm x l).cons y).trans (.swap x y l)
theorem sortP_perm : ∀ l, (sortP l).Perm l
  | [] => .refl _
  | x :: l => (insP_perm x (sortP l)).trans ((sortP_perm l).cons x)
theorem insP_sorted (x : List Int) : ∀ {l : List (List Int)}, l.Pairwise (fun a b => TS.code 64 a ≤ TS.code 64 b) → (insP x l).Pairwise (fun a b => TS.code 64 a ≤ TS.code 64 b)
  | [], _ => List.pairwise_singleton _ _
  | y :: l, h => by
    unfold insP
    obtain ⟨h1, h2⟩ := List.pairwise_cons.mp h
    split
    · rename_i hle
      refine List.pairwise_cons.mpr ⟨fun z hz => ?_, h⟩
      rcases List.mem_cons.mp hz with e | hz
      · rw [e]; exact hle
      · exact Int.le_trans hle (h1 z hz)
    · rename_i hle
      refine List.pairwise_cons.mpr ⟨fun z hz => ?_, insP_sorted x h2⟩
      rcases List.mem_cons.mp ((insP_perm x l).mem_iff.mp hz) with e | hz
      · rw [e]; omega
      · exact h1 z hz
theorem sortP_sorted : ∀ l, (sortP l).Pairwise (fun a b => TS.code 64 a ≤ TS.code 64 b)
  | [] => .nil
  | x :: l => insP_sorted x (sortP_sorted l)
/-- a pair of small numbers -/
def okP (k : List Int) : Bool := match k with
  | [x, y] => decide (0 ≤ x) && decide (x < 64) && decide (0 ≤ y) && decide (y < 64)
  | _ => false
theorem okP_ok {k : List Int} (h : okP k = true) : ∃ x y, k = [x, y] ∧ 0 ≤ x ∧ x < 64 ∧ 0 ≤ y ∧ y < 64 := by
  unfold okP at h
  split at h
  · simp only [Bool.and_eq_true, decide_eq_true_eq] at h
    exact ⟨_, _, rfl, h.1.1.1, h.1.1.2, h.1.2, h.2⟩
  · cases h
theorem okP_bd {k : List Int} (h : okP k = true) : k.length = 2 ∧ TS.Bd 64 k := by
  obtain ⟨x, y, rfl, a, b, c, d⟩ := okP_ok h
  refine ⟨rfl, fun m hm => ?_⟩
  rcases List.mem_cons.mp hm with e | hm
  · rw [e]; exact ⟨a, b⟩
  · rw [List.mem_singleton.mp hm]; exact ⟨c, d⟩
theorem code_inj {k j : List Int} (h1 : okP k = true) (h2 : okP j = true) (a : TS.code 64 k ≤ TS.code 64 j) (b : TS.code 64 j ≤ TS.code 64 k) : k = j := by
  obtain ⟨x, y, rfl, a1, a2, a3, a4⟩ := okP_ok h1
  obtain ⟨x', y', rfl, b1, b2, b3, b4⟩ := okP_ok h2
  rw [code_pair, code_pair] at a b
  have e1 : x = x' := by omega
  have e2 : y = y' := by omega
  rw [e1, e2]
def pairsD (l : List (List Int)) : List PyData := l.map fun k => .tuple (k.map .int)
def sortSetD : PyData → Option (List PyData)
  | .list ds => (rowsD ds).bind fun ks => if ks.length < 64 ∧ ks.all okP = true then some (pairsD (sortP (nubI ks))) else none
  | _ => none
def outSs (r : R) (ρ : Rho) : Out R := match deref ρ r with
  | some d => (match sortSetD d with
    | some l => .ok (.own (.lst l)) ρ
    | none => .bad)
  | none => .bad
def fSortSet (fa : EF) : EF := fun ρ => (fa ρ).bind outSs
section
variable {X : Cx} {W : Wx} {a : Expr} {ta : TE} {fa : EF} {p p2 q pos : Pos}
def tSortSet (K : PySem.W.Frag) (ta : TE) : TE := fun σ H Q => ta σ H fun x H1 => ∃ (l : Addr) (ks : List (Addr × List Int)), x = V.ref l ∧ SqL K H1 l (ks.map fun p => V.ref p.1) ∧ (∀ p ∈ ks, SqT K H1 p.1 (p.2.map V.int)) ∧ ks.length < 64 ∧ (∀ p ∈ ks, okP p.2 = true) ∧
  ∀ (L' : List (Addr × List Int)) (p : Addr), (∀ q ∈ L', q ∈ ks) → L'.map (·.2) = sortP (nubI (ks.map (·.2))) → H1 p = none → Q (.ref p) (upd H1 p (.lst (L'.map fun q => V.ref q.1)))
theorem pe_sortSet (hc : X.calm = true) (hu : X.A.units + 64 < cLine) (hg : Gl X "sorted") (hm : X.mg "sorted" = none) (hg2 : Gl X "set") (hm2 : X.mg "set" = none) (ha : PE X a ta)
    (na : starEach [a] X.env = (false, eval a X.env) :: starEach [] X.env := by rfl) : PE X (.Call (.Name "sorted" p) [.Call (.Name "set" p2) [a] [] q] [] pos) (tSortSet X.K ta) := by
  refine ⟨fun pins s σ H Q I h => ?_⟩
  refine Call_ (ld_blt I hg hm (by rfl) ?_)
  refine PyProof.Rows.callWith_builtin1 (PyProof.Rows.args_cons ?_ rfl) rfl rfl
  refine Call_ (ld_blt I hg2 hm2 PyProof.Rows.boot_set ?_)
  refine PyProof.Rows.callWith_type1 (PyProof.Rows.args_cons (thn (ha.run pins s σ H _ I h) fun v s1 ⟨x, H1, I1, r1, q1⟩ => PyProof.Rows.args_nil ?_) na) na rfl
  obtain ⟨l, ks, rfl, hq, hk, hf, hB, q1⟩ := q1
  cases r1
  obtain ⟨its, rv, pl, hz⟩ := I1.list hq
  refine call_set_tups (P := X.prog) (w := X.w) ks (I1.ok.hd hc) pl.isList (by simpa using refs_of_vals rv) (fun p hp => I1.isT (hk p hp)) hf (by omega) fun h' tk L es ep t R g k => ?_
  refine PyProof.Rows.args_nil ?_
  have I2 : Inv X pins σ H1 { s1 with heap := h', toks := tk } := I1.kept k
  have sub : ∀ p ∈ L, p ∈ ks := fun p hp => List.mem_of_mem_take (g.sub p hp)
  refine sorted_setT (s := { s1 with heap := h', toks := tk }) R (I1.ok.hd hc) (d := 2) (B := 64) (by decide) (fun p hp => okP_bd (hB p (sub p hp))) fun s' p out c L' k2 gg o hp hgo hout pm pw => ?_
  have hlen : (L'.map fun q => V.ref q.1).length ≤ sizeLine := by have := R.few; rw [List.length_map, pm.length_eq, sizeLine_eq]; omega
  have hn : H1 p = none := I2.hok.fresh hp
  have hv : Vals (L'.map fun q => V.ref q.1) out.toList := by rw [hout]; exact vals_of_refs L'
  have J : Inv X pins σ (upd H1 p (.lst (L'.map fun q => V.ref q.1))) s' :=
    I2.call' (ch := []) o (Un.laid k2 hp hn) (I2.hok.laid k2 hp ⟨hlen, out.toList, c, hv, hgo⟩) (by rw [gg]; exact I2.bare) (fun _ z => nomatch z)
  refine ⟨.ref p, _, J, rfl, q1 L' p (fun q hq => sub q (pm.mem_iff.mp hq)) ?_ hn⟩
  have okL : ∀ z ∈ L'.map (·.2), okP z = true := fun z hz => by
    obtain ⟨q, hq, rfl⟩ := List.mem_map.mp hz
    exact hB q (sub q (pm.mem_iff.mp hq))
  have pm2 : (L'.map (·.2)).Perm (sortP (nubI (ks.map (·.2)))) := by
    refine (pm.map (·.2)).trans (List.Perm.trans ?_ (sortP_perm _).symm)
    refine (List.perm_ext_iff_of_nodup R.nd (nodup_nubI _)).mpr fun z => ?_
    rw [mem_nubI]
    constructor
    · intro hz
      obtain ⟨p, hp, rfl⟩ := List.mem_map.mp hz
      exact List.mem_map.mpr ⟨p, sub p hp, rfl⟩
    · intro hz
      obtain ⟨p, hp, rfl⟩ := List.mem_map.mp hz
      exact g.all p (by rw [List.take_length]; exact hp)
  exact List.Perm.eq_of_pairwise (le := fun a b => TS.code 64 a ≤ TS.code 64 b) (fun a b ha hb h1 h2 => code_inj (okL a ha) (okL b (pm2.mem_iff.mpr hb)) h1 h2) (List.pairwise_map.mpr pw) (sortP_sorted _) pm2
theorem rp_pairs {K : PySem.W.Frag} {S : AS} {H : Hp} : ∀ {L' : List (Addr × List Int)}, (∀ q ∈ L', ¬ S q.1 ∧ H q.1 = some (.tup (q.2.map V.int))) → RpA K S H (L'.map fun q => V.ref q.1) (pairsD (L'.map (·.2)))
  | [], _ => .nil
  | q :: L', h => by
    obtain ⟨h1, h2⟩ := h q List.mem_cons_self
    have rints : ∀ ns : List Int, RpA K S H (ns.map V.int) (ns.map PyData.int) := fun ns => by
      induction ns with
      | nil => exact .nil
      | cons n ns ih => exact .cons (.int n) ih
    exact .cons (.tup h1 h2 (rints q.2)) (rp_pairs fun q' hq => h q' (List.mem_cons_of_mem _ hq))
/-- rows, and that none of them is written -/
theorem rowsD_rp2 {K : PySem.W.Frag} {S : AS} {H : Hp} : ∀ {ds : List PyData} {vs : List V} {ks : List (List Int)}, RpA K S H vs ds → rowsD ds = some ks → ∃ ps : List (Addr × List Int), vs = ps.map (fun p => V.ref p.1) ∧ ps.map (·.2) = ks ∧ ∀ p ∈ ps, ¬ S p.1 ∧ H p.1 = some (.tup (p.2.map V.int))
  | [], _, ks, h, e => by cases h; cases e; exact ⟨[], rfl, rfl, fun p hp => absurd hp (by simp)⟩
  | d :: ds, _, ks, h, e => by
    obtain ⟨xs, ns, ks', rfl, e1, e2, rfl⟩ := rowsD_cons e
    cases h with
    | cons h1 h2 =>
      cases h1 with
      | tup n ha hs =>
        obtain ⟨ps, rfl, ep, hp⟩ := rowsD_rp2 h2 e2
        have ex := intsD_rp hs e1
        subst ex
        refine ⟨(_, ns) :: ps, rfl, by rw [List.map_cons, ep], fun p hp' => ?_⟩
        rcases List.mem_cons.mp hp' with e | e
        · rw [e]; exact ⟨n, ha⟩
        · exact hp p e
theorem se_sortSet (K : PySem.W.Frag) (hK0 : X.K = K) (hc : X.calm = true) (hu : X.A.units + 64 < cLine) (hg : Gl X "sorted") (hm : X.mg "sorted" = none) (hg2 : Gl X "set") (hm2 : X.mg "set" = none) (ha : SE X W a ta fa)
    (na : starEach [a] X.env = (false, eval a X.env) :: starEach [] X.env := by rfl) : SE X W (.Call (.Name "sorted" p) [.Call (.Name "set" p2) [a] [] q] [] pos) (tSortSet K ta) (fSortSet fa) := by
  subst hK0
  refine ⟨pe_sortSet hc hu hg hm hg2 hm2 ha.pe na, fun F S H σ ρ Q hK fok er hp => ?_⟩
  refine ha.go hK fok er (wE F W σ Q) hp fun r ρ1 v S1 H1 t1 er1 rr _ hp1 => ?_
  have hp1 : PostE F W S1 H1 σ ρ1 (outSs r ρ1) Q := hp1
  unfold outSs at hp1
  cases qa : deref ρ1 r with
  | none => simp only [qa] at hp1; exact hp1.elim
  | some d =>
    simp only [qa] at hp1
    have rt := rr.rt er1 qa
    cases qn : sortSetD d with
    | none => simp only [qn] at hp1; exact hp1.elim
    | some l =>
      simp only [qn] at hp1
      cases d with
      | list ds =>
        obtain ⟨ks, e1, e2⟩ := Option.bind_eq_some_iff.mp (show (rowsD ds).bind (fun ks => if ks.length < 64 ∧ ks.all okP = true then some (pairsD (sortP (nubI ks))) else none) = some l from qn)
        split at e2
        · rename_i hl
          cases e2
          obtain ⟨b, xs, rfl, hb, hs⟩ := rt.list
          obtain ⟨ps, rfl, rfl, hp⟩ := rowsD_rp2 hs e1
          rw [← hK]
          refine ⟨b, ps, rfl, hb, fun q hq => SqT.of (hp q hq).2, by have := hl.1; rw [List.length_map] at this; exact this, fun q hq => List.all_eq_true.mp hl.2 q.2 (List.mem_map.mpr ⟨q, hq, rfl⟩), fun L' p hsub hL hpn => ?_⟩
          have rl : RpA F.K S1 H1 (L'.map fun q => V.ref q.1) (pairsD (sortP (nubI (ps.map (·.2))))) := by
            rw [← hL]
            exact rp_pairs fun q hq => hp q (hsub q hq)
          obtain ⟨t, er', rr', fr'⟩ := (Grow.lst (K := F.K) (S := S1) hpn rl).step er1 fok
          exact hp1 _ _ _ t er' rr' fr'
        · cases e2
      | _ => cases qn
end
@[simp] theorem s_fSortSet {fa : EF} {ρ : Rho} : fSortSet fa ρ = (fa ρ).bind outSs := rfl
@[simp] theorem s_outSs {r : R} {ρ : Rho} : outSs r ρ = (match deref ρ r with
  | some d => (match sortSetD d with
    | some l => .ok (.own (.lst l)) ρ
    | none => .bad)
  | none => .bad) := rfl
end Pv
set_option maxRecDepth 100000
set_option maxHeartbeats 4000000
/-! PvX: xs[:0:-1]. -/
namespace Pv
open PySem PySem.Spec L2
open PyProof.Rows hiding St

theorem dr_bounds {n : Nat} (h : 0 < n) : sliceBounds none (some 0) (some (-1)) n = ((n : Int) - 1, 0, -1) := by
  unfold sliceBounds
  simp
  all_goals omega
theorem dr_range {n : Nat} (h : 0 < n) : sliceRange ((n : Int) - 1) 0 (-1) = ((List.range (n - 1)).map (1 + ·)).reverse := by
  unfold sliceRange
  have h1 : ¬ ((-1 : Int) > 0) := by decide
  by_cases h2 : (n : Int) - 1 > 0
  · have e : ((n : Int) - 1 - 0 - -1 - 1) / (- -1) = ((n - 1 : Nat) : Int) := by
      rw [show (- -1 : Int) = 1 by decide, Int.ediv_one]
      omega
    simp only [h1, if_false, h2, if_true, e, Int.toNat_natCast]
    apply List.ext_getElem
    · simp
    · intro i h3 h4
      simp at h3 h4 ⊢
      omega
  · have e : n = 1 := by omega
    subst e
    simp
theorem dr_pick {items : Array Value} (h : 0 < items.size) : slicePick items none (some 0) (some (-1)) = (items.toList.drop 1).reverse.toArray := by
  unfold slicePick
  rw [dr_bounds h]
  show ((sliceRange ((items.size : Int) - 1) 0 (-1)).filterMap (items[·]?)).toArray = _
  rw [dr_range h, List.filterMap_reverse]
  have e := pick_run items 1 (items.size - 1)
  rw [e, List.take_of_length_le (by rw [List.length_drop, Array.length_toList]; exact Nat.le_refl _)]
section
variable {X : Cx} {W : Wx} {e : Expr} {te : TE} {fe : EF} {k k0 : Nat} {p0 p1 p2 p3 pos : Pos}
def tRevD (K : PySem.W.Frag) (te : TE) : TE := fun σ H Q => te σ H fun x H1 => ∃ a xs, x = .ref a ∧ SqL K H1 a xs ∧ xs ≠ [] ∧ ∀ p, H1 p = none → Q (.ref p) (upd H1 p (.lst (xs.drop 1).reverse))
theorem pe_revD (he : PE X e te) : PE X (.Subscript e (.Slice none (some (.Constant (.int 0) k0 p0)) (some (.UnaryOp .USub (.Constant (.int 1) k p1) p2)) p3) pos) (tRevD X.K te) := by
  refine ⟨fun pins s σ H Q I h => ?_⟩
  refine Subscript_ (thn (he.run pins s σ H _ I h) fun v s1 ⟨x, H1, I1, r1, q1⟩ => ?_)
  obtain ⟨a, xs, ex, hx, hne, q⟩ := q1
  subst ex
  cases r1
  have hhi : PO X (some (.Constant (.int 0) k0 p0)) (tPart (tC (.int 0))) := po_some pe_int
  have hst : PO X (some (.UnaryOp .USub (.Constant (.int 1) k p1) p2)) (tPart (tUn (rU fun i => .int (-i)) (tC (.int 1)))) := po_some (pe_un un_neg pe_int)
  refine wpAny_Slice (thn (po_none.run pins s1 σ H1 (fun o H2 => o = none ∧ H2 = H1) I1 ⟨rfl, rfl⟩) fun vl s2 ⟨l, H2, I2, pl, el, e2⟩ => ?_)
  subst el e2
  refine thn (hhi.run pins s2 σ H2 (fun o H3 => o = some 0 ∧ H3 = H2) I2 ⟨0, rfl, rfl, rfl⟩) fun vu s3 ⟨u, H3, I3, pu, eu, e3⟩ => ?_
  subst eu e3
  refine thn (hst.run pins s3 σ H3 (fun o H4 => o = some (-1) ∧ H4 = H3) I3 ⟨1, rfl, -1, rfl, rfl, rfl⟩) fun vs s4 ⟨o, H4, I4, ps, eo, e4⟩ => ?_
  subst eo e4
  have I5 : Inv X pins σ H4 { s4 with heap := s4.heap.push { cls := .type "slice", data := .fields #[vl, vu, vs] } } := I4.kept (t' := s4.toks) fun b ob q => Heap.get?_push_of_some _ q
  obtain ⟨its, r, ht, hz⟩ := I5.list hx
  have hlen := r.length
  show wpAny (model X.prog X.w) X.A (subscriptTail e (.Slice none (some (.Constant (.int 0) k0 p0)) (some (.UnaryOp .USub (.Constant (.int 1) k p1) p2)) p3) (.ref a) (.ref s4.heap.objs.size)) (EP X pins σ Q) X.xe { s4 with heap := s4.heap.push { cls := .type "slice", data := .fields #[vl, vu, vs] } }
  refine tail_any (ops := [.ref a, .ref s4.heap.objs.size]) ht.isList.typeIs (PySem.slot_list_getitem.lookup) ?_ (by with_unfolding_all rfl)
  refine wpAny_getItem_list_slice ht.isList (Heap.IsSliceOf.new _ vl vu vs) pl pu ps (by decide) ?_ (by rw [List.size_toArray]; omega)
  have hpos : 0 < its.toArray.size := by
    rw [List.size_toArray, ← hlen]
    exact List.length_pos_iff.mpr hne
  rw [dr_pick hpos]
  refine ⟨.ref _, _, I5.laid (t' := s4.toks) (o := .lst (xs.drop 1).reverse) (fun b ob q => Heap.get?_push_of_some _ q) (Nat.le_refl _) ?_, rfl, q _ (I5.hok.fresh (Nat.le_refl _))⟩
  exact ⟨by rw [List.length_reverse, List.length_drop]; omega, _, 0, (Vals.drop 1 r).reverse, Heap.get?_push_size _ rfl⟩
theorem RpA.rev {K : PySem.W.Frag} {S : AS} {H : Hp} : ∀ {vs : List V} {ds : List PyData}, RpA K S H vs ds → RpA K S H vs.reverse ds.reverse
  | _, _, .nil => .nil
  | _, _, .cons h hs => by
    rw [List.reverse_cons, List.reverse_cons]
    exact (RpA.rev hs).append (RpA.one h)
def outRd (r : R) (ρ : Rho) : Out R := match deref ρ r with
  | some (.list ds) => if ds.isEmpty then .bad else .ok (.own (.lst (ds.drop 1).reverse)) ρ
  | _ => .bad
def fRevD (fa : EF) : EF := fun ρ => (fa ρ).bind outRd
theorem se_revD (K : PySem.W.Frag) (hK0 : X.K = K) (ha : SE X W e te fe) : SE X W (.Subscript e (.Slice none (some (.Constant (.int 0) k0 p0)) (some (.UnaryOp .USub (.Constant (.int 1) k p1) p2)) p3) pos) (tRevD K te) (fRevD fe) := by
  subst hK0
  refine ⟨pe_revD ha.pe, fun F S H σ ρ Q hK fok er hp => ?_⟩
  refine ha.go hK fok er (wE F W σ Q) hp fun r ρ1 v S1 H1 t1 er1 rr _ hp1 => ?_
  have hp1 : PostE F W S1 H1 σ ρ1 (outRd r ρ1) Q := hp1
  unfold outRd at hp1
  cases qa : deref ρ1 r with
  | none => simp only [qa] at hp1; exact hp1.elim
  | some d =>
    simp only [qa] at hp1
    have rt := rr.rt er1 qa
    cases d with
    | list ds =>
      obtain ⟨b, xs, rfl, hb, hs⟩ := rt.list
      by_cases he : ds.isEmpty = true
      · have hp2 : PostE F W S1 H1 σ ρ1 (if ds.isEmpty then .bad else .ok (.own (.lst (ds.drop 1).reverse)) ρ1) Q := hp1
        rw [if_pos he] at hp2
        exact hp2.elim
      · have hp2 : PostE F W S1 H1 σ ρ1 (if ds.isEmpty then .bad else .ok (.own (.lst (ds.drop 1).reverse)) ρ1) Q := hp1
        rw [if_neg he] at hp2
        rw [← hK]
        refine ⟨b, xs, rfl, hb, fun z => he (by subst z; cases hs; rfl), fun p hpn => ?_⟩
        obtain ⟨t, er', rr', fr'⟩ := (Grow.lst (K := F.K) (S := S1) hpn ((hs.drop 1).rev)).step er1 fok
        exact hp2 _ _ _ t er' rr' fr'
    | _ => exact hp1.elim
end
@[simp] theorem s_fRevD {fa : EF} {ρ : Rho} : fRevD fa ρ = (fa ρ).bind outRd := rfl
@[simp] theorem s_outRd {r : R} {ρ : Rho} : outRd r ρ = (match deref ρ r with
  | some (.list ds) => if ds.isEmpty then .bad else .ok (.own (.lst (ds.drop 1).reverse)) ρ
  | _ => .bad) := rfl
end Pv
set_option maxRecDepth 100000
set_option maxHeartbeats 4000000
/-! PvY: a def whose code object is known; the end of a law with tables. -/
namespace Pv
open PySem PySem.Spec L2

/-- the def that stands at f, its code object at c -/
structure FunC (K : PySem.W.Frag) (x qual : Str) (st : Stmt) (f : Addr) (fd : FuncData) (c : Addr) : Prop where
  ex : ∃ (oc : Value) (od : Option Addr) (kV doc pm : Value) (an : Option Addr) (ct : Value) (osl : Array (Option Value)),
    fd = PySem.W.fnOf x qual (defArgs st) (defBody st) (defScope st) .none kV doc pm an (.ref c) ct ∧ K.lookup f = some ⟨oc, od, .func fd, osl⟩ ∧ PySem.W.codeIn K (.ref c) qual = true
  kp : PySem.W.keepIn K (.ref f) = true
theorem funC_mk {K : PySem.W.Frag} {x qual : Str} {st : Stmt} {f c : Addr} {oc : Value} {od an : Option Addr} {osl : Array (Option Value)} {kV doc pm ct : Value} (l : K.lookup f = some ⟨oc, od, .func (PySem.W.fnOf x qual (defArgs st) (defBody st) (defScope st) .none kV doc pm an (.ref c) ct), osl⟩)
    (h : PySem.W.codeIn K (.ref c) qual = true) (k : PySem.W.keepIn K (.ref f) = true) : FunC K x qual st f (PySem.W.fnOf x qual (defArgs st) (defBody st) (defScope st) .none kV doc pm an (.ref c) ct) c := ⟨⟨oc, od, kV, doc, pm, an, ct, osl, rfl, l, h⟩, k⟩
theorem FunC.fun {K : PySem.W.Frag} {x qual : Str} {st : Stmt} {f c : Addr} {fd : FuncData} (F : FunC K x qual st f fd c) : Fun K x qual st f fd := by
  obtain ⟨oc, od, kV, doc, pm, an, ct, osl, rfl, l, h⟩ := F.ex
  exact fun_mk l h F.kp
section
variable {P : Program} {w : World} {K : PySem.W.Frag} {mg : Str → Option Value} {base : Heap}
theorem fn_pvC {T : AS} {c : Addr} {x qual : Str} {st : Stmt} {f : Addr} {fd : FuncData} {N ps : List Str} {k : Nat} {g : SF} (F : FunC K x qual st f fd c) (Sc : FnScope N ps (defScope st))
    (hbody : ∀ (A : Around) (outer : List Env) (s : Shared) (H : Hp) (E : XK), Room k (A.deeper (PyProof.Rows.envOfC qual (defScope st) s.heap.objs.size f (.ref c))) →
      ∃ t, SSs (cxOf (L2N.CX P w) P w K mg base N qual (defScope st) f (.ref c) A outer s H E) ⟨fun cls d _ H => E cls d H, T⟩ (defBody st) t g) : FnOk P w K mg base (L2N.CX P w) (k + 1) f fd ps (spF K T ps.length (fnF N.length g)) := by
  obtain ⟨oc, od, kV, doc, pm, an, ct, osl, rfl, lk, hcd⟩ := F.ex
  refine fn_of lk hcd Sc spF_len fun A outer s H vs Q E hr hsp => ?_
  obtain ⟨t, ht⟩ := hbody A outer s H E hr
  exact ⟨t, ht.ps, sn_fn (by have := congrArg List.length Sc.pre; rw [List.length_take] at this; omega) (fun F S H σ ρ D hK => ht.sn F S H σ ρ D hK) hsp⟩
end
/-- the def's table: its code object at c, the table at P -/
structure TabOf (h : Heap) (K : PySem.W.Frag) (f : Addr) (c P : Addr) : Prop where
  hd : PySem.W.CodeHd h c P
  emp : h.get? P = some { cls := .none, data := .fields #[] }
theorem no_tab {K : PySem.W.Frag} {h : Heap} {P : Addr} (X : K.In h) (n : PySem.W.noTabs K = true) (e : h.get? P = some { cls := .none, data := .fields #[] }) : K.lookup P = none := by
  cases q : K.lookup P with
  | none => rfl
  | some o =>
    have e2 := X P o q
    rw [e] at e2
    cases e2
    have h2 := List.all_eq_true.mp n (P, _) (PySem.W.mem_of_lookupK q)
    exact absurd (show false = true from h2) Bool.false_ne_true
theorem gx_of {base : Heap} {mg : Str → Option Value} {c P : Addr} (h : LamX.TabB base mg c P) : GxR.TabB base mg c P := ⟨h.code, h.bm, h.gP⟩
open PySem.W in
/-- from the facts of the top: every def's table -/
theorem walk_ofTT {l : PySem.W.OpenLaw} {n k : Nat} {q : Program} {loose : List Str} {XP : (Str → Option Value) → Heap → Prop} {YP : World → Heap → Prop} {d : DefRec} {K : Params → PySem.W.Frag} {CX : World → CXT} {x : Str}
    (hn : l.most = some n) (hn2 : n ≤ sizeLine) (hdf : d.params.defaults = []) (hr : Room k callerA) (hY : ∀ (w : World) (h : Heap), YP w h → (K w.params).In h)
    (F : ∀ (w : World) (mg : Str → Option Value) (fa : Addr) (h : Heap), (K w.params).In h → h.Ns mainGlobals mg → mg d.name = some (.ref fa) →
      (∀ (y : Str) (f : Addr) (oc : Value) (od : Option Addr) (fd : FuncData) (osl : Array (Option Value)), ((PyProof.Rows.recsOf q).any fun e => e.name == y) = true → mg y = some (.ref f) → (K w.params).lookup f = some ⟨oc, od, .func fd, osl⟩ → ∃ c P, fd.code = .ref c ∧ TabOf h (K w.params) f c P) →
      LamX.LawAtS l w (K w.params) (CX w) k n x mg fa h)
    (hCX : ∀ (w : World) (H : Hp) (s : Shared) (e : Value) (s' : Shared), CX w [] H s (fun _ _ _ => False) e s' → False) :
    PySem.W.WalkO q loose XP YP l.row.toRowW d [] (fun f vs => PySem.call f vs) := by
  refine Att.attach_callB hn hdf fun w s₀ s₁ mg mb fa o pm cd doc a vs ns G Y ho hd hcd hmg hobj hints hlen hbits hg => ?_
  have KX := hY w _ Y
  obtain ⟨fd, cs, sp, hT, nT, C, hb, hsp, hF⟩ := F w mg fa _ KX G.T.g hmg fun y f oc od fd osl hrec hm hl => by
    obtain ⟨dL, hm1, hn1⟩ := List.any_eq_true.mp hrec
    have hn2 : dL.name = y := beq_iff_eq.mp hn1
    obtain ⟨a', o', fd', c', P', h1, h2, h3, h4, h5, h6⟩ := G.T.tab dL hm1
    rw [hn2, hm] at h1
    cases h1
    have g1 := KX _ _ hl
    rw [g1] at h2
    cases h2
    cases h3
    exact ⟨c', P', h4, CodeHd.of h5 h6, h6.2⟩
  exact LamX.law_callTs KX G.T.g G.T.b G.T.builtins G.T.nolimit hg hT nT C G.T.bmain hobj hints (Nat.le_trans hlen hn2) hr hF hb (fun H hH hS => hsp H a ns hlen hbits hH hS) fun H e s' => hCX w H s₁ e s'
end Pv
set_option maxRecDepth 100000
set_option maxHeartbeats 4000000
/-! PvZ: enumerate of a list or of a tuple. -/
namespace Pv
open PySem PySem.Spec L2
open PyProof.Rows hiding St

theorem meets_enumT {v : Value} {o : Obj} {H : Heap → Prop} (B : Begins v o H) :
    Meets (Builtin.«enumerate.__new__» ⟨[.type "enumerate", v], []⟩) (fun _ R s => H s.heap ∧
      R (.ok (.ret (.ref (s.heap.push o).objs.size))) { s with heap := (s.heap.push o).push { cls := .type "enumerate", data := .fields #[.none, .bool false, .ref s.heap.objs.size, rawInt 0, .none, .none] } }) :=
  .of_wp fun prog w A R s h => by
    obtain ⟨hp, g, d, tk, os⟩ := s; obtain ⟨h1, h⟩ := h
    have hsub := sub_enumerate
    have q1 : ∀ {A' : Around} {E : Value → Shared → Prop} {Q : Value → Shared → Prop}, Q (.ref hp.objs.size) ⟨hp.push o, g, d, tk, os⟩ → wpAny (model prog w) A' (pyIter v) Q E ⟨hp, g, d, tk, os⟩ :=
      fun q => B.iter prog w _ _ ⟨hp, g, d, tk, os⟩ _ h1 q
    wp_walk using q1
    refine wpAny_stack_any fun st => wpAny_pure ?_
    split
    · rename_i c _ _ _ _ _
      cases (c == Value.type "enumerate")
      · wp_walk using q1
        exact ⟨_, rfl, h⟩
      · wp_walk using q1
        exact ⟨_, rfl, h⟩
    · wp_walk using q1
      exact ⟨_, rfl, h⟩
section
variable {prog : Program} {w : World} {A : Around} {E : Value → Shared → Prop} {s : Shared}
theorem call_enumT {l : Addr} {items : Array Value} {Q : Value → Shared → Prop} (hL : s.heap.IsTuple l items)
    (h : ∀ h', IsEnum h' (s.heap.objs.size + 1) s.heap.objs.size 0 .none → h'.IsTupleIter s.heap.objs.size l 0 → h'.objs.size = s.heap.objs.size + 2 →
      (∀ b o, s.heap.get? b = some o → h'.get? b = some o) → Q (.ref (s.heap.objs.size + 1)) { s with heap := h' }) :
    wpAny (model prog w) A (call (.type "enumerate") [.ref l]) Q E s := by
  refine callType_new F.called_enumerate (by decide) (F.typeCall_enumerate_1 _) (F.newCall_enumerate_1 _) (fun obj => F.args_object_init_2 obj _) F.entry_enumerate_new
    (meets_enumT (begins_tuple l items)) ⟨hL, ?_⟩
  have hz : (s.heap.push { cls := .type "tuple_iterator", data := .fields #[.ref l, .int 0 0] }).objs.size = s.heap.objs.size + 1 := Heap.size_push ..
  show _ ∧ _
  rw [hz]
  have he : IsEnum ((s.heap.push { cls := .type "tuple_iterator", data := .fields #[.ref l, .int 0 0] }).push
      { cls := .type "enumerate", data := .fields #[.none, .bool false, .ref s.heap.objs.size, rawInt 0, .none, .none] }) (s.heap.objs.size + 1) s.heap.objs.size 0 .none := by
    have := Heap.get?_push_size (s.heap.push { cls := .type "tuple_iterator", data := .fields #[.ref l, .int 0 0] })
      (o := { cls := .type "enumerate", data := .fields #[.none, .bool false, .ref s.heap.objs.size, rawInt 0, .none, .none] }) rfl
    rw [hz] at this; exact this
  refine ⟨⟨_, he, rfl⟩, h _ he ⟨_, Heap.get?_push_of_some _ (Heap.get?_push_size _ rfl), rfl, rfl⟩ (by rw [Heap.size_push, hz]) fun b o x => Heap.get?_push_of_some _ (Heap.get?_push_of_some _ x)⟩
end
/-- the tuple at a, each item in a new pair -/
def IteT (K : PySem.W.Frag) (a : Addr) : It :=
  ⟨fun i H => ∃ (xs : List V) (x : V), SqT K H a xs ∧ xs[i]? = some x, fun i H v H' => ∃ T x, v = .ref T ∧ H T = none ∧ H' = upd H T (.tup [.int (i : Nat), x]) ∧ ∀ xs, SqT K H a xs → xs[i]? = some x, fun i H => ∃ xs : List V, SqT K H a xs ∧ xs.length ≤ i⟩
theorem turn_enumT {P : Program} {w : World} {K : PySem.W.Frag} {elts : List Expr} {kk : Nat} {tpos : Pos} (a e it : Addr) (hat : a ≠ it) (hae : a ≠ e) :
    Turn P w K (.Tuple elts kk tpos) (IteT K a) [e, it] e (fun i h => (∃ old, IsEnum h e it ((i : Nat) : Int) old) ∧ h.IsTupleIter it a i ∧ e ≠ it) where
  mem := by simp
  obj := fun i h st b hb => by
    obtain ⟨⟨old, he⟩, ⟨o, ho, hc, hd⟩, _⟩ := st
    have e' : b = e ∨ b = it := by simpa using hb
    rcases e' with z | z
    · rw [z]; exact ⟨_, he, fun v q => nomatch q⟩
    · rw [z]; exact ⟨o, ho, fun v q => by rw [hd] at q; cases q⟩
  keep := fun i h h' st k => let ⟨⟨old, he⟩, hi, hne⟩ := st; ⟨⟨old, k e (by simp) _ he⟩, hi.at fun o q => k it (by simp) o q, hne⟩
  item := by
    intro X hP hw hK hc i pins s σ H E I hf st hg
    subst hP hw hK
    obtain ⟨⟨old, he⟩, hit, hne⟩ := st
    obtain ⟨xs, x, hq, hx⟩ := hg
    obtain ⟨its, rv, p, hz⟩ := I.tuple hq
    obtain ⟨u, hu, ru⟩ := rv.get hx
    have hel : e < s.heap.objs.size := Heap.lt_size he
    have hil : it < s.heap.objs.size := by obtain ⟨_, q, _⟩ := hit; exact Heap.lt_size q
    have hil2 : i < its.toArray.size := by
      have := (List.getElem?_eq_some_iff.mp hu).1
      simpa using this
    refine wpAny_pyNext_enum_itemD (Draws.tuple (A := X.A.in1) (prog := X.prog) (w := X.w) (I.ok.hd hc) it a hat its.toArray) he ⟨hit, p⟩ hil2 hne (by simp [hne, Ne.symm hae]) fun x' h' tk hx' ho ⟨hit', _⟩ hT hsz hk => ?_
    have ex : x' = u := by
      have : its.toArray[i]? = some u := by simpa using hu
      rw [this] at hx'
      exact (Option.some.inj hx').symm
    subst ex
    refine ⟨_, rfl, wpAny_letOwnedTupleGo_enum (s := { s with heap := h', toks := tk + 1 }) ho fun h'' he' sb => ?_⟩
    have hT2 : h''.get? s.heap.objs.size = some { cls := .type "tuple", data := .seq #[.int i tk, x'] } := (sb.2 _ (Nat.ne_of_gt hel)).trans hT
    have new : ObjOk X.prog X.w (upd H s.heap.objs.size (.tup [.int (i : Nat), x])) h'' s.heap.objs.size (.tup [.int (i : Nat), x]) :=
      ⟨by show 2 ≤ sizeLine; decide, [.int i tk, x'], .cons ⟨_, rfl⟩ (.cons ru .nil), ⟨_, hT2, rfl, _, rfl⟩⟩
    have I1 : Inv X pins σ (upd H s.heap.objs.size (.tup [.int (i : Nat), x])) { s with heap := h'', toks := tk + 1 } :=
      I.turnedNew (ch := [e, it]) (fun b ob hb q => (sb.2 b (fun z => hb (by simp [z]))).trans (hk b ob (fun z => hb (by simp [z])) (fun z => hb (by simp [z])) q)) hf (Nat.le_refl _) new
    refine ⟨.ref s.heap.objs.size, _, I1, rfl, ⟨_, x, rfl, I.hok.fresh (Nat.le_refl _), rfl, fun ys hy => by rw [I.tuple_inj hy hq]; exact hx⟩, ⟨⟨x', ?_⟩, hit'.at fun o q => (sb.2 it (Ne.symm hne)).trans q, hne⟩, fun b hb => ?_⟩
    · have e1 : ((i + 1 : Nat) : Int) = (i : Int) + 1 := by omega
      rw [e1]; exact he'
    · have hb' : b < s.heap.objs.size := by
        have e' : b = e ∨ b = it := by simpa using hb
        rcases e' with z | z
        · rw [z]; exact hel
        · rw [z]; exact hil
      rw [upd_ne (Nat.ne_of_lt hb')]
      exact (hf b hb).1
  done := by
    intro X hP hw hK hc i pins s σ H E I hf st hg
    subst hP hw hK
    obtain ⟨⟨old, he⟩, hit, hne⟩ := st
    obtain ⟨xs, hq, hx⟩ := hg
    obtain ⟨its, rv, p, hz⟩ := I.tuple hq
    obtain ⟨f0, f1, f2, f3, f4, f5⟩ := hf it (by simp)
    have hl := rv.length
    have hT : s.TypeIs (.ref e) "enumerate" := ⟨_, he, rfl⟩
    unfold pyNext
    refine wpAny_bind (wpAny_attempt (wpAny_callSpecial?_slot (name := Str.ofString "__next__") hT F.slot_enumerate_next
      (wpAny_call_entry F.slot_enumerate_next hT F.entry_enumerate_next ?_ (F.args_enumerate_next_1 _))))
    show wpAny _ _ (field (.ref e) 2 >>= _) _ _ _
    refine wpAny_bind (wpAny_field he rfl (x := .ref it) rfl ?_)
    refine wpAny_bind (wpAny_nextOf_tuple_end (I.ok.hd hc) hit p (by simp; omega) fun h' x he' hx' => ?_)
    obtain ⟨o, ho, hc⟩ := hx'
    refine wpAny_bind (wpAny_isInstance (T := "StopIteration") (b := true) ⟨o, ho, hc⟩ isSubtype_stop ?_)
    exact wpAny_pure ⟨rfl, I.turned (t' := s.toks) (fun b o hb q => he' b o hb q) f0 f1 f3 f4 f5⟩
  self := fun A i s Q E st h => let ⟨⟨_, he⟩, _⟩ := st; wpAny_pyIter_enum he h
def iEnumA (K : PySem.W.Frag) (ta : TA) : TI := fun σ H R => ta σ H fun vs H1 => ∃ a xs, vs = [.ref a] ∧ ((SqL K H1 a xs ∧ R (Ite K a) H1) ∨ (SqT K H1 a xs ∧ R (IteT K a) H1))
theorem pi_enumA {X : Cx} {e : Expr} {ta : TA} {p pos tpos : Pos} {elts : List Expr} {kk : Nat} (hg : Gl X "enumerate") (hm : X.mg "enumerate" = none) (ha : PA X [e] ta) (hs : starEach [e] X.env = [(false, eval e X.env)] := by rfl) :
    PI X (.Tuple elts kk tpos) (.Call (.Name "enumerate" p) [e] [] pos) (iEnumA X.K ta) := by
  refine ⟨fun pins s σ H R I h => ?_⟩
  refine Call_ (ld_blt I hg hm boot_enumerate (PyProof.Rows.callWith_type1 (thn (ha.run pos pins s σ H _ I h) fun us s1 ⟨vs, H1, I1, r1, q1⟩ => ?_) hs rfl))
  obtain ⟨a, xs, ex, q⟩ := q1
  subst ex
  cases r1 with
  | cons r rr =>
    cases rr
    cases r
    have fp : ∀ b, b ∈ [s1.heap.objs.size + 1, s1.heap.objs.size] → FpOk X pins H1 b := fun b hb => by
      have e' : b = s1.heap.objs.size + 1 ∨ b = s1.heap.objs.size := by simpa using hb
      have hle : s1.heap.objs.size ≤ b := by
        rcases e' with z | z
        · rw [z]; exact Nat.le_add_right _ _
        · rw [z]; exact Nat.le_refl _
      exact I1.fpOk hle (I1.hok.fresh hle)
    rcases q with ⟨hq, q⟩ | ⟨hq, q⟩
    · obtain ⟨its, rv, p', hz⟩ := I1.list hq
      refine call_enumerate_list p'.isList fun h' he hit hsz hk => wpAny_pyIter_enum he ?_
      have I2 : Inv X pins σ H1 { s1 with heap := h' } := I1.kept (t' := s1.toks) hk
      exact ⟨s1.heap.objs.size + 1, [s1.heap.objs.size + 1, s1.heap.objs.size], _, _, H1, rfl, I2, turn_enum a (s1.heap.objs.size + 1) s1.heap.objs.size, ⟨⟨.none, he⟩, hit, Nat.succ_ne_self _⟩, fp, q⟩
    · obtain ⟨its, rv, p', hz⟩ := I1.tuple hq
      obtain ⟨o1, ho1, _⟩ := id p'
      have hlt := Heap.lt_size ho1
      refine call_enumT (show s1.heap.IsTuple a its.toArray from p') fun h' he hit hsz hk => wpAny_pyIter_enum he ?_
      have I2 : Inv X pins σ H1 { s1 with heap := h' } := I1.kept (t' := s1.toks) hk
      exact ⟨s1.heap.objs.size + 1, [s1.heap.objs.size + 1, s1.heap.objs.size], _, _, H1, rfl, I2, turn_enumT a (s1.heap.objs.size + 1) s1.heap.objs.size (Nat.ne_of_lt hlt) (Nat.ne_of_lt (Nat.lt_succ_of_lt hlt)), ⟨⟨.none, he⟩, hit, Nat.succ_ne_self _⟩, fp, q⟩
/-! pure side -/
section
variable {K : PySem.W.Frag} {S : AS} {H : Hp} {a b : Addr} {xs ys : List V} {ds es : List PyData}
theorem itr_enumT (n : ¬ S a) (h : H a = some (.tup xs)) (hs : RpA K S H xs ds) : ItR K S H (IteT K a) (enumD ds) := fun S' H' t dom => by
  have q : SqT K H' a xs := SqT.of (t.off _ _ nt_tup h n)
  have hs' := hs.trS t
  have hl := hs.length
  refine ⟨fun i hi => ?_, fun i hi => ⟨xs, q, by rw [enumD_length] at hi; omega⟩⟩
  rw [enumD_length] at hi
  refine ⟨⟨xs, xs[i], q, by simp [hl ▸ hi]⟩, fun x H'' y => ?_⟩
  obtain ⟨T, x0, rfl, hT, rfl, y⟩ := y
  obtain ⟨d, e, rp⟩ := hs'.getV (y xs q)
  have ed : ds[i] = d := by
    rw [List.getElem?_eq_getElem hi] at e
    exact Option.some.inj e
  refine ⟨_, enumD_get hi, fun b o e => by rw [upd_ne (ne_of_none e hT)]; exact e, ?_⟩
  rw [ed]
  exact rp_pair dom hT (.int _) rp
end
def fIEnumA (fr : AF) : IF := fun ρ => (fr ρ).bind fun ds ρ1 => match ds with
  | [.list xs] => .ok (enumD xs) ρ1
  | [.tuple xs] => .ok (enumD xs) ρ1
  | _ => .bad
section
variable {X : Cx} {W : Wx} {e e2 : Expr} {ta : TA} {fr : AF} {p pos tpos : Pos} {elts : List Expr} {kk : Nat} (K : PySem.W.Frag) (hK0 : X.K = K)
include hK0
theorem si_enumA (hg : Gl X "enumerate") (hm : X.mg "enumerate" = none) (ha : SA X W [e] ta fr) (hs : starEach [e] X.env = [(false, eval e X.env)] := by rfl) : SI X W (.Tuple elts kk tpos) (.Call (.Name "enumerate" p) [e] [] pos) (iEnumA K ta) (fIEnumA fr) := by
  subst hK0
  refine ⟨pi_enumA hg hm ha.pa hs, fun F S H σ ρ Rr hK fok er hp => ?_⟩
  refine ha.go hK fok er (wI F W σ Rr) hp fun ds ρ1 vs S1 H1 t1 er1 rp hp1 => ?_
  match ds, rp, hp1 with
  | [.list xs], .cons h .nil, hp1 =>
    cases h with
    | lst h hs => exact ⟨_, _, rfl, .inl ⟨by rw [← hK]; exact h.seq, hp1 _ S1 H1 .refl er1 (by rw [← hK]; exact itr_enum h hs)⟩⟩
  | [.tuple xs], .cons h .nil, hp1 =>
    cases h with
    | tup n h hs => exact ⟨_, _, rfl, .inr ⟨SqT.of h, hp1 _ S1 H1 .refl er1 (by rw [← hK]; exact itr_enumT n h hs)⟩⟩
  | [], _, hp1 => exact hp1.elim
  | [.none], _, hp1 => exact hp1.elim
  | [.bool _], _, hp1 => exact hp1.elim
  | [.int _], _, hp1 => exact hp1.elim
  | [.str _], _, hp1 => exact hp1.elim
  | [.dict _], _, hp1 => exact hp1.elim
  | d :: _ :: _, _, hp1 => cases d <;> exact hp1.elim
end
/-- not x, for any x -/
def fNotT (fa : EF) : EF := fun ρ => (fT fa ρ).bind fun b ρ1 => .ok (.val (.bool (!b))) ρ1
theorem se_notT {X : Cx} {W : Wx} {a : Expr} {ta : TE} {fa : EF} {pos : Pos} (K : PySem.W.Frag) (hK0 : X.K = K) (ha : SE X W a ta fa) (he : ∀ whole, isTrue a X.env whole = (do let v ← whole; standAt a.pos; holding [v] (truthy v)) := by intro _; rfl) : SE X W (.UnaryOp .Not a pos) (tNotT K ta) (fNotT fa) := by
  subst hK0
  refine ⟨pe_notT ha.pe, fun F S H σ ρ Q hK fok er hp => (st_truth ha he).sn F S H σ ρ (fun k H1 => Q (.bl (!k)) H1) hK fok er ?_⟩
  unfold fNotT at hp
  cases q : fT fa ρ with
  | ok b ρ1 =>
    rw [q] at hp
    exact fun S' H' t er' => hp _ S' H' t er' (.bl (!b)) trivial
  | ex x ρ1 =>
    rw [q] at hp
    exact hp
  | bad =>
    rw [q] at hp
    exact hp.elim
@[simp] theorem s_fNotT {fa : EF} {ρ : Rho} : fNotT fa ρ = (fT fa ρ).bind fun b ρ1 => .ok (.val (.bool (!b))) ρ1 := rfl
end Pv
set_option maxRecDepth 100000
set_option maxHeartbeats 4000000
/-! Pv1: dict comprehensions whose keys are tuples, of one clause or two. -/
namespace Pv
open PySem PySem.Spec L2
open PyProof.Rows hiding St

abbrev Tests (ifs : List Expr) (env : Env) : Sem Bool := forIn ifs true fun c r => if r = true then do let ok ← isTrue c env (eval c env); pure (ForInStep.yield ok) else pure (ForInStep.yield r)
/-- one clause's turns -/
def tCl (g : TG) (tt : TT) (tb : L2.St → Hp → (Hp → Prop) → Prop) (vs : List Nat) (J : It) (σ : L2.St) (Fn : Hp → Prop) (H1 : Hp) : Prop :=
  ∃ W : Nat → Nat → Hp → Prop, (∃ m, W 0 m H1) ∧ ∀ i m H, W i m H →
    (J.stop i H ∧ Fn H) ∨ (J.go i H ∧ ∃ Nx : Hp → Prop, (∀ H', Nx H' → ∃ m', m' < m ∧ W (i + 1) m' H') ∧ ∀ x H', J.yld i H x H' → g x (wipe σ vs) H' fun σ2 H2 => wipe σ2 vs = wipe σ vs ∧ tt σ2 H2 fun b H3 => if b = true then tb σ2 H3 Nx else Nx H3)
/-- what a clause's body does: behind it K stands; ws its own names -/
def PBw (Y : Cx) (bw : (Shared → Prop) → Shared → Prop) (tb : L2.St → Hp → (Hp → Prop) → Prop) (ws : List Nat) : Prop :=
  ∀ (pins : List (Addr × Obj)) (s : Shared) (σ : L2.St) (H : Hp) (N : Hp → Prop) (K : Shared → Prop), L2.Inv Y pins σ H s → tb σ H N →
    (∀ s' σ' H', L2.Inv Y pins σ' H' s' → σ'.length = σ.length → (∀ (j : Nat) v, j ∉ ws → σ[j]? = some (some v) → σ'[j]? = some (some v)) → N H' → K s') → bw K s
/-- a turn of the loop of a clause, its body told by bw -/
def TurnBw (prog : Program) (w : World) (A : Around) (env : Env) (E : Expr) (d : Nat) (acc it : Value) (tg : Expr) (ifs : List Expr) (bw : (Shared → Prop) → Shared → Prop) : Prop :=
  ∀ (R : Result → Shared → Prop) (G : Shared → Prop) (s : Shared), wpAny (model prog w) A (pyNext it) (fun r s1 => match r with
    | none => R (.ok .next) s1
    | some v => wpAny (model prog w) A (letOwnedTupleGo tg it v) (fun _ s2 => wpAny (model prog w) A (assign tg env v) (fun _ s3 => wpAny (model prog w) A (Tests ifs env) (fun ok s4 => if ok = true then bw G s4 else G s4) (fun _ _ => False) s3) (fun _ _ => False) s2) (fun _ _ => False) s1) (fun _ _ => False) s →
  wpAny (model prog w) A (compTurn E d it acc env) (fun fin s' => match fin with | .done f => R (.ok f) s' | .again c' => c' = .compLoop E d it acc env ∧ G s') (fun _ _ => False) s
section
variable {Y : Cx} {kx vx tg : Expr} {gens : List Comprehension} {scope : Scope} {cpos : Pos} {ifs : List Expr} {d : Nat} {acc : Value} {it : Addr} {fp : List Addr} {tn : Nat → Heap → Prop} {J : It} {g : TG} {tt : TT} {tb : L2.St → Hp → (Hp → Prop) → Prop} {vs ws : List Nat} {pins : List (Addr × Obj)} {σ : L2.St} {Fn : Hp → Prop} {R : Result → Shared → Prop} {bw : (Shared → Prop) → Shared → Prop} {s : Shared} {H : Hp}
/-- a clause's loop -/
theorem cl_loop (hc : Y.calm = true) (hx : Y.xe = fun _ _ => False) (hturn : TurnBw Y.prog Y.w Y.A Y.env (.DictComp kx vx gens scope cpos) d acc (.ref it) tg ifs bw) (pg : PG Y tg g) (pt : PTs Y ifs tt) (pb : PBw Y bw tb ws) (hws : ∀ i ∈ ws, i ∈ vs) (T : L2.Turn Y.prog Y.w Y.K tg J fp it tn)
    (stat : ∀ {pl : List (Addr × Obj)} {σ' : L2.St} {H' : Hp} {s' : Shared}, pl = pins → L2.Inv Y pins σ' H' s' → (∀ b ∈ fp, H' b = none) → ∀ b ∈ fp, FpOk Y pins H' b)
    (I : L2.Inv Y pins (wipe σ vs) H s) (st : tn 0 s.heap) (nf : ∀ b ∈ fp, H b = none) (spec : tCl g tt tb vs J σ Fn H)
    (hR : ∀ s' H', L2.Inv Y pins (wipe σ vs) H' s' → Fn H' → R (.ok .next) s') :
    codeAny (model Y.prog Y.w) Y.A (.compLoop (.DictComp kx vx gens scope cpos) d (.ref it) acc Y.env) R s := by
  obtain ⟨W, ⟨m0, w0⟩, turn⟩ := spec
  refine codeAny_loop rfl (fun n s' => ∃ i H', L2.Inv Y pins (wipe σ vs) H' s' ∧ tn i s'.heap ∧ (∀ b ∈ fp, H' b = none) ∧ W i n H') (fun n s1 hI => ?_) m0 ⟨0, H, I, st, nf, w0⟩
  obtain ⟨i, H1, I1, st1, nf1, w1⟩ := hI
  show wpAny _ Y.A ((compTurn (.DictComp kx vx gens scope cpos) d (.ref it) acc Y.env).onRaise (fun x => do noteFrame x Y.env; theTreesLotGoes x)) _ _ s1
  refine wpAny_noted (wpAny_mono (hturn R (fun s' => ∃ m, m < n ∧ ∃ i H', L2.Inv Y pins (wipe σ vs) H' s' ∧ tn i s'.heap ∧ (∀ b ∈ fp, H' b = none) ∧ W i m H') s1 ?_) (fun _ _ z => z) fun _ _ z => z.elim)
  rcases turn i n H1 w1 with ⟨stop, fn⟩ | ⟨go, Nx, hNx, step⟩
  · refine thnF (T.done Y rfl rfl rfl hc i pins s1 _ H1 _ I1 (stat rfl I1 nf1) st1 stop) fun r s2 ⟨er, I2⟩ => ?_
    subst er
    exact hR s2 H1 I2 fn
  · refine thnF (T.item Y rfl rfl rfl hc i pins s1 _ H1 (fun _ _ => False) I1 (stat rfl I1 nf1) st1 go) fun r s2 ⟨u, er, h2⟩ => ?_
    subst er
    refine thnF h2 fun _ s3 ⟨x, H3, I3, r3, y3, st3, nf3⟩ => ?_
    -- the iterator's own objects stay as they are through the body
    have I3p := I3.pinned (stat rfl I3 nf3) (T.obj _ _ st3)
    have P1 := pg.run _ s3 _ H3 x u _ I3p r3 (step x H3 y3)
    rw [hx] at P1
    refine thnF P1 fun _ s4 ⟨σ4, H4, I4, hwp, q4⟩ => ?_
    have P2 := pt.run _ s4 σ4 H4 _ I4 q4
    rw [hx] at P2
    refine thnF P2 fun b s5 ⟨H5, I5, q5⟩ => ?_
    have len4 : (wipe σ vs).length = σ4.length := by rw [← hwp, wipe_length]
    have close : ∀ {σ' : L2.St} {H' : Hp} {s' : Shared}, L2.Inv Y (pins ++ pinsAt fp s3.heap) σ' H' s' → σ'.length = σ4.length → (∀ (j : Nat) v, j ∉ ws → σ4[j]? = some (some v) → σ'[j]? = some (some v)) → Nx H' → ∃ m, m < n ∧ ∃ i H', L2.Inv Y pins (wipe σ vs) H' s' ∧ tn i s'.heap ∧ (∀ b ∈ fp, H' b = none) ∧ W i m H' := by
      intro σ' H' s' I' hl hk nx
      obtain ⟨m', hm, w'⟩ := hNx H' nx
      have held : ∀ b ∈ fp, ∀ o, s3.heap.get? b = some o → s'.heap.get? b = some o ∧ H' b = none := by
        intro b hb o e
        have z := I'.pin (b, o) (List.mem_append_right _ (List.mem_append_right _ (mem_pinsAt hb e)))
        exact ⟨z.1, z.2.1⟩
      have weak : ∀ (j : Nat) v, (wipe σ vs)[j]? = some (some v) → σ'[j]? = some (some v) := by
        intro j v e
        rw [← hwp] at e
        obtain ⟨e1, e2⟩ := wipe_some e
        exact hk j v (fun z => e2 (hws j z)) e1
      refine ⟨m', hm, i + 1, H', I'.unpinned.weak (len4.trans hl.symm) weak, T.keep _ _ _ st3 fun b hb o e => (held b hb o e).1, fun b hb => ?_, w'⟩
      obtain ⟨o, e, _⟩ := T.obj _ _ st3 b hb
      exact (held b hb o e).2
    cases b with
    | false =>
      rw [if_neg Bool.false_ne_true] at q5 ⊢
      exact close I5 rfl (fun _ _ _ z => z) q5
    | true =>
      rw [if_pos rfl] at q5 ⊢
      exact pb _ s5 σ4 H5 Nx _ I5 q5 fun s' σ' H' I' hl hk nx => close I' hl hk nx
end
/-! ### d[k] = v by a comprehension -/
theorem dict_put {X : Cx} {pins : List (Addr × Obj)} {σ : L2.St} {H H' : Hp} {s : Shared} {E : Value → Shared → Prop} {D : Addr} {y v : V} {u r : Value} {Q : Unit → Shared → Prop} (hu : X.A.units < cLine) (I : L2.Inv X pins σ H s) (g : DPut H D y v H') (ry : L2.RelV y u) (rv : L2.RelV v r)
    (h : ∀ s', L2.Inv X pins σ H' s' → Q () s') : wpAny (model X.prog X.w) X.A (dictSet D u r) Q E s := by
  rcases g with ⟨kvs, k, e, ey, l, eH⟩ | ⟨kvs, k, b, e, ey, eb, l, eH⟩
  · subst ey eH
    exact d_dictSet I e l ry rv h
  · subst ey eH
    cases (show u = Value.ref b from ry)
    obtain ⟨z, hd, xs, rel, dd⟩ := dt_of I.hok e
    have lx : xs.length ≤ sizeLine := (Paired.length rel) ▸ z
    have lp : (putK kvs k v).length ≤ sizeLine := Nat.le_trans (length_putK kvs k v) l
    refine wpAny_dictSet_heap (hsz := lx) hu (key_of I.hok eb) dd fun h' dd' hs => h _ ?_
    obtain ⟨q, es, ep, hq, d2, d3, d4, _, d5⟩ := dd'
    refine d_write I (by rw [e]; trivial) hs ⟨q, hq⟩ ⟨lp, hd, _, (rel.put k eb rv).keeps fun c ys ec => (upd_ne (ne_of ec e (fun z => nomatch z))).trans ec, q, es, ep, hq, d2, d3, d4, d5⟩
/-! ### turns -/
section
variable {prog : Program} {w : World} {A : Around} {env : Env} {kx vx tg iter tg1 iter1 : Expr} {ifs ifs1 : List Expr} {scope : Scope} {cpos : Pos} {gens : List Comprehension} {d : Nat} {D : Addr} {it acc : Value}
abbrev bwKV (prog : Program) (w : World) (A : Around) (env : Env) (kx vx : Expr) (D : Addr) : (Shared → Prop) → Shared → Prop := fun K s =>
  wpAny (model prog w) A (eval kx env) (fun kv s1 => wpAny (model prog w) A (eval vx env) (fun vv s2 => wpAny (model prog w) A (dictSet D kv vv) (fun _ s3 => K s3) (fun _ _ => False) s2) (fun _ _ => False) s1) (fun _ _ => False) s
theorem turn_last (ht : compTurn (.DictComp kx vx gens scope cpos) d it (.ref D) env = (do
      standAt iter.pos
      match ← pyNext it with
      | none => pure (.done .next)
      | some v =>
        letOwnedTupleGo tg it v
        assign tg env v
        let mut ok := true
        for c in ifs do
          if ok then ok ← isTrue c env (eval c env)
        if ok then
          (do
            let kv ← eval kx env
            let vv ← holding [kv] (eval vx env)
            standAt { kx.pos with endLine := vx.pos.endLine, endCol := vx.pos.endCol }
            holding [kv, vv] (dictSet D kv vv))
        again (.compLoop (.DictComp kx vx gens scope cpos) d it (.ref D) env))) :
    TurnBw prog w A env (.DictComp kx vx gens scope cpos) d (.ref D) it tg ifs (bwKV prog w A env kx vx D) := by
  intro R G s h
  rw [ht]
  refine wpAny_bind (wpAny_standAt (wpAny_bind (thn h fun r s1 h1 => ?_)))
  cases r with
  | none => exact wpAny_pure h1
  | some v =>
    refine wpAny_bind (thn h1 fun _ s2 h2 => wpAny_bind (thn h2 fun _ s3 h3 => wpAny_bind (thn h3 fun ok s4 h4 => ?_)))
    cases ok with
    | false => exact wpAny_pure ⟨rfl, h4⟩
    | true => exact wpAny_bind (wpAny_bind (thn h4 fun kv s5 h5 => wpAny_bind (wpAny_holding (thn h5 fun vv s6 h6 => wpAny_bind (wpAny_standAt (wpAny_holding (thn h6 fun _ s7 h7 => wpAny_pure ⟨rfl, h7⟩)))))))
/-- a clause with one more behind it -/
abbrev bwMore (prog : Program) (w : World) (A : Around) (env : Env) (E iter1 : Expr) (acc : Value) : (Shared → Prop) → Shared → Prop := fun K s =>
  wpAny (model prog w) A (eval iter1 env) (fun x s1 => wpAny (model prog w) A (pyIter x) (fun it1 s2 => codeAny (model prog w) A (.compStart E 1 it1 acc env) (fun r s' => match r with | .ok _ => K s' | .error _ => False) s2) (fun _ _ => False) s1) (fun _ _ => False) s
theorem turn_more (hs : ∀ x, foldedSetIterable iter1 env x = pure x) : TurnBw prog w A env (.DictComp kx vx [⟨tg, iter, ifs, 0⟩, ⟨tg1, iter1, ifs1, 0⟩] scope cpos) 0 acc it tg ifs (bwMore prog w A env (.DictComp kx vx [⟨tg, iter, ifs, 0⟩, ⟨tg1, iter1, ifs1, 0⟩] scope cpos) iter1 acc) := by
  intro R G s h
  show wpAny _ A (do
      standAt iter.pos
      match ← pyNext it with
      | none => pure (.done .next)
      | some v =>
        letOwnedTupleGo tg it v
        assign tg env v
        let mut ok := true
        for c in ifs do
          if ok then ok ← isTrue c env (eval c env)
        if ok then
          let x ← eval iter1 env
          standAt iter1.pos
          let x ← foldedSetIterable iter1 env x
          let _ ← runOwn (.compStart (.DictComp kx vx [⟨tg, iter, ifs, 0⟩, ⟨tg1, iter1, ifs1, 0⟩] scope cpos) 1 (← holding [x] (pyIter x)) acc env) env
        again (.compLoop (.DictComp kx vx [⟨tg, iter, ifs, 0⟩, ⟨tg1, iter1, ifs1, 0⟩] scope cpos) 0 it acc env)) _ _ s
  refine wpAny_bind (wpAny_standAt (wpAny_bind (thn h fun r s1 h1 => ?_)))
  cases r with
  | none => exact wpAny_pure h1
  | some v =>
    refine wpAny_bind (thn h1 fun _ s2 h2 => wpAny_bind (thn h2 fun _ s3 h3 => wpAny_bind (thn h3 fun ok s4 h4 => ?_)))
    cases ok with
    | false => exact wpAny_pure ⟨rfl, h4⟩
    | true =>
      refine wpAny_bind (thn h4 fun x s5 h5 => wpAny_bind (wpAny_standAt (wpAny_bind (wpAny_of_eq (hs x) (wpAny_bind (wpAny_holding (thn h5 fun it1 s6 h6 => ?_)))))))
      refine wpAny_bind (wpAny_runOwn ?_)
      rw [Around.mark_none]
      refine codeAny_mono h6 fun r s' hr => ?_
      cases r with
      | error e => exact hr.elim
      | ok f =>
        first
          | exact wpAny_pure ⟨rfl, hr⟩
          | exact wpAny_bind (wpAny_pure (wpAny_pure ⟨rfl, hr⟩))
/-- the second clause begins -/
theorem start_1 {R : Result → Shared → Prop} {s : Shared} (h : codeAny (model prog w) A (.compLoop (.DictComp kx vx [⟨tg, iter, ifs, 0⟩, ⟨tg1, iter1, ifs1, 0⟩] scope cpos) 1 it acc env) R s)
    (hi : ∀ (Q : Value → Shared → Prop) (E : Value → Shared → Prop), Q it s → wpAny (model prog w) A (pyIter it) Q E s) :
    codeAny (model prog w) A (.compStart (.DictComp kx vx [⟨tg, iter, ifs, 0⟩, ⟨tg1, iter1, ifs1, 0⟩] scope cpos) 1 it acc env) R s := by
  refine codeAny_of_tree ?_
  show wpAny _ _ ((compStart (.DictComp kx vx [⟨tg, iter, ifs, 0⟩, ⟨tg1, iter1, ifs1, 0⟩] scope cpos) 1 it acc env).onRaise (fun x => do noteFrame x env; standAt theWindowsPlace)) _ _ s
  refine wpAny_notedAt ?_
  unfold compStart
  show wpAny _ _ (ask >>= _) _ _ s
  refine wpAny_bind (wpAny_askSetting (wpAny_ite ?_))
  split
  · first
      | exact wpAny_bind (wpAny_pure (wpAny_pure ⟨rfl, h⟩))
      | exact wpAny_pure ⟨rfl, h⟩
  · refine wpAny_bind (wpAny_rule ?_)
    show wpAny _ _ (standAt iter1.pos >>= _) _ _ s
    exact wpAny_bind (wpAny_standAt (wpAny_bind (hi _ _ (wpAny_pure ⟨rfl, h⟩))))
end
/-! ### the bodies by rules -/
def bKV (D : Addr) (tk tv : TE) : L2.St → Hp → (Hp → Prop) → Prop := fun σ H N => tk σ H fun y H1 => tv σ H1 fun z H2 => ∃ H3, DPut H2 D y z H3 ∧ N H3
def bMore (D : Addr) (wi1 : TI) (g1 : TG) (tt1 : TT) (tk tv : TE) (vs1 : List Nat) : L2.St → Hp → (Hp → Prop) → Prop := fun σ H N => wi1 σ H fun J H1 => tCl g1 tt1 (bKV D tk tv) vs1 J σ N H1
theorem pb_KV {Y : Cx} {kx vx : Expr} {tk tv : TE} {D : Addr} (hx : Y.xe = fun _ _ => False) (hu : Y.A.units < cLine) (hk : PE Y kx tk) (hv : PE Y vx tv) : PBw Y (bwKV Y.prog Y.w Y.A Y.env kx vx D) (bKV D tk tv) [] := by
  intro pins s σ H N K I h hK
  have P1 := hk.run pins s σ H _ I h
  rw [hx] at P1
  refine thnF P1 fun kv s1 ⟨y, H1, I1, r1, h1⟩ => ?_
  have P2 := hv.run pins s1 σ H1 _ I1 h1
  rw [hx] at P2
  refine thnF P2 fun vv s2 ⟨z, H2, I2, r2, H3, dp, n⟩ => ?_
  exact dict_put hu I2 dp r1 r2 fun s3 I3 => hK s3 σ H3 I3 rfl (fun _ _ _ z => z) n
theorem pb_more {Y : Cx} {kx vx tg iter tg1 iter1 : Expr} {ifs ifs1 : List Expr} {scope : Scope} {cpos : Pos} {wi1 : TI} {g1 : TG} {tt1 : TT} {tk tv : TE} {vs1 : List Nat} {D : Addr} (hc : Y.calm = true) (hx : Y.xe = fun _ _ => False) (hu : Y.A.units < cLine) (hi1 : PI Y tg1 iter1 wi1) (hg1 : PG Y tg1 g1) (ht1 : PTs Y ifs1 tt1) (hk : PE Y kx tk) (hv : PE Y vx tv) :
    PBw Y (bwMore Y.prog Y.w Y.A Y.env (.DictComp kx vx [⟨tg, iter, ifs, 0⟩, ⟨tg1, iter1, ifs1, 0⟩] scope cpos) iter1 (.ref D)) (bMore D wi1 g1 tt1 tk tv vs1) vs1 := by
  intro pins s σ H N K I h hK
  have P1 := hi1.run pins s σ H _ I h
  rw [hx] at P1
  refine thnF P1 fun x s1 h1 => thnF h1 fun itv s2 ⟨it, fp, tn, J, H2, e, I2, T, st2, f2, spec⟩ => ?_
  subst e
  refine start_1 ?_ fun Q E q => T.self Y.A 0 _ _ _ st2 q
  refine cl_loop hc hx (turn_last (by rfl)) hg1 ht1 (pb_KV hx hu hk hv) (fun _ z => nomatch z) T (fun e I' hn b hb => ⟨hn b hb, (f2 b hb).2⟩) (I2.weak (wipe_length _ _) fun j v e => (wipe_some e).1) st2 (fun b hb => (f2 b hb).1) spec fun s' H' I' n => ?_
  exact hK s' _ H' I' (wipe_length _ _) (fun j v hj e => by rw [wipe_out hj]; exact e) n
/-! ### the whole -/
def tDcG (wi : TI) (g : TG) (tt : TT) (tb : Addr → L2.St → Hp → (Hp → Prop) → Prop) (vs : List Nat) : TE := fun σ H Q => wi σ H fun J H1 => ∀ D, H1 D = none → tCl g tt (tb D) vs J σ (fun H' => Q (.ref D) H') (upd H1 D (.dT []))
theorem dcG_core {X : Cx} {pins : List (Addr × Obj)} {s : Shared} {σ : L2.St} {H : Hp} {Q : VK} {kx vx tg iter : Expr} {ifs : List Expr} {rest : List Comprehension} {scope : Scope} {own : List (Str × Nat)} {pos pos' : Pos} {wi : TI} {g : TG} {tt : TT} {tb : Addr → L2.St → Hp → (Hp → Prop) → Prop} {ws : List Nat} {bw : Env → Addr → (Shared → Prop) → Shared → Prop} {use : Option (Value → Sem Unit)} {Qf : Value → Shared → Prop}
    (hc : X.calm = true) (hN : X.N.Nodup) (I : L2.Inv X pins σ H s) (hi : PI X tg iter wi) (ok : BlkOk X.N X.env.scope scope own) (hws : ∀ i ∈ ws, i ∈ own.map (·.2))
    (hg : ∀ (s : Shared) (H : Hp) (C : Addr) (cl : List (Str × Addr)) (fp : List Addr), PG (X.blk s H scope (compEnvC scope cl C X.env) fp) tg g)
    (ht : ∀ (s : Shared) (H : Hp) (C : Addr) (cl : List (Str × Addr)) (fp : List Addr), PTs (X.blk s H scope (compEnvC scope cl C X.env) fp) ifs tt)
    (hturn : ∀ (C : Addr) (cl : List (Str × Addr)) (D : Addr) (it : Value), TurnBw X.prog X.w X.A (compEnvC scope cl C X.env) (.DictComp kx vx (⟨tg, iter, ifs, 0⟩ :: rest) scope pos) 0 (.ref D) it tg ifs (bw (compEnvC scope cl C X.env) D))
    (hb : ∀ (s : Shared) (H : Hp) (C : Addr) (cl : List (Str × Addr)) (fp : List Addr) (D : Addr), PBw (X.blk s H scope (compEnvC scope cl C X.env) fp) (bw (compEnvC scope cl C X.env) D) (tb D) ws)
    (hs : ∀ x, foldedSetIterable iter X.env x = pure x) (h : tDcG wi g tt tb (own.map (·.2)) σ H Q)
    (hRR : ∀ D C s' m H', L2.Inv X pins σ H' s' → Q (.ref D) H' → s'.heap.Ns C m → FpOk X pins H' C → compPost (model X.prog X.w) X.A X.xe use Qf (.ref D) C (.ok .next) s') :
    wpAny (model X.prog X.w) X.A (comprehension (.DictComp kx vx (⟨tg, iter, ifs, 0⟩ :: rest) scope pos) scope X.env pos' newDict false (eval iter X.env) use) Qf X.xe s := by
  have outer : ∀ y ∈ scope.names, y.2 = .free → ∃ c, X.env.cells.lookup y.1 = some c := by
    intro y hy e
    rcases ok.free y hy e with k | k
    · exact I.ok.has _ (.inl k)
    · exact I.ok.has _ (.inr k)
  refine wpAny_comprehension_free (use := use) rfl hs (closure_ok outer) ok.kind (fun y hy e => (ok.uniq y hy).trans (congrArg some e))
    (thn (hi.run pins s σ H _ I h) fun xv s1 hx => thn hx fun itv s2 ⟨it, fp, tn, J, H2, e, I2, T, st2, f2, q⟩ => ?_)
  subst e
  refine wpAny_newObj_type (newEnv_comp ?_)
  -- the new dict D
  have hDn : H2 s2.heap.objs.size = none := I2.hok.fresh (Nat.le_refl _)
  have spec := q s2.heap.objs.size hDn
  have I3 : L2.Inv X pins σ (upd H2 s2.heap.objs.size (.dT [])) { s2 with heap := s2.heap.push { cls := .type "dict", data := .dict #[] } } :=
    I2.laid (t' := s2.toks) (fun b o e => Heap.get?_push_of_some _ e) (Nat.le_refl _) (dt_empty s2.heap I2.big)
  have small : ∀ b ∈ fp, b < s2.heap.objs.size := by
    intro b hb
    obtain ⟨o, e, _⟩ := T.obj _ _ st2 b hb
    exact Heap.lt_size e
  generalize s2.heap.objs.size = D at hDn spec I3 small ⊢
  obtain ⟨s3, hs3⟩ : ∃ s3 : Shared, s3 = { s2 with heap := s2.heap.push { cls := .type "dict", data := .dict #[] } } := ⟨_, rfl⟩
  obtain ⟨H3, hH3⟩ : ∃ H3 : Hp, H3 = upd H2 D (.dT []) := ⟨_, rfl⟩
  rw [← hs3] at I3
  rw [← hH3] at I3 spec
  have sz3 : s3.heap.objs.size = s2.heap.objs.size + 1 := by rw [hs3]; exact Heap.size_push ..
  have f3 : ∀ b ∈ fp, FpOk X pins H3 b ∧ b < s3.heap.objs.size := by
    intro b hb
    have lt := small b hb
    obtain ⟨o, e, _⟩ := T.obj _ _ st2 b hb
    refine ⟨⟨?_, (f2 b hb).2⟩, by rw [sz3]; exact Nat.lt_succ_of_lt (Heap.lt_size e)⟩
    rw [hH3, upd_ne (Nat.ne_of_lt lt)]
    exact (f2 b hb).1
  have st3 : tn 0 s3.heap := T.keep _ _ _ st2 fun b _ o e => by rw [hs3]; exact Heap.get?_push_of_some _ e
  have I4 := block_start I3 ok hN f3
  obtain ⟨cl, hcl⟩ : ∃ cl, cl = cellsFrom (s3.heap.objs.size + 1) scope.names (cloFrom X.env.cells scope.names []) := ⟨_, rfl⟩
  rw [← hcl] at I4
  have st4 : tn 0 (pushCells (s3.heap.push { cls := .type "dict", data := .dict #[] }) scope.names) := T.keep _ _ _ st3 fun b _ o e => pushCells_keeps _ _ _ _ (Heap.get?_push_of_some _ e)
  have nf3 : ∀ b ∈ fp, H3 b = none := fun b hb => (f3 b hb).1.1
  have loop : codeAny (model X.prog X.w) X.A (.compLoop (.DictComp kx vx (⟨tg, iter, ifs, 0⟩ :: rest) scope pos) 0 (.ref it) (.ref D) (compEnvC scope cl s3.heap.objs.size X.env)) (compPost (model X.prog X.w) X.A X.xe use Qf (.ref D) s3.heap.objs.size) { s3 with heap := pushCells (s3.heap.push { cls := .type "dict", data := .dict #[] }) scope.names } := by
    refine cl_loop (Y := X.blk s3 H3 scope (compEnvC scope cl s3.heap.objs.size X.env) fp) hc rfl (hturn _ _ _ _) (hg s3 H3 _ _ fp) (ht s3 H3 _ _ fp) (hb s3 H3 _ _ fp D) hws T ?_ I4 st4 nf3 spec fun s' H' I' n => ?_
    · intro pl σ' H' s' epl I' hn b hb
      exact ⟨hn b hb, (I'.ok.exf b hb).1, I'.ok.exfs b hb, .inl hb, fun x c e => (I'.ok.exf b hb).2 x c e, fun p hp => absurd (show p ∈ ([] : List (Addr × Obj)) ++ [] from hp) (by simp)⟩
    · -- the def goes on
      have I5 : L2.Inv X pins σ H' s' := I3.call' (ch := fp) I'.os I'.base I'.hok I'.bare fun b hb => by
        obtain ⟨_, a1, a2, a3, a4, a5⟩ := (f3 b hb).1
        exact ⟨a3, a1, a4, a5⟩
      obtain ⟨m, hm, _⟩ := I'.loc
      have nC : H' s3.heap.objs.size = none := I'.free
      exact hRR D _ s' m H' I5 n hm (I3.fpOk (Nat.le_refl _) nC)
  subst hcl hs3
  exact codeAny_compStart_dict loop (T.self X.A 0 _ _ _ st4 loop)

section
variable {X : Cx} {kx vx tg iter : Expr} {ifs : List Expr} {rest : List Comprehension} {scope : Scope} {own : List (Str × Nat)} {pos : Pos} {wi : TI} {g : TG} {tt : TT} {tb : Addr → L2.St → Hp → (Hp → Prop) → Prop} {ws : List Nat} {bw : Env → Addr → (Shared → Prop) → Shared → Prop}
    (hc : X.calm = true) (hN : X.N.Nodup) (hi : PI X tg iter wi) (ok : BlkOk X.N X.env.scope scope own) (hws : ∀ i ∈ ws, i ∈ own.map (·.2))
    (hg : ∀ (s : Shared) (H : Hp) (C : Addr) (cl : List (Str × Addr)) (fp : List Addr), PG (X.blk s H scope (compEnvC scope cl C X.env) fp) tg g)
    (ht : ∀ (s : Shared) (H : Hp) (C : Addr) (cl : List (Str × Addr)) (fp : List Addr), PTs (X.blk s H scope (compEnvC scope cl C X.env) fp) ifs tt)
    (hturn : ∀ (C : Addr) (cl : List (Str × Addr)) (D : Addr) (it : Value), TurnBw X.prog X.w X.A (compEnvC scope cl C X.env) (.DictComp kx vx (⟨tg, iter, ifs, 0⟩ :: rest) scope pos) 0 (.ref D) it tg ifs (bw (compEnvC scope cl C X.env) D))
    (hb : ∀ (s : Shared) (H : Hp) (C : Addr) (cl : List (Str × Addr)) (fp : List Addr) (D : Addr), PBw (X.blk s H scope (compEnvC scope cl C X.env) fp) (bw (compEnvC scope cl C X.env) D) (tb D) ws)
include hc hN hi ok hws hg ht hturn hb
theorem pe_dcG (hs : ∀ x, foldedSetIterable iter X.env x = pure x) : PE X (.DictComp kx vx (⟨tg, iter, ifs, 0⟩ :: rest) scope pos) (tDcG wi g tt tb (own.map (·.2))) := by
  refine ⟨fun pins s σ H Q I h => ?_⟩
  rw [arm_eval_DictComp]
  refine dcG_core hc hN I hi ok hws hg ht hturn hb hs h fun D C s' m H' I' n hm f => ⟨m, hm, fun h'' sb => ?_⟩
  obtain ⟨f0, f1, _, f4, f5, f6⟩ := f
  exact ⟨.ref D, H', I'.turned (t' := s'.toks) (fun b o hb e => (sb.2 b hb).trans e) f0 f1 f4 f5 f6, rfl, n⟩
theorem ps_setDcG {i : Nat} {y : Str} {py spos : Pos} (hy : X.N[i]? = some y) (hyl : X.env.scope.names.lookup y = some .local) (hsw : swapsWith (.DictComp kx vx (⟨tg, iter, ifs, 0⟩ :: rest) scope pos) (some (.Name y py)) spos.line X.env = pure true) (hs : ∀ x, foldedSetIterable iter X.env x = pure x) :
    PS X (.Assign [.Name y py] (.DictComp kx vx (⟨tg, iter, ifs, 0⟩ :: rest) scope pos) spos) (tAsg (tDcG wi g tt tb (own.map (·.2))) (gName i)) := by
  refine ⟨fun pins s σ H D I h => ?_⟩
  rw [exec_Assign_Name_used _ _ _ _ hsw, arm_evalThenUse_DictComp]
  refine wpAny_bind (wpAny_standAt (wpAny_bind ?_))
  have h : tDcG wi g tt tb (own.map (·.2)) σ H (fun x H1 => gName i x σ H1 D.nx) := h
  refine wpAny_bind (thn (dcG_core (use := some (assign (.Name y py) X.env)) (Qf := fun _ s' => SP X pins D .next s') hc hN I hi ok hws hg ht hturn hb hs h fun L C s' m H' I' q hn f => ?_) fun _ s' hq => wpAny_pure (wpAny_pure hq))
  show wpAny _ _ (assign (.Name y py) X.env (.ref L)) _ _ _
  refine wpAny_assign_Name (store_ok2 (v := V.ref L) I' hN hy (.inl hyl) rfl (fun s2 I2 ⟨a, sb, ha⟩ => ?_) (.inr hyl))
  obtain ⟨f0, f1, _, f4, f5, f6⟩ := f
  have ne : C ≠ a := by
    rcases ha with z | z
    · rw [z]; exact f1
    · exact fun e => f5 y a z e.symm
  refine ⟨m, hn.sameBut sb ne, fun h3 sb3 => ?_⟩
  exact ⟨_, H', I2.turned (t' := s2.toks) (fun b o hb e => (sb3.2 b hb).trans e) f0 f1 f4 f5 f6, q⟩
end
end Pv
set_option maxRecDepth 100000
set_option maxHeartbeats 4000000
/-! Pv2: dict comprehensions whose keys are tuples, what they give. -/
namespace Pv
open PySem PySem.Spec L2

def tkD : PyData → Option (List Key)
  | .tuple xs => keysOf xs
  | _ => none
def putD (es : List (List Key × PyData)) (k y : PyData) : Option (List (List Key × PyData)) := match tkD k with
  | some ks => if es.length < 16777216 then some (putKD es ks y) else none
  | none => none
def dcL (tg : GF) (tt : TF) (fk fv : EF) (vs : List Nat) : List PyData → Rho → List (List Key × PyData) → Out (List (List Key × PyData))
  | [], ρ, es => .ok es ρ
  | d :: ds, ρ, es => match tg d ρ with
    | none => .bad
    | some ρ1 => (noEx (tt ρ1)).bind fun b ρ2 => if b = true then bindF (noEx (fk ρ2)) fun k ρ3 => bindF (noEx (fv ρ3)) fun y ρ4 => (match putD es k y, wipeR vs ρ4 with
        | some es', some ρ5 => dcL tg tt fk fv vs ds ρ5 es'
        | _, _ => .bad) else (match wipeR vs ρ2 with
        | some ρ4 => dcL tg tt fk fv vs ds ρ4 es
        | none => .bad)
def fDc (fi : IF) (tg : GF) (tt : TF) (fk fv : EF) (vs : List Nat) : EF := fun ρ => (fi ρ).bind fun ds ρ1 => match wipeR vs ρ1 with
  | some ρ2 => (match dcL tg tt fk fv vs ds ρ2 [] with
    | .ok es ρ3 => .ok (.own (.dT es)) ρ3
    | _ => .bad)
  | none => .bad
def dc2L (tg : GF) (tt : TF) (fi1 : IF) (tg1 : GF) (tt1 : TF) (fk fv : EF) (vs vs1 : List Nat) : List PyData → Rho → List (List Key × PyData) → Out (List (List Key × PyData))
  | [], ρ, es => .ok es ρ
  | d :: ds, ρ, es => match tg d ρ with
    | none => .bad
    | some ρ1 => (noEx (tt ρ1)).bind fun b ρ2 => if b = true then (noEx (fi1 ρ2)).bind fun ds1 ρ3 => (match wipeR vs1 ρ3 with
        | none => .bad
        | some ρ4 => (noEx (dcL tg1 tt1 fk fv vs1 ds1 ρ4 es)).bind fun es' ρ5 => (match wipeR vs ρ5 with
          | some ρ6 => dc2L tg tt fi1 tg1 tt1 fk fv vs vs1 ds ρ6 es'
          | none => .bad)) else (match wipeR vs ρ2 with
        | some ρ4 => dc2L tg tt fi1 tg1 tt1 fk fv vs vs1 ds ρ4 es
        | none => .bad)
def fDc2 (fi : IF) (tg : GF) (tt : TF) (fi1 : IF) (tg1 : GF) (tt1 : TF) (fk fv : EF) (vs vs1 : List Nat) : EF := fun ρ => (fi ρ).bind fun ds ρ1 => match wipeR vs ρ1 with
  | some ρ2 => (match dc2L tg tt fi1 tg1 tt1 fk fv vs vs1 ds ρ2 [] with
    | .ok es ρ3 => .ok (.own (.dT es)) ρ3
    | _ => .bad)
  | none => .bad
section
variable {F : Fx} {D : Addr} {S S1 : AS} {H H1 : Hp} {σ σ3 : L2.St} {ρ ρ1 ρ3 : Rho} {vs : List Nat} {es : List (List Key × PyData)} {T : AS}
/-- the dict in the making, as it goes from state to state -/
structure Mk (F : Fx) (D : Addr) (es : List (List Key × PyData)) (S : AS) (H : Hp) (σ : L2.St) (ρ : Rho) : Prop where
  er : ER F S H σ ρ
  tmp : RR F S H σ ρ (.ref D) (.own (.dT es))
theorem Mk.sD (m : Mk F D es S H σ ρ) : S D := by
  obtain ⟨a, e, s, _⟩ := m.tmp
  cases e; exact s
theorem Mk.fD (m : Mk F D es S H σ ρ) : F.H0 D = none := by
  obtain ⟨a, e, _, f, _⟩ := m.tmp
  cases e; exact f
theorem Mk.go (m : Mk F D es S H σ ρ) (t : Tr S H σ ρ S1 H1 ρ1) (er : ER F S1 H1 σ ρ1) : Mk F D es S1 H1 σ ρ1 := ⟨er, m.tmp.tr m.er t (er.len.trans m.er.len.symm)⟩
theorem Mk.grow (m : Mk F D es S H σ ρ) (same : ∀ b o, H b = some o → H1 b = some o) : Mk F D es S H1 σ ρ := by
  have tG : TrD D S H σ ρ S H1 ρ := .grow same
  obtain ⟨a, e, s, f, ok, n⟩ := m.tmp
  exact ⟨m.er.grow same (fun _ z => .inl z) (fun _ z => z) fun a z => tG.stay a (m.er.dom a z), a, e, s, f, ok.mono (fun b o _ e _ => same b o e) (fun _ z => .inl z) (fun o _ => same a o), n⟩
theorem Mk.asg {is : List Nat} (m : Mk F D es S H (wipe σ vs) ρ) (as : Asg is (wipe σ vs) ρ σ3 ρ3) (er : ER F S H σ3 ρ3) : Mk F D es S H σ3 ρ3 := by
  obtain ⟨a, e, s, f, ok, n⟩ := m.tmp
  exact ⟨er, a, e, s, f, ok, fun i z => n i (as.mu i a z)⟩
/-- the own names forgotten -/
theorem Mk.wiped (m : Mk F D es S H σ3 ρ) (w : wipeR vs ρ = some ρ1) : Mk F D es S H (wipe σ3 vs) ρ1 ∧ NoAt vs ρ1 ∧ (∀ i a, MutAt (wipe σ3 vs) ρ1 i a → MutAt σ3 ρ i a) := by
  obtain ⟨er, no, mu, _⟩ := wipeR_ok m.er w
  obtain ⟨a, e, s, f, ok, n⟩ := m.tmp
  exact ⟨⟨er, a, e, s, f, ok, fun i z => n i (mu i a z)⟩, no, mu⟩
theorem Mk.unwiped (m : Mk F D es S H (wipe σ vs) ρ) (no : NoAt vs ρ) : Mk F D es S H σ ρ := by
  obtain ⟨a, e, s, f, ok, n⟩ := m.tmp
  exact ⟨m.er.unwipe no, a, e, s, f, ok, fun j z => n j ((mut_wipe no).mpr z)⟩
/-- one more pair -/
theorem Mk.put {k y : PyData} {kv v : V} {es' : List (List Key × PyData)} (m : Mk F D es S H σ ρ) (fok : F.Ok T) (hk : Rp F.K S H kv k) (hv : Rp F.K S H v y) (e : putD es k y = some es') :
    ∃ H2, DPut H D kv v H2 ∧ Mk F D es' S H2 σ ρ ∧ TrD D S H σ ρ S H2 ρ := by
  unfold putD at e
  cases k with
  | tuple xs =>
    cases q : keysOf xs with
    | none => simp [tkD, q] at e
    | some ks =>
      simp only [tkD, q] at e
      by_cases hz : es.length < 16777216
      · rw [if_pos hz] at e
        cases e
        have e2 := keysOf_kD q
        subst e2
        obtain ⟨a, ea, sD, fD, ⟨kvs, eh, hks, hr⟩, nD⟩ := m.tmp
        cases ea
        cases hk with
        | tup nb hb hs =>
          rw [rp_kDs hs] at hb
          have hl : kvs.length = es.length := by have := congrArg List.length hks; simpa using this
          obtain ⟨p1, p2⟩ := putKD_rp (k := ks) hv hks hr
          have nt : ∀ ps, H D ≠ some (.tbl ps) := fun ps z => by rw [eh] at z; cases z
          have off : ∀ b o', NT o' → H b = some o' → ¬ S b → upd H D (.dT (putK kvs ks v)) b = some o' := fun b o' _ e nn => by
            rw [upd_ne fun z => nn (by rw [z]; exact sD)]
            exact e
          refine ⟨upd H D (.dT (putK kvs ks v)), .t eh hb (by rw [hl, sizeLine_eq]; exact hz), ⟨m.er.wTemp sD fD nD nt, D, rfl, sD, fD, ⟨putK kvs ks v, upd_same, p1, p2.mono off fun _ z => .inl z⟩, nD⟩, ?_⟩
          exact ⟨fun b ob _ nb e _ => by rw [upd_ne nb]; exact e, (fun b ⟨ps, e, t⟩ => ⟨ps, by rw [upd_ne fun z => nt ps (by rw [← z]; exact e)]; exact e, t⟩), fun _ z => .inl z, fun _ z _ => z, fun _ _ z => z, fun b hb => by
            unfold upd
            split
            · exact fun z => nomatch z
            · exact hb⟩
      · rw [if_neg hz] at e
        cases e
  | _ => simp [tkD] at e
end
section
variable {X : Cx} {tg kx vx : Expr} {ifs : List Expr} {t : TG} {gt : GF} {is vs : List Nat} {tt : TT} {ft : TF} {tk tv : TE} {fk fv : EF} {T : AS}
/-- from the end of a turn's tests to a later state -/
theorem turn_trD {D : Addr} {S' S5 : AS} {H' H'' H5 : Hp} {σ σ3 : L2.St} {ρ' ρ3 ρ5 ρ6 : Rho} {is : List Nat} (same : ∀ b o, H' b = some o → H'' b = some o) (as : Asg is (wipe σ vs) ρ' σ3 ρ3) (t5 : TrD D S' H'' σ3 ρ3 S5 H5 ρ5) (mu6 : ∀ i a, MutAt (wipe σ vs) ρ6 i a → MutAt σ3 ρ5 i a) :
    TrD D S' H' (wipe σ vs) ρ' S5 H5 ρ6 := (TrD.grow same).trans (t5.slots as.mu mu6)
theorem dc_loop (hg : SG X tg t gt is) (ht : STs X (W0 T) ifs tt ft) (hk : SE X (W0 T) kx tk fk) (hv : SE X (W0 T) vx tv fv) (hi : ∀ i ∈ is, i ∈ vs) {F : Fx} {S : AS} {H : Hp} {σ : L2.St} {ρ ρe : Rho} {D : Addr} {es ee : List (List Key × PyData)} {ds : List PyData} {J : It} {En : Hp → Prop} (hK : F.K = X.K) (fok : F.Ok T)
    (m : Mk F D es S H (wipe σ vs) ρ) (no : NoAt vs ρ) (it : ItR F.K S H J ds) (ok : dcL gt ft fk fv vs ds ρ es = .ok ee ρe)
    (fin : ∀ S' H', TrD D S H (wipe σ vs) ρ S' H' ρe → Mk F D ee S' H' (wipe σ vs) ρe → NoAt vs ρe → En H') :
    tCl t tt (bKV D tk tv) vs J σ En H := by
  refine ⟨fun i n H' => ∃ S' ρ' es', n = ds.length - i ∧ i ≤ ds.length ∧ TrD D S H (wipe σ vs) ρ S' H' ρ' ∧ Mk F D es' S' H' (wipe σ vs) ρ' ∧ NoAt vs ρ' ∧ dcL gt ft fk fv vs (ds.drop i) ρ' es' = .ok ee ρe,
    ⟨ds.length, S, ρ, es, by simp, Nat.zero_le _, .refl, m, no, ok⟩, ?_⟩
  rintro i n H' ⟨S', ρ', es', rfl, hle, tS, m', no', ok'⟩
  obtain ⟨itgo, itstop⟩ := it S' H' (tS.s m.er m.sD) m'.er.dom
  by_cases hlt : i < ds.length
  · obtain ⟨hgo, hy⟩ := itgo i hlt
    refine .inr ⟨hgo, fun H'' => ∃ S' ρ' es', TrD D S H (wipe σ vs) ρ S' H'' ρ' ∧ Mk F D es' S' H'' (wipe σ vs) ρ' ∧ NoAt vs ρ' ∧ dcL gt ft fk fv vs (ds.drop (i + 1)) ρ' es' = .ok ee ρe,
      fun H'' ⟨S2, ρ2, o2, b1, b2, b3, b4⟩ => ⟨ds.length - (i + 1), by omega, S2, ρ2, o2, rfl, hlt, b1, b2, b3, b4⟩, fun x H'' y => ?_⟩
    obtain ⟨d, ed, same, rp⟩ := hy x H'' y
    have m3 := m'.grow same
    have ed' : ds.drop i = d :: ds.drop (i + 1) := by
      rw [List.drop_eq_getElem_cons hlt]
      congr 1
      rw [List.getElem?_eq_getElem hlt] at ed
      exact Option.some.inj ed
    rw [ed'] at ok'
    unfold dcL at ok'
    cases w : gt d ρ' with
    | none => simp only [w] at ok'; cases ok'
    | some ρ3 =>
      simp only [w] at ok'
      refine hg.sn F S' H'' (wipe σ vs) ρ' ρ3 x d _ hK fok.nil m3.er rp w fun σ3 as er4 => ?_
      have hwp : wipe σ3 vs = wipe σ vs := wipe_asg as hi
      refine ⟨hwp, ?_⟩
      have m4 := m3.asg as er4
      refine ht.sn F S' H'' σ3 ρ3 _ hK fok er4 (noEx_T (k := fun b ρ2 => if b = true then bindF (noEx (fk ρ2)) fun k ρ3 => bindF (noEx (fv ρ3)) fun y ρ4 => (match putD es' k y, wipeR vs ρ4 with
        | some es', some ρ5 => dcL gt ft fk fv vs (ds.drop (i + 1)) ρ5 es'
        | _, _ => .bad) else (match wipeR vs ρ2 with
        | some ρ4 => dcL gt ft fk fv vs (ds.drop (i + 1)) ρ4 es'
        | none => .bad)) (fun z => by have zz := z.symm.trans ok'; cases zz) fun b ρ4 S4 H4 eb t4 er5 => ?_)
      rw [eb] at ok'
      simp only [noEx, Out.bind] at ok'
      have m5 := m4.go t4 er5
      cases b with
      | false =>
        refine iteF ?_
        rw [if_neg Bool.false_ne_true] at ok'
        cases w6 : wipeR vs ρ4 with
        | none => simp only [w6] at ok'; cases ok'
        | some ρ6 =>
          simp only [w6] at ok'
          obtain ⟨m6, no6, mu6⟩ := m5.wiped w6
          rw [hwp] at m6 mu6
          exact ⟨S4, ρ6, es', tS.trans (turn_trD same as t4.d mu6), m6, no6, ok'⟩
      | true =>
        refine iteT ?_
        rw [if_pos rfl] at ok'
        refine noEx_E hk hK fok er5 (k := fun k ρ3 => bindF (noEx (fv ρ3)) fun y ρ4 => (match putD es' k y, wipeR vs ρ4 with
          | some es', some ρ5 => dcL gt ft fk fv vs (ds.drop (i + 1)) ρ5 es'
          | _, _ => .bad)) (fun z => by have zz := z.symm.trans ok'; cases zz) fun kd ρ5 kv S5 H5 ek t5 er6 rpk => ?_
        have ok2 := ek.symm.trans ok'
        refine noEx_E hv hK fok er6 (k := fun y ρ4 => (match putD es' kd y, wipeR vs ρ4 with
          | some es', some ρ5 => dcL gt ft fk fv vs (ds.drop (i + 1)) ρ5 es'
          | _, _ => .bad)) (fun z => by have zz := z.symm.trans ok2; cases zz) fun yd ρ6 v S6 H6 ey t6 er7 rpv => ?_
        have ok3 := ey.symm.trans ok2
        cases qp : putD es' kd yd with
        | none => simp only [qp] at ok3; cases ok3
        | some es2 =>
          cases w7 : wipeR vs ρ6 with
          | none => simp only [qp, w7] at ok3; cases ok3
          | some ρ7 =>
            simp only [qp, w7] at ok3
            have m7 := (m5.go t5 er6).go t6 er7
            obtain ⟨H8, dp, m8, t8⟩ := m7.put fok (rpk.tr er6 t6) rpv qp
            obtain ⟨m9, no9, mu9⟩ := m8.wiped w7
            rw [hwp] at m9 mu9
            exact ⟨H8, dp, S6, ρ7, es2, tS.trans (turn_trD same as (((t4.d.trans t5.d).trans t6.d).trans t8) mu9), m9, no9, ok3⟩
  · have e : i = ds.length := by omega
    subst e
    rw [List.drop_length] at ok'
    have ok' : Out.ok es' ρ' = .ok ee ρe := ok'
    cases ok'
    exact .inl ⟨itstop _ (Nat.le_refl _), fin S' H' tS m' no'⟩
end
/-- a dict comprehension for a name of the def's own is stored by itself -/
theorem sw_trueD {kx vx : Expr} {gs : List Comprehension} {scope : Scope} {pos py : Pos} {y : Str} {l : Nat} {env : Env} (hk : env.scope.kind = .function) (hy : env.scope.names.lookup y = some .local) (hl : (py.line == pos.line) = true)
    (ha : (scope.names.any fun (n, k) => n == y && (k == .local || k == .cell)) = false) : swapsWith (.DictComp kx vx gs scope pos) (some (.Name y py)) l env = pure true := by
  have bk : env.blockKind = .function := by unfold Env.blockKind; rw [hk]; rfl
  have ko : env.kindOf y = some .local := hy
  unfold swapsWith
  simp only [bk, ko, ha, Expr.pos, hl]
  rfl
/-! ### one clause -/
structure BlkD (X : Cx) (scope : Scope) (tg : Expr) (ifs : List Expr) (kx vx : Expr) (t : TG) (gt : GF) (is : List Nat) (tt : TT) (ft : TF) (tk : TE) (fk : EF) (tv : TE) (fv : EF) (T : AS) : Prop where
  g : ∀ (s : Shared) (H : Hp) (C : Addr) (cl : List (Str × Addr)) (fp : List Addr), SG (X.blk s H scope (compEnvC scope cl C X.env) fp) tg t gt is
  t : ∀ (s : Shared) (H : Hp) (C : Addr) (cl : List (Str × Addr)) (fp : List Addr), STs (X.blk s H scope (compEnvC scope cl C X.env) fp) (W0 T) ifs tt ft
  k : ∀ (s : Shared) (H : Hp) (C : Addr) (cl : List (Str × Addr)) (fp : List Addr), SE (X.blk s H scope (compEnvC scope cl C X.env) fp) (W0 T) kx tk fk
  v : ∀ (s : Shared) (H : Hp) (C : Addr) (cl : List (Str × Addr)) (fp : List Addr), SE (X.blk s H scope (compEnvC scope cl C X.env) fp) (W0 T) vx tv fv
section
variable {X : Cx} {W : Wx} {tg iter kx vx tg1 iter1 : Expr} {ifs ifs1 : List Expr} {scope : Scope} {own : List (Str × Nat)} {pos : Pos} {wi wi1 : TI} {t t1 : TG} {tt tt1 : TT} {tk tv : TE} {fi fi1 : IF} {gt gt1 : GF} {ft ft1 : TF} {fk fv : EF} {is is1 vs vs1 : List Nat}
/-- the dict begins -/
theorem mk_new {F : Fx} {S1 : AS} {H1 : Hp} {σ : L2.St} {ρ2 : Rho} {D : Addr} (er2 : ER F S1 H1 (wipe σ vs) ρ2) (fD : F.H0 D = none) (hD : H1 D = none) : Mk F D [] (fun a => S1 a ∨ a = D) (upd H1 D (.dT [])) (wipe σ vs) ρ2 :=
  ⟨er2.allocS hD, D, rfl, .inr rfl, fD, ⟨[], upd_same, rfl, .nil⟩, fun i z => er2.dom D (er2.mutS z) hD⟩
theorem sn_dcG {tb : Addr → L2.St → Hp → (Hp → Prop) → Prop} {run : List PyData → Rho → Out (List (List Key × PyData))} (hi : SI X W tg iter wi fi)
    (go : ∀ (F : Fx) (S : AS) (H : Hp) (σ : L2.St) (ρ ρe : Rho) (D : Addr) (ee : List (List Key × PyData)) (ds : List PyData) (J : It) (En : Hp → Prop), F.K = X.K → F.Ok W.T → Mk F D [] S H (wipe σ vs) ρ → NoAt vs ρ → ItR F.K S H J ds → run ds ρ = .ok ee ρe →
      (∀ S' H', TrD D S H (wipe σ vs) ρ S' H' ρe → Mk F D ee S' H' (wipe σ vs) ρe → NoAt vs ρe → En H') → tCl t tt (tb D) vs J σ En H) :
    ∀ (F : Fx) (S : AS) (H : Hp) (σ : L2.St) (ρ : Rho) (Q : VK), F.K = X.K → F.Ok W.T → ER F S H σ ρ → PostE F W S H σ ρ ((fi ρ).bind fun ds ρ1 => match wipeR vs ρ1 with
      | some ρ2 => (match run ds ρ2 with
        | .ok es ρ3 => .ok (.own (.dT es)) ρ3
        | _ => .bad)
      | none => .bad) Q → tDcG wi t tt tb vs σ H Q := by
  intro F S H σ ρ Q hK fok er hp
  refine hi.sn F S H σ ρ _ hK fok er ?_
  cases q : fi ρ with
  | ex x ρ1 => rw [q] at hp; exact hp
  | bad => rw [q] at hp; exact hp
  | ok ds ρ1 =>
    rw [q] at hp
    intro J S1 H1 t1 er1 it D hD
    have hp : PostE F W S H σ ρ (match wipeR vs ρ1 with
      | some ρ2 => (match run ds ρ2 with
        | .ok es ρ3 => .ok (.own (.dT es)) ρ3
        | _ => .bad)
      | none => .bad) Q := hp
    cases qw : wipeR vs ρ1 with
    | none => simp only [qw] at hp; exact hp.elim
    | some ρ2 =>
      simp only [qw] at hp
      cases qd : run ds ρ2 with
      | ex x ρ3 => simp only [qd] at hp; exact hp.elim
      | bad => simp only [qd] at hp; exact hp.elim
      | ok ee ρe =>
        simp only [qd] at hp
        obtain ⟨er2, no2, mu2, l2⟩ := wipeR_ok er1 qw
        have fD : F.H0 D = none := er1.new0 fok hD
        have hDS : H D = none := by
          cases w : H D with
          | none => rfl
          | some o => exact absurd hD (t1.stay D (by rw [w]; exact fun z => nomatch z))
        have ta : Tr S1 H1 σ ρ1 S1 H1 ρ2 := ⟨fun _ _ _ e _ => e, fun _ z => z, fun _ z => .inl z, fun _ z _ => z, fun i a z => mu2 i a ((mut_wipe no2).mpr z), fun _ z => z⟩
        have sS : Tr S H σ ρ (fun a => S1 a ∨ a = D) (upd H1 D (.dT [])) ρ2 := (t1.trans er ta).trans er (Tr.allocS hD)
        have sI : TrS S1 H1 (fun a => S1 a ∨ a = D) (upd H1 D (.dT [])) := Tr.s er2 (Tr.allocS (σ := wipe σ vs) (ρ := ρ2) hD)
        refine go F _ _ σ ρ2 ρe D ee ds J _ hK fok (mk_new er2 fD hD) no2 (fun S' H' t dom => it S' H' (sI.trans t) dom) qd fun S' H' tD mk no => ?_
        have mk2 := mk.unwiped no
        exact hp (.ref D) S' H' (sS.transD (tD.slots (fun i a z => (mut_wipe no2).mp z) fun i a z => (mut_wipe no).mpr z) hDS) mk2.er mk2.tmp fun a e => by cases e; exact hDS
theorem se_dc (hc : X.calm = true) (hu : X.A.units < cLine) (hN : X.N.Nodup) (hi : SI X W tg iter wi fi) (ok : BlkOk X.N X.env.scope scope own) (B : BlkD X scope tg ifs kx vx t gt is tt ft tk fk tv fv W.T) (hv : ∀ i ∈ is, i ∈ own.map (·.2)) (hs : ∀ x, foldedSetIterable iter X.env x = pure x := by intro _; rfl) :
    SE X W (.DictComp kx vx [⟨tg, iter, ifs, 0⟩] scope pos) (tDcG wi t tt (fun D => bKV D tk tv) (own.map (·.2))) (fDc fi gt ft fk fv (own.map (·.2))) :=
  ⟨pe_dcG (ws := []) (bw := fun env D => bwKV X.prog X.w X.A env kx vx D) hc hN hi.pi ok (fun _ z => nomatch z) (fun s H C cl fp => (B.g s H C cl fp).pg) (fun s H C cl fp => (B.t s H C cl fp).pt) (fun C cl D it => turn_last (by rfl)) (fun s H C cl fp D => pb_KV (Y := X.blk s H scope (compEnvC scope cl C X.env) fp) rfl hu (B.k s H C cl fp).pe (B.v s H C cl fp).pe) hs,
    sn_dcG (run := fun ds ρ => dcL gt ft fk fv (List.map (fun x : Str × Nat => x.2) own) ds ρ []) hi fun F S H σ ρ ρe D ee ds J En hK fok m no it okd fin =>
      dc_loop (B.g ({} : Shared) (fun _ => none) (0 : Nat) [] []) (B.t ({} : Shared) (fun _ => none) (0 : Nat) [] []) (B.k ({} : Shared) (fun _ => none) (0 : Nat) [] []) (B.v ({} : Shared) (fun _ => none) (0 : Nat) [] []) hv hK fok m no it okd fin⟩
theorem ss_setDc {i : Nat} {y : Str} {py spos : Pos} (hc : X.calm = true) (hu : X.A.units < cLine) (hN : X.N.Nodup) (hy : X.N[i]? = some y) (hyl : X.env.scope.names.lookup y = some .local)
    (hsw : swapsWith (.DictComp kx vx [⟨tg, iter, ifs, 0⟩] scope pos) (some (.Name y py)) spos.line X.env = pure true) (hi : SI X W tg iter wi fi) (ok : BlkOk X.N X.env.scope scope own) (B : BlkD X scope tg ifs kx vx t gt is tt ft tk fk tv fv W.T) (hv : ∀ i ∈ is, i ∈ own.map (·.2)) (hs : ∀ x, foldedSetIterable iter X.env x = pure x := by intro _; rfl) :
    SS X W (.Assign [.Name y py] (.DictComp kx vx [⟨tg, iter, ifs, 0⟩] scope pos) spos) (tAsg (tDcG wi t tt (fun D => bKV D tk tv) (own.map (·.2))) (gName i)) (gSet i (fDc fi gt ft fk fv (own.map (·.2)))) :=
  ⟨ps_setDcG (ws := []) (bw := fun env D => bwKV X.prog X.w X.A env kx vx D) hc hN hi.pi ok (fun _ z => nomatch z) (fun s H C cl fp => (B.g s H C cl fp).pg) (fun s H C cl fp => (B.t s H C cl fp).pt) (fun C cl D it => turn_last (by rfl)) (fun s H C cl fp D => pb_KV (Y := X.blk s H scope (compEnvC scope cl C X.env) fp) rfl hu (B.k s H C cl fp).pe (B.v s H C cl fp).pe) hy hyl hsw hs,
    sn_set (sn_dcG (run := fun ds ρ => dcL gt ft fk fv (List.map (fun x : Str × Nat => x.2) own) ds ρ []) hi fun F S H σ ρ ρe D ee ds J En hK fok m no it okd fin =>
      dc_loop (B.g ({} : Shared) (fun _ => none) (0 : Nat) [] []) (B.t ({} : Shared) (fun _ => none) (0 : Nat) [] []) (B.k ({} : Shared) (fun _ => none) (0 : Nat) [] []) (B.v ({} : Shared) (fun _ => none) (0 : Nat) [] []) hv hK fok m no it okd fin)⟩
/-! ### two clauses -/
structure BlkD2 (X : Cx) (scope : Scope) (tg : Expr) (ifs : List Expr) (tg1 iter1 : Expr) (ifs1 : List Expr) (kx vx : Expr) (t : TG) (gt : GF) (is : List Nat) (tt : TT) (ft : TF) (wi1 : TI) (fi1 : IF) (t1 : TG) (gt1 : GF) (is1 : List Nat) (tt1 : TT) (ft1 : TF) (tk : TE) (fk : EF) (tv : TE) (fv : EF) (T : AS) : Prop where
  g : ∀ (s : Shared) (H : Hp) (C : Addr) (cl : List (Str × Addr)) (fp : List Addr), SG (X.blk s H scope (compEnvC scope cl C X.env) fp) tg t gt is
  t : ∀ (s : Shared) (H : Hp) (C : Addr) (cl : List (Str × Addr)) (fp : List Addr), STs (X.blk s H scope (compEnvC scope cl C X.env) fp) (W0 T) ifs tt ft
  i1 : ∀ (s : Shared) (H : Hp) (C : Addr) (cl : List (Str × Addr)) (fp : List Addr), SI (X.blk s H scope (compEnvC scope cl C X.env) fp) (W0 T) tg1 iter1 wi1 fi1
  g1 : ∀ (s : Shared) (H : Hp) (C : Addr) (cl : List (Str × Addr)) (fp : List Addr), SG (X.blk s H scope (compEnvC scope cl C X.env) fp) tg1 t1 gt1 is1
  t1 : ∀ (s : Shared) (H : Hp) (C : Addr) (cl : List (Str × Addr)) (fp : List Addr), STs (X.blk s H scope (compEnvC scope cl C X.env) fp) (W0 T) ifs1 tt1 ft1
  k : ∀ (s : Shared) (H : Hp) (C : Addr) (cl : List (Str × Addr)) (fp : List Addr), SE (X.blk s H scope (compEnvC scope cl C X.env) fp) (W0 T) kx tk fk
  v : ∀ (s : Shared) (H : Hp) (C : Addr) (cl : List (Str × Addr)) (fp : List Addr), SE (X.blk s H scope (compEnvC scope cl C X.env) fp) (W0 T) vx tv fv
theorem dc2_loop (B : BlkD2 X scope tg ifs tg1 iter1 ifs1 kx vx t gt is tt ft wi1 fi1 t1 gt1 is1 tt1 ft1 tk fk tv fv W.T) (hi : ∀ i ∈ is, i ∈ vs) (hi1 : ∀ i ∈ is1, i ∈ vs1) {F : Fx} {S : AS} {H : Hp} {σ : L2.St} {ρ ρe : Rho} {D : Addr} {es ee : List (List Key × PyData)} {ds : List PyData} {J : It} {En : Hp → Prop} (hK : F.K = X.K) (fok : F.Ok W.T)
    (m : Mk F D es S H (wipe σ vs) ρ) (no : NoAt vs ρ) (it : ItR F.K S H J ds) (ok : dc2L gt ft fi1 gt1 ft1 fk fv vs vs1 ds ρ es = .ok ee ρe)
    (fin : ∀ S' H', TrD D S H (wipe σ vs) ρ S' H' ρe → Mk F D ee S' H' (wipe σ vs) ρe → NoAt vs ρe → En H') :
    tCl t tt (bMore D wi1 t1 tt1 tk tv vs1) vs J σ En H := by
  refine ⟨fun i n H' => ∃ S' ρ' es', n = ds.length - i ∧ i ≤ ds.length ∧ TrD D S H (wipe σ vs) ρ S' H' ρ' ∧ Mk F D es' S' H' (wipe σ vs) ρ' ∧ NoAt vs ρ' ∧ dc2L gt ft fi1 gt1 ft1 fk fv vs vs1 (ds.drop i) ρ' es' = .ok ee ρe,
    ⟨ds.length, S, ρ, es, by simp, Nat.zero_le _, .refl, m, no, ok⟩, ?_⟩
  rintro i n H' ⟨S', ρ', es', rfl, hle, tS, m', no', ok'⟩
  obtain ⟨itgo, itstop⟩ := it S' H' (tS.s m.er m.sD) m'.er.dom
  by_cases hlt : i < ds.length
  · obtain ⟨hgo, hy⟩ := itgo i hlt
    refine .inr ⟨hgo, fun H'' => ∃ S' ρ' es', TrD D S H (wipe σ vs) ρ S' H'' ρ' ∧ Mk F D es' S' H'' (wipe σ vs) ρ' ∧ NoAt vs ρ' ∧ dc2L gt ft fi1 gt1 ft1 fk fv vs vs1 (ds.drop (i + 1)) ρ' es' = .ok ee ρe,
      fun H'' ⟨S2, ρ2, o2, b1, b2, b3, b4⟩ => ⟨ds.length - (i + 1), by omega, S2, ρ2, o2, rfl, hlt, b1, b2, b3, b4⟩, fun x H'' y => ?_⟩
    obtain ⟨d, ed, same, rp⟩ := hy x H'' y
    have m3 := m'.grow same
    have ed' : ds.drop i = d :: ds.drop (i + 1) := by
      rw [List.drop_eq_getElem_cons hlt]
      congr 1
      rw [List.getElem?_eq_getElem hlt] at ed
      exact Option.some.inj ed
    rw [ed'] at ok'
    unfold dc2L at ok'
    cases w : gt d ρ' with
    | none => simp only [w] at ok'; cases ok'
    | some ρ3 =>
      simp only [w] at ok'
      refine (B.g ({} : Shared) (fun _ => none) (0 : Nat) [] []).sn F S' H'' (wipe σ vs) ρ' ρ3 x d _ hK fok.nil m3.er rp w fun σ3 as er4 => ?_
      have hwp : wipe σ3 vs = wipe σ vs := wipe_asg as hi
      refine ⟨hwp, ?_⟩
      have m4 := m3.asg as er4
      refine (B.t ({} : Shared) (fun _ => none) (0 : Nat) [] []).sn F S' H'' σ3 ρ3 _ hK fok er4 (noEx_T (k := fun b ρ2 => if b = true then (noEx (fi1 ρ2)).bind fun ds1 ρ3 => (match wipeR vs1 ρ3 with
        | none => .bad
        | some ρ4 => (noEx (dcL gt1 ft1 fk fv vs1 ds1 ρ4 es')).bind fun es' ρ5 => (match wipeR vs ρ5 with
          | some ρ6 => dc2L gt ft fi1 gt1 ft1 fk fv vs vs1 (ds.drop (i + 1)) ρ6 es'
          | none => .bad)) else (match wipeR vs ρ2 with
        | some ρ4 => dc2L gt ft fi1 gt1 ft1 fk fv vs vs1 (ds.drop (i + 1)) ρ4 es'
        | none => .bad)) (fun z => by have zz := z.symm.trans ok'; cases zz) fun b ρ4 S4 H4 eb t4 er5 => ?_)
      rw [eb] at ok'
      simp only [noEx, Out.bind] at ok'
      have m5 := m4.go t4 er5
      cases b with
      | false =>
        refine iteF ?_
        rw [if_neg Bool.false_ne_true] at ok'
        cases w6 : wipeR vs ρ4 with
        | none => simp only [w6] at ok'; cases ok'
        | some ρ6 =>
          simp only [w6] at ok'
          obtain ⟨m6, no6, mu6⟩ := m5.wiped w6
          rw [hwp] at m6 mu6
          exact ⟨S4, ρ6, es', tS.trans (turn_trD same as t4.d mu6), m6, no6, ok'⟩
      | true =>
        refine iteT ?_
        rw [if_pos rfl] at ok'
        refine (B.i1 ({} : Shared) (fun _ => none) (0 : Nat) [] []).sn F S4 H4 σ3 ρ4 _ hK fok er5 ?_
        cases w2 : fi1 ρ4 with
        | ex _ _ => simp only [w2] at ok'; cases ok'
        | bad => simp only [w2] at ok'; cases ok'
        | ok ds1 ρ5 =>
          simp only [w2] at ok'
          intro J1 S5 H5 t5 er6 it1
          have m6 := m5.go t5 er6
          cases w3 : wipeR vs1 ρ5 with
          | none => simp only [w3] at ok'; cases ok'
          | some ρ6 =>
            simp only [w3] at ok'
            obtain ⟨m7, no7, mu7⟩ := m6.wiped w3
            cases w4 : dcL gt1 ft1 fk fv vs1 ds1 ρ6 es' with
            | ex _ _ => simp only [w4] at ok'; cases ok'
            | bad => simp only [w4] at ok'; cases ok'
            | ok es2 ρ7 =>
              simp only [w4] at ok'
              refine dc_loop (B.g1 ({} : Shared) (fun _ => none) (0 : Nat) [] []) (B.t1 ({} : Shared) (fun _ => none) (0 : Nat) [] []) (B.k ({} : Shared) (fun _ => none) (0 : Nat) [] []) (B.v ({} : Shared) (fun _ => none) (0 : Nat) [] []) hi1 hK fok m7 no7 it1 w4 fun S8 H8 t8 m8 no8 => ?_
              have m9 := m8.unwiped no8
              cases w5 : wipeR vs ρ7 with
              | none => simp only [w5] at ok'; cases ok'
              | some ρ8 =>
                simp only [w5] at ok'
                obtain ⟨m10, no10, mu10⟩ := m9.wiped w5
                rw [hwp] at m10 mu10
                have u : TrD D S4 H4 σ3 ρ4 S8 H8 ρ7 := t5.d.trans (t8.slots (σ := σ3) (ρ := ρ5) (ρ' := ρ7) mu7 fun i a z => (mut_wipe no8).mpr z)
                exact ⟨S8, ρ8, es2, tS.trans (turn_trD same as (t4.d.trans u) mu10), m10, no10, ok'⟩
  · have e : i = ds.length := by omega
    subst e
    rw [List.drop_length] at ok'
    have ok' : Out.ok es' ρ' = .ok ee ρe := ok'
    cases ok'
    exact .inl ⟨itstop _ (Nat.le_refl _), fin S' H' tS m' no'⟩
theorem se_dc2 (hc : X.calm = true) (hu : X.A.units < cLine) (hN : X.N.Nodup) (hi : SI X W tg iter wi fi) (ok : BlkOk X.N X.env.scope scope own) (hvs : ∀ i ∈ vs1, i ∈ own.map (·.2)) (B : BlkD2 X scope tg ifs tg1 iter1 ifs1 kx vx t gt is tt ft wi1 fi1 t1 gt1 is1 tt1 ft1 tk fk tv fv W.T) (hv : ∀ i ∈ is, i ∈ own.map (·.2)) (hv1 : ∀ i ∈ is1, i ∈ vs1)
    (hs : ∀ x, foldedSetIterable iter X.env x = pure x := by intro _; rfl) (hs1 : ∀ env x, foldedSetIterable iter1 env x = pure x := by intro _ _; rfl) :
    SE X W (.DictComp kx vx [⟨tg, iter, ifs, 0⟩, ⟨tg1, iter1, ifs1, 0⟩] scope pos) (tDcG wi t tt (fun D => bMore D wi1 t1 tt1 tk tv vs1) (own.map (·.2))) (fDc2 fi gt ft fi1 gt1 ft1 fk fv (own.map (·.2)) vs1) :=
  ⟨pe_dcG (bw := fun env D => bwMore X.prog X.w X.A env (.DictComp kx vx [⟨tg, iter, ifs, 0⟩, ⟨tg1, iter1, ifs1, 0⟩] scope pos) iter1 (.ref D)) hc hN hi.pi ok hvs (fun s H C cl fp => (B.g s H C cl fp).pg) (fun s H C cl fp => (B.t s H C cl fp).pt) (fun C cl D it => turn_more (hs1 _))
      (fun s H C cl fp D => pb_more (Y := X.blk s H scope (compEnvC scope cl C X.env) fp) hc rfl hu (B.i1 s H C cl fp).pi (B.g1 s H C cl fp).pg (B.t1 s H C cl fp).pt (B.k s H C cl fp).pe (B.v s H C cl fp).pe) hs,
    sn_dcG (run := fun ds ρ => dc2L gt ft fi1 gt1 ft1 fk fv (List.map (fun x : Str × Nat => x.2) own) vs1 ds ρ []) hi fun F S H σ ρ ρe D ee ds J En hK fok m no it okd fin => dc2_loop B hv hv1 hK fok m no it okd fin⟩
theorem ss_setDc2 {i : Nat} {y : Str} {py spos : Pos} (hc : X.calm = true) (hu : X.A.units < cLine) (hN : X.N.Nodup) (hy : X.N[i]? = some y) (hyl : X.env.scope.names.lookup y = some .local)
    (hsw : swapsWith (.DictComp kx vx [⟨tg, iter, ifs, 0⟩, ⟨tg1, iter1, ifs1, 0⟩] scope pos) (some (.Name y py)) spos.line X.env = pure true) (hi : SI X W tg iter wi fi) (ok : BlkOk X.N X.env.scope scope own) (hvs : ∀ i ∈ vs1, i ∈ own.map (·.2)) (B : BlkD2 X scope tg ifs tg1 iter1 ifs1 kx vx t gt is tt ft wi1 fi1 t1 gt1 is1 tt1 ft1 tk fk tv fv W.T) (hv : ∀ i ∈ is, i ∈ own.map (·.2)) (hv1 : ∀ i ∈ is1, i ∈ vs1)
    (hs : ∀ x, foldedSetIterable iter X.env x = pure x := by intro _; rfl) (hs1 : ∀ env x, foldedSetIterable iter1 env x = pure x := by intro _ _; rfl) :
    SS X W (.Assign [.Name y py] (.DictComp kx vx [⟨tg, iter, ifs, 0⟩, ⟨tg1, iter1, ifs1, 0⟩] scope pos) spos) (tAsg (tDcG wi t tt (fun D => bMore D wi1 t1 tt1 tk tv vs1) (own.map (·.2))) (gName i)) (gSet i (fDc2 fi gt ft fi1 gt1 ft1 fk fv (own.map (·.2)) vs1)) :=
  ⟨ps_setDcG (bw := fun env D => bwMore X.prog X.w X.A env (.DictComp kx vx [⟨tg, iter, ifs, 0⟩, ⟨tg1, iter1, ifs1, 0⟩] scope pos) iter1 (.ref D)) hc hN hi.pi ok hvs (fun s H C cl fp => (B.g s H C cl fp).pg) (fun s H C cl fp => (B.t s H C cl fp).pt) (fun C cl D it => turn_more (hs1 _))
      (fun s H C cl fp D => pb_more (Y := X.blk s H scope (compEnvC scope cl C X.env) fp) hc rfl hu (B.i1 s H C cl fp).pi (B.g1 s H C cl fp).pg (B.t1 s H C cl fp).pt (B.k s H C cl fp).pe (B.v s H C cl fp).pe) hy hyl hsw hs,
    sn_set (sn_dcG (run := fun ds ρ => dc2L gt ft fi1 gt1 ft1 fk fv (List.map (fun x : Str × Nat => x.2) own) vs1 ds ρ []) hi fun F S H σ ρ ρe D ee ds J En hK fok m no it okd fin => dc2_loop B hv hv1 hK fok m no it okd fin)⟩
end
end Pv
set_option maxRecDepth 100000
set_option maxHeartbeats 4000000
/-! Pv3: zip of a list and a tuple. -/
namespace Pv
open PySem PySem.Spec L2
open PyProof.Rows hiding St

/-- an iterator that has come to its end -/
theorem ended_list {prog : Program} {w : World} {A : Around} (hh : A.handled = none) (it l : Addr) (hne : l ≠ it) (items : Array Value) (i : Nat) (hi : items[i]? = none) : Draws prog w A it [it, l] i (fun _ _ => False) (fun j h => j = i ∧ h.IsListIter it l i ∧ h.IsList l items) where
  live := fun _ _ st => let ⟨o, ho, _⟩ := st.2.1; ⟨o, ho⟩
  frame := fun _ _ _ st hk => ⟨st.1, st.2.1.at fun o e => hk it (by simp) o e, st.2.2.at fun o e => hk l (by simp) o e⟩
  item := fun j s Q E hj st _ => absurd hj (by rw [st.1]; exact Nat.lt_irrefl _)
  done := fun s Q E st hE => wpAny_nextOf_list_end hh st.2.1 st.2.2 hi hE
theorem ended_tup {prog : Program} {w : World} {A : Around} (hh : A.handled = none) (it l : Addr) (hne : l ≠ it) (items : Array Value) (i : Nat) (hi : items[i]? = none) : Draws prog w A it [it, l] i (fun _ _ => False) (fun j h => j = i ∧ h.IsTupleIter it l i ∧ h.IsTuple l items) where
  live := fun _ _ st => let ⟨o, ho, _⟩ := st.2.1; ⟨o, ho⟩
  frame := fun _ _ _ st hk => ⟨st.1, st.2.1.at fun o e => hk it (by simp) o e, st.2.2.at fun o e => hk l (by simp) o e⟩
  item := fun j s Q E hj st _ => absurd hj (by rw [st.1]; exact Nat.lt_irrefl _)
  done := fun s Q E st hE => wpAny_nextOf_tuple_end hh st.2.1 st.2.2 hi hE
/-- the list at a and the tuple at b, item by item in new pairs -/
def ItzLT (K : PySem.W.Frag) (a b : Addr) : It :=
  ⟨fun i H => ∃ (xs ys : List V) (x y : V), SqL K H a xs ∧ SqT K H b ys ∧ xs[i]? = some x ∧ ys[i]? = some y,
    fun i H v H' => ∃ T x y, v = .ref T ∧ H T = none ∧ H' = upd H T (.tup [x, y]) ∧ (∀ xs, SqL K H a xs → xs[i]? = some x) ∧ ∀ ys, SqT K H b ys → ys[i]? = some y,
    fun i H => ∃ xs ys : List V, SqL K H a xs ∧ SqT K H b ys ∧ (xs.length ≤ i ∨ ys.length ≤ i)⟩
section
variable {P : Program} {w : World} {K : PySem.W.Frag} {elts : List Expr} {kk : Nat} {tpos : Pos} {a b z TI TO i1 i2 : Addr}
theorem turn_zipLT (S : ZipSep2 z TI TO i1 i2 [i1, a] [i2, b]) (n1 : a ≠ i1) (n2 : b ≠ i2) :
    L2.Turn P w K (.Tuple elts kk tpos) (ItzLT K a b) [z, TI, TO, i1, i2] z (fun i h => IsZip h z TI TO .none ∧ IsTupOf2 h TI (.ref i1) (.ref i2) ∧ (∃ x y, IsTupOf2 h TO x y) ∧ h.IsListIter i1 a i ∧ h.IsTupleIter i2 b i) where
  mem := by simp
  obj := fun i h st c hc => by
    obtain ⟨hz, hTI, ⟨x, y, hTO⟩, ⟨o1, e1, _, d1⟩, ⟨o2, e2, _, d2⟩⟩ := st
    simp only [List.mem_cons, List.not_mem_nil, or_false] at hc
    rcases hc with rfl | rfl | rfl | rfl | rfl
    · exact ⟨_, hz, fun v q => nomatch q⟩
    · exact ⟨_, hTI, fun v q => nomatch q⟩
    · exact ⟨_, hTO, fun v q => nomatch q⟩
    · exact ⟨o1, e1, fun v q => by rw [d1] at q; cases q⟩
    · exact ⟨o2, e2, fun v q => by rw [d2] at q; cases q⟩
  keep := fun i h h' st k => by
    obtain ⟨hz, hTI, ⟨x, y, hTO⟩, s1, s2⟩ := st
    have kz := fun o => k z (by simp) o
    exact ⟨kz _ hz, k TI (by simp) _ hTI, ⟨x, y, k TO (by simp) _ hTO⟩, s1.at fun o q => k i1 (by simp) o q, s2.at fun o q => k i2 (by simp) o q⟩
  item := by
    intro X hP hw hK hc i pins s σ H E I hf st hg
    subst hP hw hK
    obtain ⟨hz, hTI, ⟨x0, y0, hTO⟩, s1, s2⟩ := st
    obtain ⟨xs, ys, x, y, hqx, hqy, hx, hy⟩ := hg
    obtain ⟨its1, rv1, p1, _⟩ := I.list hqx
    obtain ⟨its2, rv2, p2, _⟩ := I.tuple hqy
    obtain ⟨u1, hu1, ru1⟩ := rv1.get hx
    obtain ⟨u2, hu2, ru2⟩ := rv2.get hy
    have b1 : i < its1.toArray.size := by simpa using (List.getElem?_eq_some_iff.mp hu1).1
    have b2 : i < its2.toArray.size := by simpa using (List.getElem?_eq_some_iff.mp hu2).1
    have hh := I.ok.hd hc
    refine wpAny_pyNext_zipD2_item S (Draws.list (A := X.A.in1) hh i1 a n1 its1.toArray) (Draws.tuple (A := X.A.in1) hh i2 b n2 its2.toArray) hz hTI hTO ⟨s1, p1.isList⟩ ⟨s2, p2⟩ b1 b2 fun v1 v2 h' tk q1 q2 hz' hTO' t1 t2 hN hsz hk => ?_
    have e1 : v1 = u1 := by
      have z : its1.toArray[i]? = some u1 := by simpa using hu1
      exact Option.some.inj (q1.symm.trans z)
    have e2 : v2 = u2 := by
      have z : its2.toArray[i]? = some u2 := by simpa using hu2
      exact Option.some.inj (q2.symm.trans z)
    subst e1 e2
    refine ⟨_, rfl, wpAny_letOwnedTupleGo_zip (s := { s with heap := h', toks := tk }) hz' fun h'' z'' sb => ?_⟩
    have zl : z < s.heap.objs.size := Heap.lt_size hz
    have hN2 := (sb.2 _ (Nat.ne_of_gt zl)).trans hN
    have new : ObjOk X.prog X.w (upd H s.heap.objs.size (.tup [x, y])) h'' s.heap.objs.size (.tup [x, y]) :=
      ⟨by show 2 ≤ sizeLine; decide, [v1, v2], .cons ru1 (.cons ru2 .nil), ⟨_, hN2, rfl, _, rfl⟩⟩
    have J : L2.Inv X pins σ (upd H s.heap.objs.size (.tup [x, y])) { s with heap := h'', toks := tk } := by
      refine I.turnedNew (ch := [z, TI, TO, i1, i2]) (fun c o hb q => ?_) hf (Nat.le_refl _) new
      simp only [List.mem_cons, List.not_mem_nil, or_false, not_or] at hb
      exact (sb.2 c hb.1).trans (hk c o hb.1 hb.2.2.1 hb.2.2.2.1 hb.2.2.2.2 q)
    refine ⟨.ref s.heap.objs.size, _, J, rfl, ⟨_, x, y, rfl, I.hok.fresh (Nat.le_refl _), rfl, fun l hl => by rw [I.list_inj hl hqx]; exact hx, fun l hl => by rw [I.tuple_inj hl hqy]; exact hy⟩, ⟨z'', ?_, ⟨v1, v2, (sb.2 _ S.TOz).trans hTO'⟩, t1.1.at fun o q => (sb.2 _ (Ne.symm S.zi1)).trans q, t2.1.at fun o q => (sb.2 _ (Ne.symm S.zi2)).trans q⟩, fun c hcm => ?_⟩
    · exact (sb.2 _ S.TIz).trans (hk _ _ S.TIz S.TITO S.TIi1 S.TIi2 hTI)
    · have lt : c < s.heap.objs.size := by
        simp only [List.mem_cons, List.not_mem_nil, or_false] at hcm
        rcases hcm with rfl | rfl | rfl | rfl | rfl
        · exact zl
        · exact Heap.lt_size hTI
        · exact Heap.lt_size hTO
        · obtain ⟨_, e, _⟩ := s1; exact Heap.lt_size e
        · obtain ⟨_, e, _⟩ := s2; exact Heap.lt_size e
      rw [upd_ne (Nat.ne_of_lt lt)]
      exact (hf c hcm).1
  done := by
    intro X hP hw hK hc i pins s σ H E I hf st hg
    subst hP hw hK
    obtain ⟨hz, hTI, ⟨x0, y0, hTO⟩, s1, s2⟩ := st
    obtain ⟨xs, ys, hqx, hqy, hend⟩ := hg
    obtain ⟨its1, rv1, p1, _⟩ := I.list hqx
    obtain ⟨its2, rv2, p2, _⟩ := I.tuple hqy
    have r1 := rv1.length
    have r2 := rv2.length
    have hh := I.ok.hd hc
    have fin : ∀ (h' : Heap) (tk : Nat), (∀ c o, c ≠ z → c ≠ TO → c ≠ i1 → c ≠ i2 → s.heap.get? c = some o → h'.get? c = some o) → (none : Option Value) = none ∧ L2.Inv X pins σ H { s with heap := h', toks := tk } := fun h' tk hk => by
      refine ⟨rfl, I.turnedL (ch := [z, TI, TO, i1, i2]) (fun c o hb q => ?_) hf⟩
      simp only [List.mem_cons, List.not_mem_nil, or_false, not_or] at hb
      exact hk c o hb.1 hb.2.2.1 hb.2.2.2.1 hb.2.2.2.2 q
    have none1 : xs.length ≤ i → its1.toArray[i]? = none := fun z => by
      rw [List.getElem?_toArray, List.getElem?_eq_none]
      omega
    have none2 : ys.length ≤ i → its2.toArray[i]? = none := fun z => by
      rw [List.getElem?_toArray, List.getElem?_eq_none]
      omega
    have sz1 : its1.toArray.size = its1.length := List.size_toArray
    have sz2 : its2.toArray.size = its2.length := List.size_toArray
    by_cases c1 : xs.length ≤ i
    · by_cases c2 : ys.length ≤ i
      · exact wpAny_pyNext_zipD2_end S (ended_list (A := X.A.in1) hh i1 a n1 its1.toArray i (none1 c1)) (ended_tup (A := X.A.in1) hh i2 b n2 its2.toArray i (none2 c2)) hz hTI hTO ⟨rfl, s1, p1.isList⟩ ⟨rfl, s2, p2⟩ (Nat.le_refl _) (Nat.le_refl _) (.inl rfl) fin
      · exact wpAny_pyNext_zipD2_end S (ended_list (A := X.A.in1) hh i1 a n1 its1.toArray i (none1 c1)) (Draws.tuple (A := X.A.in1) hh i2 b n2 its2.toArray) hz hTI hTO ⟨rfl, s1, p1.isList⟩ ⟨s2, p2⟩ (Nat.le_refl _) (by rw [sz2, ← r2]; exact Nat.le_of_not_le c2) (.inl rfl) fin
    · have c2 : ys.length ≤ i := hend.resolve_left c1
      exact wpAny_pyNext_zipD2_end S (Draws.list (A := X.A.in1) hh i1 a n1 its1.toArray) (ended_tup (A := X.A.in1) hh i2 b n2 its2.toArray i (none2 c2)) hz hTI hTO ⟨s1, p1.isList⟩ ⟨rfl, s2, p2⟩ (by rw [sz1, ← r1]; exact Nat.le_of_not_le c1) (Nat.le_refl _) (.inr rfl) fin
  self := fun A i s Q E st h => wpAny_pyIter_zip st.1 h
end
theorem sep_of (N a b : Nat) (la : a < N) (lb : b < N) : ZipSep2 (N + 4) (N + 2) (N + 3) N (N + 1) [N, a] [N + 1, b] := by
  have key : ∀ (x y c : Nat), x ≠ y → x ≠ c → x ∉ [y, c] := fun x y c h1 h2 hm => by
    rcases List.mem_cons.mp hm with z | z
    · exact h1 z
    · exact h2 (List.mem_singleton.mp z)
  have ne : ∀ (k l : Nat), k ≠ l → N + k ≠ N + l := fun k l h => by omega
  have n0 : ∀ k : Nat, k ≠ 0 → N + k ≠ N := fun k h => by omega
  have na : ∀ k : Nat, N + k ≠ a := fun k => by omega
  have nb : ∀ k : Nat, N + k ≠ b := fun k => by omega
  exact ⟨ne 2 4 (by decide), ne 3 4 (by decide), ne 2 3 (by decide), n0 2 (by decide), List.mem_cons_self, key _ _ _ (n0 4 (by decide)) (na 4), key _ _ _ (n0 3 (by decide)) (na 3), ne 2 1 (by decide), List.mem_cons_self, key _ _ _ (ne 4 1 (by decide)) (nb 4), key _ _ _ (ne 3 1 (by decide)) (nb 3), key _ _ _ (Ne.symm (n0 1 (by decide))) (nb 0), key _ _ _ (n0 1 (by decide)) (na 1)⟩
def iZipLT (K : PySem.W.Frag) (ta : TA) : TI := fun σ H R => ta σ H fun vs H1 => ∃ a b xs ys, vs = [.ref a, .ref b] ∧ SqL K H1 a xs ∧ SqT K H1 b ys ∧ R (ItzLT K a b) H1
theorem pi_zipLT {X : Cx} {e e2 : Expr} {ta : TA} {p pos tpos : Pos} {elts : List Expr} {kk : Nat} (hg : Gl X "zip") (hm : X.mg "zip" = none) (ha : PA X [e, e2] ta)
    (hs : starEach [e, e2] X.env = (false, eval e X.env) :: starEach [e2] X.env := by rfl) (hpl : (backTo pos (starEach [e2] X.env)).any (·.1) = false := by rfl) :
    PI X (.Tuple elts kk tpos) (.Call (.Name "zip" p) [e, e2] [] pos) (iZipLT X.K ta) := by
  refine ⟨fun pins s σ H R I h => ?_⟩
  refine Call_ (ld_blt I hg hm PyProof.Rows.boot_zip (PyProof.Rows.callWith_type1 (thn (ha.run pos pins s σ H _ I h) fun us s1 ⟨vs, H1, I1, r1, q1⟩ => ?_) hs hpl))
  obtain ⟨a, b, xs, ys, ex, hqx, hqy, q⟩ := q1
  subst ex
  cases r1 with
  | cons ra rr => cases rr with
  | cons rb rr =>
    cases rr
    cases ra
    cases rb
    obtain ⟨its1, rv1, p1, _⟩ := I1.list hqx
    obtain ⟨its2, rv2, p2, _⟩ := I1.tuple hqy
    obtain ⟨o2, ho2, _⟩ := id p2
    have la : a < s1.heap.objs.size := p1.lt
    have lb : b < s1.heap.objs.size := Heap.lt_size ho2
    refine zip_begins2 (begins_list a its1.toArray) (begins_tuple b its2.toArray) p1.isList p2 fun h' hz hTI hTO g1 g2 hsz hk => wpAny_pyIter_zip hz ?_
    have J : L2.Inv X pins σ H1 { s1 with heap := h' } := I1.kept (t' := s1.toks) hk
    have S := sep_of s1.heap.objs.size a b la lb
    refine ⟨s1.heap.objs.size + 4, [s1.heap.objs.size + 4, s1.heap.objs.size + 2, s1.heap.objs.size + 3, s1.heap.objs.size, s1.heap.objs.size + 1], _, _, H1, rfl, J, turn_zipLT S (Nat.ne_of_lt la) (Nat.ne_of_lt (Nat.lt_succ_of_lt lb)), ⟨hz, hTI, ⟨_, _, hTO⟩, ⟨_, g1, rfl, rfl⟩, ⟨_, g2, rfl, rfl⟩⟩, fun c hcm => ?_, q⟩
    have le : s1.heap.objs.size ≤ c := by
      simp only [List.mem_cons, List.not_mem_nil, or_false] at hcm
      rcases hcm with z | z | z | z | z <;> rw [z]
      · exact Nat.le_add_right _ _
      · exact Nat.le_add_right _ _
      · exact Nat.le_add_right _ _
      · exact Nat.le_refl _
      · exact Nat.le_add_right _ _
    exact I1.fpOk le (I1.hok.fresh le)
section
variable {K : PySem.W.Frag} {S : AS} {H : Hp} {a b : Addr} {xs ys : List V} {ds es : List PyData}
theorem itr_zipLT (h : LAt K S H a xs) (hs : RpA K S H xs ds) (n2 : ¬ S b) (h2 : H b = some (.tup ys)) (hs2 : RpA K S H ys es) : ItR K S H (ItzLT K a b) (zipD ds es) := fun S' H' t dom => by
  have q := (h.trS t).seq
  have q2 : SqT K H' b ys := SqT.of (t.off _ _ nt_tup h2 n2)
  have r1 := hs.trS t
  have r2 := hs2.trS t
  have l1 := hs.length
  have l2 := hs2.length
  refine ⟨fun i hi => ?_, fun i hi => ?_⟩
  · rw [zipD_length] at hi
    have i1 : i < ds.length := by omega
    have i2 : i < es.length := by omega
    refine ⟨⟨xs, ys, xs[i], ys[i], q, q2, by simp [l1 ▸ i1], by simp [l2 ▸ i2]⟩, fun x H'' y => ?_⟩
    obtain ⟨T, x0, y0, rfl, hT, rfl, f1, f2⟩ := y
    obtain ⟨d, e, rp⟩ := r1.getV (f1 xs q)
    obtain ⟨d2, e2, rp2⟩ := r2.getV (f2 ys q2)
    have ed : ds[i] = d := Option.some.inj ((List.getElem?_eq_getElem i1).symm.trans e)
    have ed2 : es[i] = d2 := Option.some.inj ((List.getElem?_eq_getElem i2).symm.trans e2)
    refine ⟨_, zipD_get i1 i2, fun b o e => by rw [upd_ne (ne_of_none e hT)]; exact e, ?_⟩
    rw [ed, ed2]
    exact rp_pair dom hT rp rp2
  · rw [zipD_length] at hi
    exact ⟨xs, ys, q, q2, by omega⟩
end
def outZ (ds : List PyData) (ρ1 : Rho) : Out (List PyData) := match ds with
  | [.list xs, .tuple ys] => .ok (zipD xs ys) ρ1
  | _ => .bad
def fIZipLT (fr : AF) : IF := fun ρ => (fr ρ).bind outZ
section
variable {X : Cx} {W : Wx} {e e2 : Expr} {ta : TA} {fr : AF} {p pos tpos : Pos} {elts : List Expr} {kk : Nat} (K : PySem.W.Frag) (hK0 : X.K = K)
include hK0
theorem si_zipLT (hg : Gl X "zip") (hm : X.mg "zip" = none) (ha : SA X W [e, e2] ta fr) (hs : starEach [e, e2] X.env = (false, eval e X.env) :: starEach [e2] X.env := by rfl) (hpl : (backTo pos (starEach [e2] X.env)).any (·.1) = false := by rfl) :
    SI X W (.Tuple elts kk tpos) (.Call (.Name "zip" p) [e, e2] [] pos) (iZipLT K ta) (fIZipLT fr) := by
  subst hK0
  refine ⟨pi_zipLT hg hm ha.pa hs hpl, fun F S H σ ρ Rr hK fok er hp => ?_⟩
  refine ha.go hK fok er (wI F W σ Rr) hp fun ds ρ1 vs S1 H1 t1 er1 rp hp1 => ?_
  have hp1 : PostI F W S1 H1 σ ρ1 (outZ ds ρ1) Rr := hp1
  unfold outZ at hp1
  split at hp1
  · cases rp with
    | cons h1 r2 =>
      cases r2 with
      | cons h2 r3 =>
        cases r3
        cases h1 with
        | lst h hs =>
          cases h2 with
          | tup n h' hs' => exact ⟨_, _, _, _, rfl, by rw [← hK]; exact h.seq, SqT.of h', hp1 _ S1 H1 .refl er1 (by rw [← hK]; exact itr_zipLT h hs n h' hs')⟩
  · exact hp1.elim
end
end Pv
set_option maxRecDepth 100000
set_option maxHeartbeats 4000000
/-! Pv4: sorted(d.values()) where d's keys are tuples. -/
namespace Pv
open PySem PySem.Spec L2
open PyProof.Rows hiding St

theorem kt_vals {H : Hp} : ∀ {kvs : List (List Key × V)} {xs : List (List Key × Addr × Value)}, KT H kvs xs → Vals (kvs.map (·.2)) (xs.map (·.2.2))
  | _, _, .nil => .nil
  | _, _, .cons h hs => .cons h.2.2 (kt_vals hs)
section
variable {prog : Program} {w : World} {A : Around} {E : Value → Shared → Prop} {s : Shared} {β : Type} {R : Value → β → Prop} {enc : β → PyData} {vs : List Value} {bs : List β}
/-- a new list is sorted -/
theorem sort_new {a : Addr} {n : Nat} {Q : Value → Shared → Prop} (ho : s.heap.get? a = some (seqObj "list" vs.toArray n)) (e : PySem.W.EachIs R vs bs) (er : PySem.W.EachIs (fun v b => ∃ as, Reads (PySem.W.sortingHeap s.heap a vs) v (enc b) as) vs bs) (hal : PySem.W.AllAlike (bs.map enc)) (hk : PySem.W.Sortable (bs.map enc)) (hL : bs.length ≤ sizeLine)
    (hu : ∀ b, b ∈ bs → A.units + 1 + (enc b).depth < cLine) (h : ∀ out, out.length = bs.length → PySem.W.EachIs R out (bs.mergeSort (PySem.W.dataLe false enc)) → Q .none { s with heap := PyProof.Rows.sortedHeap s.heap a vs (List.toArray out) }) :
    wpAny (model prog w) A (call (.builtin "list.sort") [.ref a]) Q E s := by
  refine wpAny_call_entry PyProof.Rows.slot_list_sort ⟨_, ho, rfl⟩ PyProof.Rows.entry_list_sort (PySem.W.list_sort_vals (κ := PySem.W.dataKind (PySem.W.sortingHeap s.heap a vs) (bs.map enc)) ho (PySem.W.SortsAt.data (s := { s with heap := PySem.W.sortingHeap s.heap a vs }) (PySem.W.each_map (R := fun v d => ∃ as, Reads (PySem.W.sortingHeap s.heap a vs) v d as) enc er) hal hk (PySem.W.bound_map hu)) (by rw [e.length]; exact hL) ⟨.none, rfl, ?_⟩) (PyProof.Rows.args_list_sort _)
  exact h _ (by rw [PySem.W.sortVals_length false rfl]; exact e.length) (PySem.W.sortVals_data false e er hal)
end
def tSortVals (K : PySem.W.Frag) (te : TE) : TE := fun σ H Q => te σ H fun x H1 => ∃ (a : Addr) (kvs : List (List Key × V)) (ds : List PyData), x = .ref a ∧ H1 a = some (.dT kvs) ∧ DpAll K H1 (kvs.map (·.2)) ds ∧ PySem.W.AllAlike ds ∧ PySem.W.Sortable ds ∧ (∀ d ∈ ds, d.depth ≤ 60) ∧
  ∀ p, H1 p = none → Q (.ref p) (upd H1 p (.lst ((zipSort (kvs.map (·.2)) ds).map (·.1))))
section
variable {X : Cx} {e : Expr} {te : TE} {p apos cpos pos : Pos}
theorem pe_sortVals (hc : X.calm = true) (hu : X.A.units + 65 < cLine) (he : PE X e te) (hg : Gl X "sorted") (hm : X.mg "sorted" = none) (hbase : attributeBase e "values" X.env (eval e X.env) = eval e X.env := by rfl) (hline : (apos.endLine == cpos.line) = true := by rfl)
    (hs : starEach [.Call (.Attribute e "values" apos) [] [] cpos] X.env = (false, eval (.Call (.Attribute e "values" apos) [] [] cpos) X.env) :: starEach [] X.env := by rfl) :
    PE X (.Call (.Name "sorted" p) [.Call (.Attribute e "values" apos) [] [] cpos] [] pos) (tSortVals X.K te) := by
  refine ⟨fun pins s σ H Q I hq => ?_⟩
  refine Call_ (ld_blt I hg hm (by rfl) ?_)
  refine PyProof.Rows.callWith_builtin1 (PyProof.Rows.args_cons ?_ hs) rfl rfl
  refine wpAny_Call_method (T := "dict") (id := "dict.values") hbase rfl hline F.plainAttrs_dict F.slot_dict_values F.type_dict_values (thn (he.run pins s σ H _ I hq) fun u s1 ⟨x, H1, I1, rx, a, kvs, ds, ex, ha, hd, hal, hso, hdp, q⟩ => ?_)
  subst ex
  obtain rfl : u = Value.ref a := rx
  obtain ⟨z, hsy, xs, rel, dd⟩ := dt_of I1.hok ha
  obtain ⟨o, es, ep, ho, hx, hdat, hes, his, hn⟩ := dd
  have raw : s1.heap.DictRaw a es ep := ⟨o, ho, hx, hdat⟩
  have tI : s1.TypeIs (.ref a) "dict" := ⟨o, ho, hx.1⟩
  refine ⟨tI, fun a' e' => by cases e'; exact ⟨o, ho, hx.2.1⟩, ?_⟩
  show wpAny _ _ (callWith cpos (.builtin "dict.values") [.ref a] [] []) _ X.xe s1
  refine method_meetsIn F.slot_dict_values F.entry_dict_values rfl (PySem.evalArgs_none ⟨rfl, tI, F.args_dict_values_1 _, _, PySem.meets_dict_values_raw a hsy, ⟨⟨es, ep, raw⟩, ?_⟩⟩)
  refine PyProof.Rows.args_nil ?_
  -- the view is new; its values are taken one by one
  have view : (s1.heap.push { cls := .type "dict_values", data := .fields #[.ref a] }).IsValuesView s1.heap.objs.size a := ⟨_, Heap.get?_push_size _ rfl, rfl, rfl⟩
  have lx : es.size = xs.length := size_of_entries hes
  have lk : kvs.length = xs.length := Paired.length rel
  have hh : X.A.handled = none := I1.ok.hd hc
  refine PySem.Calls.call_function_entry PyProof.Rows.kind_sorted PyProof.Rows.plain_sorted PyProof.Rows.entry_sorted (PyProof.Rows.args_sorted1 _) ?_
  unfold Builtin.«sorted»
  refine wpAny_bind (m := checkCount "sorted" 1 1 _) (wpAny_pure ?_)
  refine wpAny_bind (PySem.W.kdu_collect (A := X.A.in1) (s := { s1 with heap := s1.heap.push { cls := .type "dict_values", data := .fields #[.ref a] } }) (PySem.KdlSrc.rawValues (es := es) (ep := ep)) hh ⟨view, raw.push _⟩ (by omega) fun h' tk acc hk hacc => ?_)
  have old : ∀ b o, s1.heap.get? b = some o → h'.get? b = some o := fun b o e => hk b o (Heap.get?_push_of_some _ e)
  have al : acc.toList.length = xs.length := by rw [Array.length_toList, hacc.1]; exact lx
  have ea : acc.toList = xs.map (·.2.2) := by
    apply List.ext_getElem?
    intro j
    by_cases hj : j < xs.length
    · have h1 : acc[j]? = some (acc.toList[j]'(by omega)) := by rw [← Array.getElem?_toList, List.getElem?_eq_getElem (by omega)]
      obtain ⟨hi, ev⟩ := hacc.2 j _ h1
      have h2 := entry_at hes j
      rw [List.getElem?_eq_getElem hj, Array.getElem?_eq_getElem hi] at h2
      have h3 : es[j] = entryOfKey (tupleKind (mixKind X.prog X.w)) xs[j] := Option.some.inj h2
      rw [List.getElem?_eq_getElem (by omega), List.getElem?_map, List.getElem?_eq_getElem hj, ev, h3]
      rfl
    · rw [List.getElem?_eq_none (by omega), List.getElem?_eq_none (by rw [List.length_map]; omega)]
  have hv : Vals (kvs.map (·.2)) acc.toList := by rw [ea]; exact kt_vals rel
  have lz : acc.toList.length ≤ sizeLine := by omega
  refine wpAny_bind (wpAny_newList ?_ lz)
  have el := dpAll_len hd
  obtain ⟨e1, e2⟩ := zip_vals I1 hv hd
  have ezip := zip_snd el
  have lzz : ((kvs.map (·.2)).zip ds).length = ds.length := by rw [List.length_zip, el, Nat.min_self]
  have ldk : ds.length = kvs.length := by rw [← el, List.length_map]
  have ltD : ∀ b o, s1.heap.get? b = some o → b ≠ h'.objs.size := fun b o e => Nat.ne_of_lt (Heap.lt_size (old b o e))
  have ho2 : (h'.push { cls := .type "list", data := .seq acc.toList.toArray }).get? h'.objs.size = some (seqObj "list" acc.toList.toArray 0) := Heap.get?_push_size _ rfl
  have old2 : ∀ b o, s1.heap.get? b = some o → (h'.push { cls := .type "list", data := .seq acc.toList.toArray }).get? b = some o := fun b o e => Heap.get?_push_of_some _ (old b o e)
  refine wpAny_bind (wpAny_holding (sort_new (s := { s1 with heap := h'.push { cls := .type "list", data := .seq acc.toList.toArray }, toks := tk }) (enc := fun p : V × PyData => p.2) ho2 e1 (e2.mono fun _ _ ⟨as, r⟩ => ⟨as, PyProof.Rows.Reads.keeps (fun b o e => PySem.W.sortingHeap_old (ltD b o e) (old2 b o e)) r⟩) (by rw [ezip]; exact hal) (by rw [ezip]; exact hso) (by rw [lzz]; omega) (fun b hb => ?_) fun out h1 h2 => ?_))
  · have hm : b.2 ∈ ds := by rw [← ezip]; exact List.mem_map_of_mem hb
    have := hdp _ hm
    show X.A.units + 1 + 1 + b.2.depth < cLine
    omega
  · obtain ⟨ep2, he2⟩ := PyProof.Rows.sortedHeap_at (out := out.toArray) ho2
    have hlen : ((zipSort (kvs.map (·.2)) ds).map (·.1)).length ≤ sizeLine := by
      unfold zipSort
      rw [List.length_map, List.length_mergeSort, lzz]; omega
    have keep3 : ∀ b o, s1.heap.get? b = some o → (PyProof.Rows.sortedHeap (h'.push { cls := .type "list", data := .seq acc.toList.toArray }) h'.objs.size acc.toList out.toArray).get? b = some o := fun b o e => by
      rw [PyProof.Rows.sortedHeap_old (ltD b o e) (Heap.lt_size (old2 b o e))]
      exact old2 b o e
    have leD : s1.heap.objs.size ≤ h'.objs.size := by
      have := Heap.lt_size (hk s1.heap.objs.size _ (Heap.get?_push_size _ rfl))
      exact Nat.le_of_lt this
    refine wpAny_pure ⟨_, rfl, .ref h'.objs.size, upd H1 h'.objs.size (.lst ((zipSort (kvs.map (·.2)) ds).map (·.1))), I1.laid (t' := tk) keep3 leD ⟨hlen, out, ep2, each_vals h2, he2⟩, rfl, q _ (I1.hok.fresh leD)⟩
end
/-! ### what it gives -/
def sortVD : PyData → Option (List PyData)
  | .dict ((.none, .bool true) :: es) => if sortOk (es.map (·.2)) then some (isortD (es.map (·.2))) else none
  | _ => none
def outSV (r : R) (ρ : Rho) : Out R := match deref ρ r with
  | some d => (match sortVD d with
    | some l => .ok (.own (.lst l)) ρ
    | none => .bad)
  | none => .bad
def fSortVals (fa : EF) : EF := fun ρ => (fa ρ).bind outSV
@[simp] theorem s_fSortVals {fa : EF} {ρ : Rho} : fSortVals fa ρ = (fa ρ).bind outSV := rfl
@[simp] theorem s_outSV {r : R} {ρ : Rho} : outSV r ρ = (match deref ρ r with
  | some d => (match sortVD d with
    | some l => .ok (.own (.lst l)) ρ
    | none => .bad)
  | none => .bad) := rfl
section
variable {X : Cx} {W : Wx} {e : Expr} {te : TE} {fe : EF} {p apos cpos pos : Pos}
theorem se_sortVals (K : PySem.W.Frag) (hK0 : X.K = K) (hc : X.calm = true) (hu : X.A.units + 65 < cLine) (he : SE X W e te fe) (hg : Gl X "sorted") (hm : X.mg "sorted" = none) (hbase : attributeBase e "values" X.env (eval e X.env) = eval e X.env := by rfl) (hline : (apos.endLine == cpos.line) = true := by rfl)
    (hs : starEach [.Call (.Attribute e "values" apos) [] [] cpos] X.env = (false, eval (.Call (.Attribute e "values" apos) [] [] cpos) X.env) :: starEach [] X.env := by rfl) :
    SE X W (.Call (.Name "sorted" p) [.Call (.Attribute e "values" apos) [] [] cpos] [] pos) (tSortVals K te) (fSortVals fe) := by
  subst hK0
  refine ⟨pe_sortVals hc hu he.pe hg hm hbase hline hs, fun F S H σ ρ Q hK fok er hp => ?_⟩
  refine he.go hK fok er (wE F W σ Q) hp fun r ρ1 v S1 H1 t1 er1 rr _ hp1 => ?_
  have hp1 : PostE F W S1 H1 σ ρ1 (outSV r ρ1) Q := hp1
  unfold outSV at hp1
  cases qa : deref ρ1 r with
  | none => simp only [qa] at hp1; exact hp1.elim
  | some d =>
    simp only [qa] at hp1
    have rt := rr.rt er1 qa
    cases qn : sortVD d with
    | none => simp only [qn] at hp1; exact hp1.elim
    | some l =>
      simp only [qn] at hp1
      cases d with
      | dict ds0 =>
        obtain ⟨b, rfl, hh⟩ := rt.dict
        rcases hh with ⟨kvs, es, eh, ek, hs, rfl⟩ | ⟨kvs, es, eh, ek, hs, rfl⟩
        · simp only [dTd, sortVD, List.map_map] at qn
          have ev : (es.map ((·.2) ∘ fun p : List Key × PyData => (PyData.tuple (p.1.map kD), p.2))) = es.map (·.2) := rfl
          rw [ev] at qn
          by_cases ok : sortOk (es.map (·.2)) = true
          · rw [if_pos ok] at qn
            cases qn
            unfold sortOk alikesD at ok
            simp only [Bool.and_eq_true, decide_eq_true_eq, List.all_eq_true, Bool.or_eq_true] at ok
            obtain ⟨⟨⟨⟨o1, o2⟩, o3⟩, o4⟩, o5⟩ := ok
            rw [← hK]
            refine ⟨b, kvs, es.map (·.2), rfl, eh, hs.dp o1, fun d hd d' hd' => o3 d hd d' hd', ?_, o4, fun p hpn => ?_⟩
            · rcases o2 with o2 | o2
              · refine .inl fun d hd => ?_
                have := o2 d hd
                unfold tup1 at this
                split at this
                · exact ⟨_, _, rfl⟩
                · cases this
              · refine .inr fun d hd => ?_
                have := o2 d hd
                refine ⟨fun z => ?_, fun xs z => ?_⟩ <;> (rw [z] at this; cases this)
            · have rp : RpA F.K S1 H1 ((zipSort (kvs.map (·.2)) (es.map (·.2))).map (·.1)) (isortD (es.map (·.2))) := by
                rw [← zipSort_snd hs.length]
                refine rpA_pairs _ fun p hp => ?_
                unfold zipSort at hp
                rw [List.mem_mergeSort] at hp
                exact rpA_zip hs p hp
              obtain ⟨t, er', rr', fr'⟩ := (Grow.lst (K := F.K) (S := S1) hpn rp).step er1 fok
              exact hp1 _ _ _ t er' rr' fr'
          · rw [if_neg ok] at qn
            cases qn
        · simp [dKd, sortVD] at qn
      | _ => simp [sortVD] at qn
end
end Pv
set_option maxRecDepth 100000
set_option maxHeartbeats 4000000
/-! Pv5: sorted(d.items()) where keys and values are ints. -/
namespace Pv
open PySem PySem.Spec L2
open PyProof.Rows hiding St

/-- pairs of ints at new places -/
def putP : Hp → List Addr → List (Int × Int) → Hp
  | H, a :: as, p :: ns => putP (upd H a (.tup [.int p.1, .int p.2])) as ns
  | H, _, _ => H
theorem putP_off {b : Addr} : ∀ (as : List Addr) (ns : List (Int × Int)) (H : Hp), b ∉ as → putP H as ns b = H b
  | [], _, _, _ => rfl
  | _ :: _, [], _, _ => rfl
  | a :: as, p :: ns, H, h => by
    rw [List.mem_cons, not_or] at h
    show putP (upd H a _) as ns b = H b
    rw [putP_off as ns _ h.2, upd_ne h.1]
theorem putP_at : ∀ (as : List Addr) (ns : List (Int × Int)) (H : Hp), as.length = ns.length → as.Nodup → ∀ (j : Nat) (a : Addr) (p : Int × Int), as[j]? = some a → ns[j]? = some p → putP H as ns a = some (.tup [.int p.1, .int p.2])
  | [], _, _, _, _, j, a, p, h1, _ => by simp at h1
  | _ :: _, [], _, h, _, _, _, _, _, _ => by simp at h
  | a :: as, p :: ns, H, h, hn, j, b, q, h1, h2 => by
    obtain ⟨n1, n2⟩ := List.nodup_cons.mp hn
    cases j with
    | zero =>
      simp only [List.getElem?_cons_zero, Option.some.injEq] at h1 h2
      subst h1 h2
      show putP (upd H a _) as ns a = _
      rw [putP_off as ns _ n1, upd_same]
    | succ j => exact putP_at as ns _ (by simpa using h) n2 j b q h1 h2
section
variable {X : Cx} {pins : List (Addr × Obj)} {σ : L2.St} {H : Hp} {s : Shared} {h' : Heap} {tk : Nat} {ns : List (Int × Int)} {as : List Addr}
theorem pairs_laid (I : L2.Inv X pins σ H s) (hk : ∀ b o, s.heap.get? b = some o → h'.get? b = some o) (above : ∀ a ∈ as, s.heap.objs.size ≤ a) (nd : as.Nodup) (hl : as.length = ns.length)
    (hp : ∀ (j : Nat) (a : Addr), as[j]? = some a → ∃ (p : Int × Int) (key val : Value), ns[j]? = some p ∧ L2.RelV (.int p.1) key ∧ L2.RelV (.int p.2) val ∧ h'.get? a = some { cls := .type "tuple", data := .seq #[key, val] }) :
    (∀ b o, H b = some o → putP H as ns b = some o) ∧ L2.Inv X pins σ (putP H as ns) { s with heap := h', toks := tk } := by
  have new : ∀ a ∈ as, H a = none := fun a ha => I.hok.fresh (above a ha)
  have kp : ∀ b u, H b = some u → putP H as ns b = some u := fun b u e => by
    rw [putP_off _ _ _ fun z => by rw [new b z] at e; cases e]
    exact e
  refine ⟨kp, I.call' (ch := []) rfl ⟨fun b o q _ _ _ => hk b o q, fun b o q _ _ _ => ⟨o.slots, hk b o q⟩, fun b o q n _ => ?_, fun b o q _ => ⟨o, hk b o q⟩, fun b xs q => kp b _ q, fun b o u q => kp b _ q, fun b ps q => ⟨#[], by rw [kp b _ q]; simp⟩⟩ (fun b u q => ?_) I.bare fun b z => by simp at z⟩
  · rw [putP_off _ _ _ fun z => absurd (Heap.lt_size q) (Nat.not_lt.mpr (above b z))]
    exact n
  · by_cases hb : b ∈ as
    · obtain ⟨j, e1⟩ := List.mem_iff_getElem?.mp hb
      obtain ⟨p, key, val, e2, r1, r2, e3⟩ := hp j b e1
      rw [putP_at as ns H hl nd j b p e1 e2] at q
      cases q
      exact ⟨by show 2 ≤ sizeLine; decide, [key, val], .cons r1 (.cons r2 .nil), ⟨_, e3, rfl, _, rfl⟩⟩
    · rw [putP_off _ _ _ hb] at q
      exact (I.hok b u q).stay (fun d v _ y => hk d v y) (fun d y => kp d _ y) fun d xs y => kp d _ y
end
abbrev kvI (ns : List (Int × Int)) : List (Key × V) := ns.map fun p => (Sum.inl p.1, V.int p.2)
abbrev pD (p : Int × Int) : PyData := .tuple [.int p.1, .int p.2]
def tSortItems (te : TE) : TE := fun σ H Q => te σ H fun x H1 => ∃ (a : Addr) (ns : List (Int × Int)), x = .ref a ∧ H1 a = some (.dK (kvI ns)) ∧ ns.length ≤ 1000 ∧
  ∀ (H' : Hp) (p : Addr) (L : List (Addr × (Int × Int))), (∀ b o, H1 b = some o → H' b = some o) → H1 p = none → (∀ t ∈ L, H1 t.1 = none ∧ t.1 ≠ p) → H' p = some (.lst (L.map fun t => V.ref t.1)) → (∀ t ∈ L, H' t.1 = some (.tup [.int t.2.1, .int t.2.2])) → L.map (fun t => pD t.2) = isortD (ns.map pD) → Q (.ref p) H'
theorem kv_entries {prog : Program} {w : World} : ∀ {ns : List (Int × Int)} {vs : List (Key × Value)} {es : List DictEntry}, KV (kvI ns) vs → Pairs (mixKind prog w) es vs → ∀ (j : Nat) (e : DictEntry), es[j]? = some e → ∃ p, ns[j]? = some p ∧ L2.RelV (.int p.1) e.key ∧ L2.RelV (.int p.2) e.val
  | [], _, _, .nil, .nil, j, e, h => by simp at h
  | p :: ns, _, _, .cons ⟨h1, h2⟩ t, .cons k1 k2 t2, j, e, h => by
    cases j with
    | zero =>
      simp only [List.getElem?_cons_zero, Option.some.injEq] at h
      subst h
      refine ⟨p, rfl, ?_, ?_⟩
      · have r := relV_key (show keyIs _ _ = true from k1)
        rw [← h1] at r
        exact r
      · rw [k2]
        exact h2
    | succ j => exact kv_entries t t2 j e h
theorem pairs_len {prog : Program} {w : World} : ∀ {es : List DictEntry} {vs : List (Key × Value)}, Pairs (mixKind prog w) es vs → es.length = vs.length
  | _, _, .nil => rfl
  | _, _, .cons _ _ t => by rw [List.length_cons, List.length_cons, pairs_len t]
def leP2 : Addr × (Int × Int) → Addr × (Int × Int) → Bool := PySem.W.dataLe false (fun t : Addr × (Int × Int) => pD t.2)
theorem pD_alike (ns : List (Int × Int)) : PySem.W.AllAlike (ns.map pD) := by
  intro d hd d' hd'
  obtain ⟨p, _, rfl⟩ := List.mem_map.mp hd
  obtain ⟨p', _, rfl⟩ := List.mem_map.mp hd'
  simp [pD, PySem.W.alike, PySem.W.alikeAll]
theorem pD_sortable (ns : List (Int × Int)) : PySem.W.Sortable (ns.map pD) := by
  refine .inl fun d hd => ?_
  obtain ⟨p, _, rfl⟩ := List.mem_map.mp hd
  exact ⟨_, _, rfl⟩
theorem each_refs {H : Hp} : ∀ (L : List (Addr × (Int × Int))), PySem.W.EachIs (fun v (t : Addr × (Int × Int)) => v = Value.ref t.1) (L.map fun t => Value.ref t.1) L
  | [] => .nil
  | t :: L => .cons rfl (each_refs (H := H) L)
theorem refs_of_each : ∀ {out : List Value} {L : List (Addr × (Int × Int))}, PySem.W.EachIs (fun v (t : Addr × (Int × Int)) => v = Value.ref t.1) out L → Vals (L.map fun t => V.ref t.1) out
  | _, _, .nil => .nil
  | _, _, .cons h hs => by
    refine .cons ?_ (refs_of_each hs)
    rw [h]
    rfl
section
variable {X : Cx} {e : Expr} {te : TE} {p apos cpos pos : Pos}
theorem pe_sortItems (hc : X.calm = true) (hu : X.A.units + 65 < cLine) (he : PE X e te) (hg : Gl X "sorted") (hm : X.mg "sorted" = none) (hbase : attributeBase e "items" X.env (eval e X.env) = eval e X.env := by rfl) (hline : (apos.endLine == cpos.line) = true := by rfl)
    (hs : starEach [.Call (.Attribute e "items" apos) [] [] cpos] X.env = (false, eval (.Call (.Attribute e "items" apos) [] [] cpos) X.env) :: starEach [] X.env := by rfl) :
    PE X (.Call (.Name "sorted" p) [.Call (.Attribute e "items" apos) [] [] cpos] [] pos) (tSortItems te) := by
  refine ⟨fun pins s σ H Q I hq => ?_⟩
  refine Call_ (ld_blt I hg hm (by rfl) ?_)
  refine PyProof.Rows.callWith_builtin1 (PyProof.Rows.args_cons ?_ hs) rfl rfl
  refine wpAny_Call_method (T := "dict") (id := "dict.items") hbase rfl hline F.plainAttrs_dict F.slot_dict_items F.type_dict_items (thn (he.run pins s σ H _ I hq) fun u s1 ⟨x, H1, I1, rx, a, ns, ex, ha, hns, q⟩ => ?_)
  subst ex
  obtain rfl : u = Value.ref a := rx
  obtain ⟨z, hsy, vs, kv, hdo⟩ := dk_of I1.hok ha
  obtain ⟨o, es, ep, ho, hx, hdat, hko, hpr, hnd⟩ := id hdo
  have raw : DT.Raw s1.heap a es ep := ⟨o, ho, hx, hdat⟩
  refine ⟨hdo.typeIs, hdo.mapOf.noDict, ?_⟩
  show wpAny _ _ (callWith cpos (.builtin "dict.items") [.ref a] [] []) _ X.xe s1
  refine method_meetsIn F.slot_dict_items F.entry_dict_items rfl (PySem.evalArgs_none ⟨rfl, hdo.typeIs, F.args_dict_items_1 _, _, meets_dict_items (mixKind X.prog X.w) a hsy, ⟨vs, hdo⟩, ?_⟩)
  refine PyProof.Rows.args_nil ?_
  have view : (s1.heap.push { cls := .type "dict_items", data := .fields #[.ref a] }).IsItemsView s1.heap.objs.size a := ⟨_, Heap.get?_push_size _ rfl, rfl, rfl⟩
  have hh : X.A.handled = none := I1.ok.hd hc
  have l1 : es.toList.length = vs.length := pairs_len hpr
  have l2 : (kvI ns).length = vs.length := Paired.length kv
  rw [List.length_map] at l2
  rw [Array.length_toList] at l1
  have hes : es.size ≤ sizeLine := by rw [l1, ← l2, sizeLine_eq]; omega
  refine DT.sortedI (s := { s1 with heap := s1.heap.push { cls := .type "dict_items", data := .fields #[.ref a] } }) (es := es) (ep := ep) hh view (raw.push _) hes fun h' tk as hk hlt hl hG => ?_
  have old : ∀ b o, s1.heap.get? b = some o → h'.get? b = some o := fun b o e => hk b o (Heap.get?_push_of_some _ e)
  have sz2 : (s1.heap.push { cls := .type "dict_items", data := .fields #[.ref a] }).objs.size = s1.heap.objs.size + 1 := Heap.size_push ..
  have lan : as.length = ns.length := by rw [hl, l1, ← l2]
  have nd : as.Nodup := List.Pairwise.imp (fun h => Nat.ne_of_lt h) hG.rise
  have above : ∀ b ∈ as, s1.heap.objs.size ≤ b := fun b hb => Nat.le_of_lt (Nat.lt_of_le_of_lt (by rw [sz2]; exact Nat.le_succ _) (hG.above b hb))
  have got : ∀ (j : Nat) (b : Addr), as[j]? = some b → ∃ (p : Int × Int) (key val : Value), ns[j]? = some p ∧ L2.RelV (.int p.1) key ∧ L2.RelV (.int p.2) val ∧ h'.get? b = some { cls := .type "tuple", data := .seq #[key, val] } := fun j b hj => by
    obtain ⟨en, he1, he2⟩ := hG.pairs j b hj
    obtain ⟨p, g1, g2, g3⟩ := kv_entries kv hpr j en (by rw [Array.getElem?_toList]; exact he1)
    exact ⟨p, en.key, en.val, g1, g2, g3, he2⟩
  obtain ⟨kp, J⟩ := pairs_laid (tk := tk) I1 old above nd lan got
  generalize hH2 : putP H1 as ns = H2 at kp J
  have atP : ∀ t ∈ as.zip ns, H2 t.1 = some (.tup [.int t.2.1, .int t.2.2]) := fun t ht => by
    obtain ⟨j, hj⟩ := List.mem_iff_getElem?.mp ht
    obtain ⟨z1, z2⟩ := List.getElem?_zip_eq_some.mp hj
    rw [← hH2]
    exact putP_at as ns H1 lan nd j t.1 t.2 z1 z2
  have zf : (as.zip ns).map (fun t => Value.ref t.1) = as.map Value.ref := by
    rw [← List.map_fst_zip (l₁ := as) (l₂ := ns) (by omega), List.map_map]
    rw [List.map_fst_zip (by omega)]
    rfl
  have zs : (as.zip ns).map (fun t => pD t.2) = ns.map pD := by
    conv => rhs; rw [← List.map_snd_zip (l₁ := as) (l₂ := ns) (by omega), List.map_map]
    rfl
  have ltD : ∀ b o, h'.get? b = some o → b ≠ h'.objs.size := fun b o e => Nat.ne_of_lt (Heap.lt_size e)
  have ho2 : (h'.push { cls := .type "list", data := .seq (as.map Value.ref).toArray }).get? h'.objs.size = some (seqObj "list" (as.map Value.ref).toArray 0) := Heap.get?_push_size _ rfl
  have old2 : ∀ b o, h'.get? b = some o → (h'.push { cls := .type "list", data := .seq (as.map Value.ref).toArray }).get? b = some o := fun b o e => Heap.get?_push_of_some _ e
  have er := each_refs (H := H2) (as.zip ns)
  rw [zf] at er
  refine sort_new (A := X.A.in1) (s := { s1 with heap := h'.push { cls := .type "list", data := .seq (as.map Value.ref).toArray }, toks := tk }) (R := fun v (t : Addr × (Int × Int)) => v = Value.ref t.1) (enc := fun t : Addr × (Int × Int) => pD t.2) (bs := as.zip ns) ho2 er ?_ (by rw [zs]; exact pD_alike ns) (by rw [zs]; exact pD_sortable ns) (by rw [List.length_zip, lan, Nat.min_self, sizeLine_eq]; omega) (fun b hb => ?_) fun out h1 h2 => ?_
  · refine (PySem.W.each_mem er).mono fun v t ⟨ev, hm⟩ => ?_
    subst ev
    have dp : Dp X.K H2 (.ref t.1) (pD t.2) := .tup (SqT.of (atP t hm)) (.cons (.int _) (.cons (.int _) .nil))
    obtain ⟨as', r⟩ := Dp.reads J _ _ (.ref t.1) dp rfl
    exact ⟨as', PyProof.Rows.Reads.keeps (fun b o e => PySem.W.sortingHeap_old (ltD b o e) (old2 b o e)) r⟩
  · show X.A.units + 1 + 1 + (pD b.2).depth < cLine
    have : (pD b.2).depth = 1 := by simp [pD, PyData.depth, PyData.depthAll]
    omega
  · obtain ⟨ep2, he2⟩ := PyProof.Rows.sortedHeap_at (out := out.toArray) ho2
    generalize hL : (as.zip ns).mergeSort (PySem.W.dataLe false fun t : Addr × (Int × Int) => pD t.2) = L at h2
    have pm : ∀ t, t ∈ L ↔ t ∈ as.zip ns := fun t => by rw [← hL, List.mem_mergeSort]
    have lL : L.length = ns.length := by rw [← hL, List.length_mergeSort, List.length_zip, lan, Nat.min_self]
    have keep3 : ∀ b o, h'.get? b = some o → (PyProof.Rows.sortedHeap (h'.push { cls := .type "list", data := .seq (as.map Value.ref).toArray }) h'.objs.size (as.map Value.ref) out.toArray).get? b = some o := fun b o e => by
      rw [PyProof.Rows.sortedHeap_old (ltD b o e) (Heap.lt_size (old2 b o e))]
      exact old2 b o e
    have nD2 : H2 h'.objs.size = none := J.hok.fresh (Nat.le_refl _)
    have nD1 : H1 h'.objs.size = none := by
      cases q : H1 h'.objs.size with
      | none => rfl
      | some o => rw [kp _ _ q] at nD2; cases nD2
    have J2 := J.laid (a := h'.objs.size) (o := .lst (L.map fun t => V.ref t.1)) (t' := tk) keep3 (Nat.le_refl _) ⟨by rw [List.length_map, lL, sizeLine_eq]; omega, out, ep2, refs_of_each h2, he2⟩
    refine ⟨.ref h'.objs.size, _, J2, rfl, q _ h'.objs.size L (fun b o e => ?_) nD1 (fun t ht => ?_) upd_same (fun t ht => ?_) ?_⟩
    · rw [upd_ne fun z => by rw [z, nD1] at e; cases e]
      exact kp b o e
    · have hm := (List.of_mem_zip (a := t.1) (b := t.2) ((pm t).mp ht)).1
      refine ⟨I1.hok.fresh (above t.1 hm), fun z => ?_⟩
      obtain ⟨j, hj⟩ := List.mem_iff_getElem?.mp hm
      obtain ⟨_, _, _, _, _, _, e⟩ := got j t.1 hj
      exact ltD _ _ e z
    · have hm := (List.of_mem_zip (a := t.1) (b := t.2) ((pm t).mp ht)).1
      obtain ⟨j, hj⟩ := List.mem_iff_getElem?.mp hm
      obtain ⟨_, _, _, _, _, _, e⟩ := got j t.1 hj
      rw [upd_ne (ltD _ _ e)]
      exact atP t ((pm t).mp ht)
    · rw [isortD_eq, ← hL, ← zs]
      exact PySem.W.sort_maps (r := PySem.W.dataLe false (fun t : Addr × (Int × Int) => pD t.2)) (s := leD) (l := as.zip ns) (fun t : Addr × (Int × Int) => pD t.2) (fun a _ b _ => rfl)
end
/-! ### what it gives -/
def intP : List (PyData × PyData) → Option (List (Int × Int))
  | [] => some []
  | (.int i, .int j) :: r => (intP r).map ((i, j) :: ·)
  | _ => none
def sortID : PyData → Option (List PyData)
  | .dict ((.none, .bool false) :: es) => (intP es).bind fun ns => if ns.length ≤ 1000 then some (isortD (ns.map pD)) else none
  | _ => none
theorem intP_kv {K : PySem.W.Frag} {S : AS} {H : Hp} : ∀ {kvs : List (Key × V)} {es : List (Key × PyData)} {ns : List (Int × Int)}, kvs.map (·.1) = es.map (·.1) → RpA K S H (kvs.map (·.2)) (es.map (·.2)) → intP (es.map fun p => (kD p.1, p.2)) = some ns → kvs = kvI ns
  | [], [], ns, _, _, e => by
    cases e
    rfl
  | [], _ :: _, _, h, _, _ => by simp at h
  | _ :: _, [], _, h, _, _ => by simp at h
  | (k, v) :: kvs, (k', d) :: es, ns, h, hs, e => by
    simp only [List.map_cons, List.cons.injEq] at h
    obtain ⟨rfl, h2⟩ := h
    cases hs with
    | cons h1 hs2 =>
      cases k with
      | inr x => cases e
      | inl i =>
        cases d with
        | int j =>
          obtain ⟨ms, e1, e2⟩ := Option.map_eq_some_iff.mp (show (intP (es.map fun p => (kD p.1, p.2))).map ((i, j) :: ·) = some ns from e)
          subst e2
          cases h1
          rw [intP_kv h2 hs2 e1]
          rfl
        | _ => cases e
def outSI (r : R) (ρ : Rho) : Out R := match deref ρ r with
  | some d => (match sortID d with
    | some l => .ok (.own (.lst l)) ρ
    | none => .bad)
  | none => .bad
def fSortItems (fa : EF) : EF := fun ρ => (fa ρ).bind outSI
@[simp] theorem s_fSortItems {fa : EF} {ρ : Rho} : fSortItems fa ρ = (fa ρ).bind outSI := rfl
@[simp] theorem s_outSI {r : R} {ρ : Rho} : outSI r ρ = (match deref ρ r with
  | some d => (match sortID d with
    | some l => .ok (.own (.lst l)) ρ
    | none => .bad)
  | none => .bad) := rfl
theorem rp_rows {K : PySem.W.Frag} {S : AS} {H : Hp} : ∀ (L : List (Addr × (Int × Int))), (∀ t ∈ L, ¬ S t.1 ∧ H t.1 = some (.tup [.int t.2.1, .int t.2.2])) → RpA K S H (L.map fun t => V.ref t.1) (L.map fun t => pD t.2)
  | [], _ => .nil
  | t :: L, h => by
    obtain ⟨h1, h2⟩ := h t List.mem_cons_self
    exact .cons (.tup h1 h2 (.cons (.int _) (.cons (.int _) .nil))) (rp_rows L fun u hu => h u (List.mem_cons_of_mem _ hu))
section
variable {X : Cx} {W : Wx} {e : Expr} {te : TE} {fe : EF} {p apos cpos pos : Pos}
theorem se_sortItems (hc : X.calm = true) (hu : X.A.units + 65 < cLine) (he : SE X W e te fe) (hg : Gl X "sorted") (hm : X.mg "sorted" = none) (hbase : attributeBase e "items" X.env (eval e X.env) = eval e X.env := by rfl) (hline : (apos.endLine == cpos.line) = true := by rfl)
    (hs : starEach [.Call (.Attribute e "items" apos) [] [] cpos] X.env = (false, eval (.Call (.Attribute e "items" apos) [] [] cpos) X.env) :: starEach [] X.env := by rfl) :
    SE X W (.Call (.Name "sorted" p) [.Call (.Attribute e "items" apos) [] [] cpos] [] pos) (tSortItems te) (fSortItems fe) := by
  refine ⟨pe_sortItems hc hu he.pe hg hm hbase hline hs, fun F S H σ ρ Q hK fok er hp => ?_⟩
  refine he.go hK fok er (wE F W σ Q) hp fun r ρ1 v S1 H1 t1 er1 rr _ hp1 => ?_
  have hp1 : PostE F W S1 H1 σ ρ1 (outSI r ρ1) Q := hp1
  unfold outSI at hp1
  cases qa : deref ρ1 r with
  | none => simp only [qa] at hp1; exact hp1.elim
  | some d =>
    simp only [qa] at hp1
    have rt := rr.rt er1 qa
    cases qn : sortID d with
    | none => simp only [qn] at hp1; exact hp1.elim
    | some l =>
      simp only [qn] at hp1
      cases d with
      | dict ds0 =>
        obtain ⟨b, rfl, hh⟩ := rt.dict
        rcases hh with ⟨kvs, es, eh, ek, hs, rfl⟩ | ⟨kvs, es, eh, ek, hs, rfl⟩
        · simp [dTd, sortID] at qn
        · obtain ⟨ns, e1, e2⟩ := Option.bind_eq_some_iff.mp (show (intP (es.map fun p => (kD p.1, p.2))).bind (fun ns => if ns.length ≤ 1000 then some (isortD (ns.map pD)) else none) = some l from qn)
          split at e2
          · rename_i hl
            cases e2
            have ekv := intP_kv ek hs e1
            subst ekv
            refine ⟨b, ns, rfl, eh, hl, fun H' p L kp hpn hL hLp hLt hD => ?_⟩
            have g : Grow F.K S1 H1 (fun a => S1 a ∨ a = p) H' (.ref p) (.own (.lst (isortD (ns.map pD)))) := by
              refine ⟨kp, p, rfl, hpn, rfl, L.map (fun t => V.ref t.1), hLp, ?_⟩
              rw [← hD]
              refine rp_rows L fun t ht => ⟨fun z => ?_, hLt t ht⟩
              rcases z with z | z
              · exact er1.dom _ z (hL t ht).1
              · exact (hL t ht).2 z
            obtain ⟨t, er', rr', fr'⟩ := g.step er1 fok
            exact hp1 _ _ _ t er' rr' fr'
          · cases e2
      | _ => simp [sortID] at qn
end
end Pv
set_option maxRecDepth 100000
/-! Pv6: raise of own classes, try .. except C as e with a plain suite. -/
namespace Pv
open PySem PySem.Spec L2 PyProof.Rows

/-! ### raise C() -/
/-- C(), an own exception class without own __init__ -/
theorem pmk_own0 {X : Cx} {C : Addr} {bmB : List Value} {B newId initId : String} {x : Str} {p pos : Pos} (F : ExcBaseFacts B newId initId bmB) (q : PySem.W.excIn X.K C bmB newId = true) (gC : X.mg x = some (.ref C))
    (kC : PySem.W.keepIn X.K (.ref C) = true) (r : Raises X (.ref C)) (hg : Gl X x) (hdb : (x == ("__debug__" : Str)) = false := by decide) :
    L2N.PMk X (.Call (.Name x p) [] [] pos) (fun _ H Q => Q (.ref C) none H) := by
  intro pins s σ H Q I h
  refine wpAny_Call_Name_kw (ld_glob I hg gC ?_ hdb)
  refine PySem.W.callWith_K0 I.kIn kC ?_
  show wpAny _ _ (call (.ref C) []) _ _ _
  obtain ⟨bm, N, nm, qn, bs, hdct, sn, sub, ab, col, dd, k0, k1, k2, k3, k5, mN, hC, hN, hni, T⟩ := exc_obj I.kIn q
  refine wpAny_call_exc_subT F T hC hN hni (fun h' e hm => ?_) (Nat.zero_le _)
  exact L2N.mk_of I hm r h (I.hok.gone hm.new)
/-- an own exception class, as who raises it needs it -/
structure XCls (K : PySem.W.Frag) (mg : Str → Option Value) (x : Str) (C : Addr) : Prop where
  mg : mg x = some (.ref C)
  kp : PySem.W.keepIn K (.ref C) = true
  ex : PySem.W.excIn K C [.type "ValueError", .type "Exception", .type "BaseException", .type "object"] "ValueError.__new__" = true
  sub : PySem.W.subIn K (.ref C) (.type "BaseException") = some true
  ty : PySem.W.typeIn K (.ref C) = some (.type "type")
  me : PySem.W.exmOne K (.ref C) (.ref C) = some true
/-- a class as an except clause needs it -/
structure XNm (K : PySem.W.Frag) (mg : Str → Option Value) (x : Str) (C : Addr) : Prop where
  mg : mg x = some (.ref C)
  me : PySem.W.exmOne K (.ref C) (.ref C) = some true
theorem XCls.nm {K : PySem.W.Frag} {mg : Str → Option Value} {x : Str} {C : Addr} (h : XCls K mg x C) : XNm K mg x C := ⟨h.mg, h.me⟩
def gRaise (C : Addr) : SF := fun ρ => .ex ⟨C, none⟩ ρ
theorem ss_raise {X : Cx} {W : Wx} {C : Addr} {x : Str} {p pos pos' : Pos} (hc : X.calm = true) (tk : L2N.Takes X W.w) (hC : XCls X.K X.mg x C) (hg : Gl X x) (hdb : (x == ("__debug__" : Str)) = false := by decide) :
    SS X W (.Raise (some (.Call (.Name x p) [] [] pos)) none pos') (fun _ σ H => W.w (.ref C) none σ H) (gRaise C) :=
  ⟨L2N.ps_raise hc tk (pmk_own0 PySem.F.excBase_ValueError hC.ex hC.mg hC.kp (raises_own hC.sub hC.ty) hg hdb), fun F S H σ ρ D hK fok er hp => hp (.ref C) none σ S H .refl er ⟨rfl, rfl⟩⟩

/-! ### try -/
/-- what stands behind the suite: the clause's name is gone -/
def goneS (i : Nat) : SO → SO
  | .nx ρ => .nx (ρ.set i .no)
  | .bk ρ => .bk (ρ.set i .no)
  | .ct ρ => .ct (ρ.set i .no)
  | .rt r ρ => .rt r ρ
  | _ => .bad
def hushed (ρ : Rho) (i : Nat) : Bool := match ρ[i]? with
  | some s => !isLent s
  | none => false
/-- what a suite leaves: slot i still is none of what is tracked -/
def goneOk (i : Nat) : SO → Bool
  | .nx ρ => hushed ρ i
  | .bk ρ => hushed ρ i
  | .ct ρ => hushed ρ i
  | .rt _ _ => true
  | _ => false
def gTryAs (C : Addr) (i : Nat) (body suite : SF) : SF := fun ρ => match body ρ with
  | .ex x ρ1 => if x.cls = C then (if hushed ρ1 i then (if goneOk i (suite (ρ1.set i .no)) then goneS i (suite (ρ1.set i .no)) else .bad) else .bad) else .bad
  | o => o
theorem hushed_at {ρ : Rho} {i : Nat} (h : hushed ρ i = true) : ∃ s, ρ[i]? = some s ∧ isLent s = false := by
  unfold hushed at h
  cases q : ρ[i]? with
  | none => rw [q] at h; cases h
  | some s => rw [q] at h; exact ⟨s, rfl, by simpa using h⟩
/-- nothing is let out -/
def noW (T : AS) : Wx := ⟨fun _ _ _ _ => False, T⟩
section
variable {X : Cx} {W : Wx} {x n : Str} {C : Addr} {i : Nat} {body suite : List Stmt} {b₀ : Stmt} {np pos pos' : Pos} {tb : WX → TS} {ts : TS} {gb gs : SF}
theorem ss_tryAs (hs : X.stack = X.env :: X.outer) (hf : X.env.frame = some X.env.locals) (hN : X.N.Nodup) (hi : X.N[i]? = some n) (hln : X.env.kindOf n = some .local) (hC : XNm X.K X.mg x C) (hg : Gl X x) (hdb : (x == ("__debug__" : Str)) = false) (tk : L2N.Takes X W.w)
    (hb : ∀ (w : WX) (pn : List (Addr × Obj)) (xe : Value → Shared → Prop), L2N.Takes (X.tr pn xe) w → PassesOwn (model X.prog X.w) X.A X.env xe → SSs (X.tr pn xe) ⟨w, W.T⟩ body (tb w) gb)
    (hsu : ∀ (a : Addr) (oe : Obj) (pn : List (Addr × Obj)), L2H.HotC (X.suite a ((a, oe) :: pn)) → SSs (X.suite a ((a, oe) :: pn)) (noW W.T) (b₀ :: suite) ts gs) :
    SS X W (.Try body [.ExceptHandler (some (.Name x np)) (some n) (b₀ :: suite) pos'] [] [] pos) (fun D σ H => tb (wAs X.K (.ref C) i (fun _ _ _ => ts) W.w D) D σ H) (gTryAs C i gb gs) := by
  refine ⟨L2N.ps_try_as (tb := tb) (ts := fun _ _ _ => ts) hs hf hN hi hln ⟨hg, hdb, .inl hC.mg⟩ tk (fun w pn xe t p => (hb w pn xe t p).ps) (fun a oe cls d pn hz ⟨vs, hd⟩ => (hsu a oe pn ⟨(a, oe), ⟨rfl, vs, hd, hz.2.2 vs hd⟩, List.mem_cons_self⟩).ps), fun F S H σ ρ D hK fok er hp => ?_⟩
  have hbody := hb (wAs X.K (.ref C) i (fun _ _ _ => ts) W.w D) [] (fun e s₁ => wpAny (model X.prog X.w) X.A (noteFrame e X.env) (fun _ s₂ => wpAny (model X.prog X.w) X.A (setFlight e none) (fun _ _ => True) (fun _ _ => True) s₂) (fun _ _ => True) s₁) (fun u s' xx => by
    obtain ⟨a, B, sI, pins', σ', H', cls, d, rfl, J', nb, up, sky, na, os, ag, hw⟩ := xx
    have hfr : X.A.frames = some (X.env :: X.outer) := by
      have := J'.ok.frames
      rw [← hs]; exact this
    have sky' : Sky B (X.env :: X.outer) a (L2N.Zn cls d) X.env.locals s'.heap := by rw [← hs]; exact sky
    show wpAny _ _ (noteFrame (.ref a) X.env) _ _ _
    exact L2N.Sky.land (Q := fun _ _ => True) L2N.Zn.steady hfr hf sky' fun h3 fl3 up3 => trivial) PassesOwn.looking
  refine hbody.sn F S H σ ρ D hK fok er ?_
  unfold gTryAs at hp
  cases q : gb ρ with
  | nx ρ1 => rw [q] at hp; exact hp
  | rt r ρ1 => rw [q] at hp; exact hp
  | bk ρ1 => rw [q] at hp; exact hp
  | ct ρ1 => rw [q] at hp; exact hp
  | bad => rw [q] at hp; exact hp
  | ex y ρ1 =>
    rw [q] at hp
    simp only at hp
    by_cases hy : y.cls = C
    · rw [if_pos hy] at hp
      by_cases h1 : hushed ρ1 i = true
      · rw [if_pos h1] at hp
        by_cases h2 : goneOk i (gs (ρ1.set i .no)) = true
        · rw [if_pos h2] at hp
          intro cls dx σ' S' H' t er' xr
          obtain ⟨e, _⟩ := xr
          refine ⟨true, by rw [e, hy]; exact hC.me, fun _ a ha => ?_, fun z => Bool.noConfusion z⟩
          obtain ⟨s1, e1, l1⟩ := hushed_at h1
          have er2 : ER F S' H' (σ'.set i (some (.ref a))) (ρ1.set i .no) := er'.setNo e1 l1
          refine (hsu a ⟨.none, none, .fields #[.none, .none, .none], #[]⟩ [] ⟨(a, _), ⟨rfl, _, rfl, rfl⟩, List.mem_cons_self⟩).sn F S' H' _ (ρ1.set i .no) _ hK fok er2 ?_
          have hp' := hp.shift t
          cases q2 : gs (ρ1.set i .no) with
          | nx ρ2 =>
            rw [q2] at hp' h2
            obtain ⟨s2, e2, l2⟩ := hushed_at (show hushed ρ2 i = true from h2)
            exact fun σ3 S3 H3 t3 er3 => hp' (σ3.set i none) S3 H3 t3 (er3.setNo e2 l2)
          | bk ρ2 =>
            rw [q2] at hp' h2
            obtain ⟨s2, e2, l2⟩ := hushed_at (show hushed ρ2 i = true from h2)
            exact fun σ3 S3 H3 t3 er3 => hp' (σ3.set i none) S3 H3 t3 (er3.setNo e2 l2)
          | ct ρ2 =>
            rw [q2] at hp' h2
            obtain ⟨s2, e2, l2⟩ := hushed_at (show hushed ρ2 i = true from h2)
            exact fun σ3 S3 H3 t3 er3 => hp' (σ3.set i none) S3 H3 t3 (er3.setNo e2 l2)
          | rt r ρ2 => rw [q2] at hp'; exact hp'
          | ex y2 ρ2 => rw [q2] at h2; cases h2
          | bad => rw [q2] at h2; cases h2
        · rw [if_neg h2] at hp; exact hp.elim
      · rw [if_neg h1] at hp; exact hp.elim
    · rw [if_neg hy] at hp; exact hp.elim
end
end Pv
set_option maxRecDepth 100000
set_option maxHeartbeats 1000000
/-! Pv7: in a suite that handles an exception: ends of walks, pairs of stores, for, calls. -/
namespace Pv
open PySem PySem.Spec L2 PyProof.Rows

section
variable {prog : Program} {w : World} {A : Around} {E : Value → Shared → Prop} {s : Shared}
/-- StopIteration, made and raised where an exception is handled -/
theorem next_tup_end_hot {it t x1 : Addr} {i : Nat} {items : Array Value} {Q : Option Value → Shared → Prop} (hot : HotX.HotAt A x1 s.heap) (hne : x1 ≠ it) (hit : IsTupIter s.heap it t i) (ht : IsTup s.heap t items) (hx : items[i]? = none)
    (hQ : ∀ h', Heap.ExtBut it s.heap h' → Q none { s with heap := h' }) : wpAny (model prog w) A (pyNext (.ref it)) Q E s := by
  obtain ⟨hh, o1, vs1, h1, d1, c1⟩ := hot
  obtain ⟨o, ho, hc, hd⟩ := id hit
  obtain ⟨ol, hol, _, nl, hdl⟩ := ht
  unfold pyNext
  refine wpAny_bind (wpAny_attempt (wpAny_callSpecial?_slot (name := Str.ofString "__next__") hit.typeIs slot_tupleiter_next
    (wpAny_call_entry slot_tupleiter_next hit.typeIs entry_tupleiter_next ?_ (args_tupleiter_next _))))
  show wpAny _ _ (field (.ref it) 0 >>= _) _ _ s
  refine wpAny_bind (wpAny_field ho hd (x := .ref t) rfl ?_)
  show wpAny _ _ (if (Value.ref t == Value.none) = true then _ else _) _ _ s
  rw [if_neg (show ¬ ((Value.ref t == Value.none) = true) from Bool.false_ne_true)]
  show wpAny _ _ (field (.ref it) 1 >>= _) _ _ s
  refine wpAny_bind (wpAny_field ho hd (x := .int i 0) rfl ?_)
  show wpAny _ _ (seqItems? (.ref t) >>= _) _ _ s
  refine wpAny_bind (wpAny_seqItems hol hdl ?_)
  simp only [Int.toNat_natCast, hx]
  refine wpAny_bind (wpAny_rule (wpAny_bind (wpAny_setField ho hd (by simp) ?_)))
  show wpAny _ _ (newExc (.type "StopIteration") [] >>= _) _ _ _
  refine wpAny_bind ?_
  simp only [newExc, newTuple]
  refine wpAny_bind (wpAny_newObj_type ?_ (by size_fits))
  refine wpAny_bind (m := firstArgMember _ _) (wpAny_of_eq (a := Value.none) (by first | rfl | (simp only [firstArgMember]; rfl)) ?_)
  refine wpAny_newObj_type ?_ (by size_fits)
  have h2 := (Heap.get?_update_other s.heap (Obj.mapFields (·.setIfInBounds 0 Value.none)) (Ne.symm hne)).trans h1
  refine HotX.raiseNew_hot ⟨hh, o1, vs1, Heap.get?_push_of_some _ (Heap.get?_push_of_some _ h2), d1, c1⟩ (Nat.ne_of_lt (Heap.lt_size (Heap.get?_push_of_some _ h2))) (Heap.get?_push_size _ rfl) rfl (by first | (simp; done) | (simp; omega) | (simp only [Array.size_append]; simp; omega)) ?_
  refine wpAny_bind (wpAny_isInstance (T := "StopIteration") (b := true) ⟨_, Heap.get?_update_self _ (Heap.get?_push_size _ rfl) rfl, rfl⟩ isSubtype_stop ?_)
  refine wpAny_pure (hQ _ fun b o hb e => ?_)
  have e0 := (Heap.SameBut.update s.heap it (Obj.mapFields (·.setIfInBounds 0 Value.none))).extBut b o hb e
  rw [Heap.get?_update_other _ _ (Nat.ne_of_gt (Heap.lt_size (Heap.get?_push_of_some _ e0)))]
  exact Heap.get?_push_of_some _ (Heap.get?_push_of_some _ e0)
theorem next_list_end_hot {it t x1 : Addr} {i : Nat} {items : Array Value} {Q : Option Value → Shared → Prop} (hot : HotX.HotAt A x1 s.heap) (hne : x1 ≠ it) (hit : s.heap.IsListIter it t i) (ht : s.heap.IsList t items) (hx : items[i]? = none)
    (hQ : ∀ h', Heap.ExtBut it s.heap h' → Q none { s with heap := h' }) : wpAny (model prog w) A (pyNext (.ref it)) Q E s := by
  obtain ⟨hh, o1, vs1, h1, d1, c1⟩ := hot
  obtain ⟨o, ho, hc, hd⟩ := id hit
  obtain ⟨ol, hol, _, nl, hdl⟩ := ht
  unfold pyNext
  refine wpAny_bind (wpAny_attempt (wpAny_callSpecial?_slot (name := Str.ofString "__next__") hit.typeIs slot_listiter_next
    (wpAny_call_entry slot_listiter_next hit.typeIs entry_listiter_next ?_ (args_listiter_next _))))
  show wpAny _ _ (field (.ref it) 0 >>= _) _ _ s
  refine wpAny_bind (wpAny_field ho hd (x := .ref t) rfl ?_)
  show wpAny _ _ (if (Value.ref t == Value.none) = true then _ else _) _ _ s
  rw [if_neg (show ¬ ((Value.ref t == Value.none) = true) from Bool.false_ne_true)]
  show wpAny _ _ (field (.ref it) 1 >>= _) _ _ s
  refine wpAny_bind (wpAny_field ho hd (x := .int i 0) rfl ?_)
  show wpAny _ _ (seqItems? (.ref t) >>= _) _ _ s
  refine wpAny_bind (wpAny_seqItems hol hdl ?_)
  simp only [Int.toNat_natCast, hx]
  refine wpAny_bind (wpAny_rule (wpAny_bind (wpAny_setField ho hd (by simp) ?_)))
  show wpAny _ _ (newExc (.type "StopIteration") [] >>= _) _ _ _
  refine wpAny_bind ?_
  simp only [newExc, newTuple]
  refine wpAny_bind (wpAny_newObj_type ?_ (by size_fits))
  refine wpAny_bind (m := firstArgMember _ _) (wpAny_of_eq (a := Value.none) (by first | rfl | (simp only [firstArgMember]; rfl)) ?_)
  refine wpAny_newObj_type ?_ (by size_fits)
  have h2 := (Heap.get?_update_other s.heap (Obj.mapFields (·.setIfInBounds 0 Value.none)) (Ne.symm hne)).trans h1
  refine HotX.raiseNew_hot ⟨hh, o1, vs1, Heap.get?_push_of_some _ (Heap.get?_push_of_some _ h2), d1, c1⟩ (Nat.ne_of_lt (Heap.lt_size (Heap.get?_push_of_some _ h2))) (Heap.get?_push_size _ rfl) rfl (by first | (simp; done) | (simp; omega) | (simp only [Array.size_append]; simp; omega)) ?_
  refine wpAny_bind (wpAny_isInstance (T := "StopIteration") (b := true) ⟨_, Heap.get?_update_self _ (Heap.get?_push_size _ rfl) rfl, rfl⟩ isSubtype_stop ?_)
  refine wpAny_pure (hQ _ fun b o hb e => ?_)
  have e0 := (Heap.SameBut.update s.heap it (Obj.mapFields (·.setIfInBounds 0 Value.none))).extBut b o hb e
  rw [Heap.get?_update_other _ _ (Nat.ne_of_gt (Heap.lt_size (Heap.get?_push_of_some _ e0)))]
  exact Heap.get?_push_of_some _ (Heap.get?_push_of_some _ e0)

/-- the items of a pair, taken where an exception is handled -/
theorem unpackItems_tuple_hot {t x1 : Addr} {items : Array Value} {Q : List Value → Shared → Prop} (hot : HotX.HotAt A x1 s.heap) (ht : IsTup s.heap t items)
    (hQ : ∀ h', Heap.ExtBut s.heap.objs.size s.heap h' → Q items.toList { s with heap := h' }) : wpAny (model prog w) A (unpackItems (.ref t) items.size none) Q E s := by
  obtain ⟨hh, o1, vs1, h1, d1, c1⟩ := hot
  have hlt : t ≠ s.heap.objs.size := by obtain ⟨o, ho, _⟩ := ht; exact Nat.ne_of_lt (Heap.lt_size ho)
  have hx1 : x1 ≠ s.heap.objs.size := Nat.ne_of_lt (Heap.lt_size h1)
  unfold unpackItems
  refine wpAny_bind ?_
  · unfold notIterableAtAll
    refine wpAny_bind (wpAny_specialOf ht.typeIs slot_tuple_iter.lookup ?_)
    refine wpAny_pure ?_
    simp only [Bool.false_eq_true, if_false]
    refine wpAny_bind (wpAny_holding (iter_tuple ht ?_))
    refine wpAny_bind (wpAny_holding (draw_tuple hlt items.size 0 _ _ ⟨_, Heap.get?_push_size _ rfl, rfl, rfl⟩ (ht.push _) (by omega) fun h₁ hit₁ hs₁ => ?_))
    have hall : List.take items.size (List.drop 0 items.toList) = items.toList := by
      rw [List.drop_zero]; exact List.take_of_length_le (by simp)
    rw [hall]
    rw [if_neg (by simp)]
    have ht₁ : IsTup h₁ t items := (ht.push _).extBut hs₁.extBut hlt
    have hot₁ : HotX.HotAt A x1 h₁ := ⟨hh, o1, vs1, hs₁.extBut x1 o1 hx1 (Heap.get?_push_of_some _ h1), d1, c1⟩
    refine wpAny_bind (wpAny_holding (next_tup_end_hot hot₁ hx1 hit₁ ht₁ (by simp) fun h₂ he₂ => ?_))
    simp only [Option.isSome_none, Bool.false_eq_true, if_false]
    refine wpAny_pure (hQ h₂ fun b o hb e => he₂ b o hb (hs₁.extBut b o hb (Heap.get?_push_of_some _ e)))
end

/-! ### stores -/
section
variable {X : Cx} {W : Wx} {ta : TA} {fr : RF}
theorem ps_parH {i j : Nat} {x y : Str} {a b : Expr} {ta : TA} {px py pt pos : Pos} {kt k2 pt2} (hc : L2H.HotC X) (hN : X.N.Nodup) (hi : X.N[i]? = some x) (hj : X.N[j]? = some y) (hij : i ≠ j)
    (hx : X.env.scope.names.lookup x = some .local) (hy : X.env.scope.names.lookup y = some .local) (ha : PA X [a, b] ta)
    (hw : swappedStores [.Tuple [.Name x px, .Name y py] kt pt] (.Tuple [a, b] k2 pt2) X.env = pure (some [x, y]))
    (hs : swapsWithSole [.Tuple [.Name x px, .Name y py] kt pt] (.Tuple [a, b] k2 pt2) pos.line X.env = pure false := by rfl) :
    PS X (.Assign [.Tuple [.Name x px, .Name y py] kt pt] (.Tuple [a, b] k2 pt2) pos) (tPar i j ta) := by
  refine ⟨fun pins s σ H D I h => ?_⟩
  rw [exec_Assign_arm]
  refine wpAny_bind (wpAny_standAt ?_)
  rw [hs]
  refine wpAny_bind (wpAny_pure ?_)
  rw [if_neg (by decide)]
  refine wpAny_bind (Tuple_ (thn (ha.run _ pins s σ H _ I h) fun us s1 ⟨vs, H1, I1, r1, q1⟩ => ?_))
  obtain ⟨v, w, e1, q1⟩ := q1
  subst e1
  obtain ⟨u1, u2, rfl, rv, rw'⟩ : ∃ u1 u2, us = [u1, u2] ∧ RelV v u1 ∧ RelV w u2 := by
    cases r1 with
    | cons p q =>
      cases q with
      | cons p' q' =>
        cases q'
        exact ⟨_, _, rfl, p, p'⟩
  refine wpAny_newObj_type ?_ (by show 2 ≤ sizeLine; decide)
  have I2 : Inv X pins σ H1 { s1 with heap := s1.heap.push { cls := .type "tuple", data := .seq [u1, u2].toArray } } := I1.kept (t' := s1.toks) fun b o e => Heap.get?_push_of_some _ e
  obtain ⟨x1, hot⟩ := hc.at I2
  rw [hw]
  refine wpAny_bind (wpAny_pure ?_)
  show wpAny (model X.prog X.w) X.A (do rule "assign.swapped-stores"; let items ← unpackItems (.ref s1.heap.objs.size) 2 none; assignInOrder [fun v => bindName X.env y v, fun v => bindName X.env x v] items.reverse; pure Flow.next) _ _ _
  refine wpAny_bind (wpAny_rule (wpAny_bind (unpackItems_tuple_hot (items := #[u1, u2]) hot (IsTup.new s1.heap _) fun h' hx' => ?_)))
  have I3 := I2.kept (h' := h') (t' := s1.toks) fun b o e => hx' b o (Nat.ne_of_lt (Heap.lt_size e)) e
  show wpAny _ _ (assignInOrder [fun v => bindName X.env y v, fun v => bindName X.env x v] [u2, u1] >>= fun _ => pure Flow.next) _ _ _
  refine wpAny_bind (assignInOrder_cons (wpAny_bindName (L2.store_ok I3 hN hj (.inl hy) rw' (fun s2 I4 => ?_) (.inr hy))))
  refine assignInOrder_cons (wpAny_bindName (L2.store_ok I4 hN hi (.inl hx) rv (fun s3 I5 => assignInOrder_nil (wpAny_pure ?_)) (.inr hx)))
  rw [List.set_comm _ _ (Ne.symm hij)] at I5
  exact ⟨_, H1, I5, q1⟩
theorem ss_par2H {i j : Nat} {x y : Str} {a b : Expr} {px py pt pos : Pos} {kt k2 pt2} (hc : L2H.HotC X) (hN : X.N.Nodup) (hi : X.N[i]? = some x) (hj : X.N[j]? = some y) (hij : i ≠ j)
    (hx : X.env.scope.names.lookup x = some .local) (hy : X.env.scope.names.lookup y = some .local) (ha : SAo X W [a, b] ta fr)
    (hw : swappedStores [.Tuple [.Name x px, .Name y py] kt pt] (.Tuple [a, b] k2 pt2) X.env = pure (some [x, y]))
    (hs : swapsWithSole [.Tuple [.Name x px, .Name y py] kt pt] (.Tuple [a, b] k2 pt2) pos.line X.env = pure false := by rfl) :
    SS X W (.Assign [.Tuple [.Name x px, .Name y py] kt pt] (.Tuple [a, b] k2 pt2) pos) (tPar i j ta) (gPar2 i j fr) := ⟨ps_parH hc hN hi hj hij hx hy ha.pa hw hs, sn_par2 ha⟩
end

/-! ### for -/
theorem turn_tupH {P : Program} {w : World} {K : PySem.W.Frag} {tg : Expr} (a it : Addr) : L2H.TurnH P w K tg (Itt K a) [it] it (fun i h => h.IsTupleIter it a i) where
  mem := by simp
  obj := (turn_tuple (P := P) (w := w) (K := K) (tg := tg) a it).obj
  keep := (turn_tuple (P := P) (w := w) (K := K) (tg := tg) a it).keep
  item := by
    intro X hP hw hK hc i pins s σ H E I hf st hg
    subst hP hw hK
    obtain ⟨xs, x, hq, hx⟩ := hg
    obtain ⟨its, rv, p, hz⟩ := I.tuple hq
    obtain ⟨u, hu, ru⟩ := rv.get hx
    obtain ⟨f0, f1, f2, f3, f4, f5⟩ := hf it (by simp)
    refine wpAny_pyNext_tuple_item st (show s.heap.IsTuple a its.toArray from p) (x := u) (by simpa using hu) fun h' st' sb => ?_
    have I1 : Inv X pins σ H { s with heap := h' } := I.turned (t' := s.toks) (fun b o hb e => (sb.2 b hb).trans e) f0 f1 f3 f4 f5
    obtain ⟨o, e, c, d⟩ := id st'
    exact ⟨u, rfl, go_of (s := { s with heap := h' }) e c d (by decide) ⟨x, H, I1, ru, ⟨rfl, fun ys hy => by rw [I.tuple_inj hy hq]; exact hx⟩, st', fun b hb => (hf b hb).1⟩⟩
  done := by
    intro X hP hw hK hc i pins s σ H E I hf st hg
    subst hP hw hK
    obtain ⟨xs, hq, hx⟩ := hg
    obtain ⟨its, rv, p, hz⟩ := I.tuple hq
    obtain ⟨f0, f1, f2, f3, f4, f5⟩ := hf it (by simp)
    obtain ⟨p1, ⟨hh, v1, e1, c1⟩, hp⟩ := hc
    have hl := rv.length
    exact next_tup_end_hot ⟨hh, p1.2, v1, (I.pin p1 (List.mem_append_left _ hp)).1, e1, c1⟩ (f5 p1 (List.mem_append_left _ hp)) st (show IsTup s.heap a its.toArray from p) (by simp; omega) fun h' eb => ⟨rfl, I.turned (t' := s.toks) (fun b o hb e => eb b o hb e) f0 f1 f3 f4 f5⟩
  self := (turn_tuple (P := P) (w := w) (K := K) (tg := tg) a it).self
theorem turn_listH {P : Program} {w : World} {K : PySem.W.Frag} {tg : Expr} (a it : Addr) : L2H.TurnH P w K tg (Itl K a) [it] it (fun i h => h.IsListIter it a i) where
  mem := by simp
  obj := (turn_list (P := P) (w := w) (K := K) (tg := tg) a it).obj
  keep := (turn_list (P := P) (w := w) (K := K) (tg := tg) a it).keep
  item := by
    intro X hP hw hK hc i pins s σ H E I hf st hg
    subst hP hw hK
    obtain ⟨xs, x, hq, hx⟩ := hg
    obtain ⟨its, rv, p, hz⟩ := I.list hq
    obtain ⟨u, hu, ru⟩ := rv.get hx
    obtain ⟨f0, f1, f2, f3, f4, f5⟩ := hf it (by simp)
    refine wpAny_pyNext_list_item st p.isList (x := u) (by simpa using hu) fun h' st' sb => ?_
    have I1 : Inv X pins σ H { s with heap := h' } := I.turned (t' := s.toks) (fun b o hb e => (sb.2 b hb).trans e) f0 f1 f3 f4 f5
    obtain ⟨o, e, c, d⟩ := id st'
    exact ⟨u, rfl, go_of (s := { s with heap := h' }) e c d (by decide) ⟨x, H, I1, ru, ⟨rfl, fun ys hy => by rw [I.list_inj hy hq]; exact hx⟩, st', fun b hb => (hf b hb).1⟩⟩
  done := by
    intro X hP hw hK hc i pins s σ H E I hf st hg
    subst hP hw hK
    obtain ⟨xs, hq, hx⟩ := hg
    obtain ⟨its, rv, p, hz⟩ := I.list hq
    obtain ⟨f0, f1, f2, f3, f4, f5⟩ := hf it (by simp)
    obtain ⟨p1, ⟨hh, v1, e1, c1⟩, hp⟩ := hc
    have hl := rv.length
    exact next_list_end_hot ⟨hh, p1.2, v1, (I.pin p1 (List.mem_append_left _ hp)).1, e1, c1⟩ (f5 p1 (List.mem_append_left _ hp)) st p.isList (by simp; omega) fun h' eb => ⟨rfl, I.turned (t' := s.toks) (fun b o hb e => eb b o hb e) f0 f1 f3 f4 f5⟩
  self := (turn_list (P := P) (w := w) (K := K) (tg := tg) a it).self
section
variable {X : Cx} {W : Wx} {tg iter l : Expr} {body : List Stmt} {wi : TI} {t : TG} {tl : TE} {tb : TS} {fi : IF} {fl : EF} {gt : GF} {gb : SF} {pos : Pos} {is : List Nat}
theorem pi_seqH (hl : PE X l tl) : L2H.PIH X tg l (iSeq X.K tl) := by
  refine ⟨fun pins s σ H R I h => ?_⟩
  refine thn (hl.run pins s σ H _ I h) fun v s1 ⟨x, H1, I1, r1, q1⟩ => ?_
  obtain ⟨a, e, q⟩ := q1
  subst e
  cases r1
  rcases q with ⟨⟨xs, hq⟩, q⟩ | ⟨⟨xs, hq⟩, q⟩
  · obtain ⟨its, rv, p, hz⟩ := I1.list hq
    refine wpAny_pyIter_list p.isList ?_
    refine ⟨s1.heap.objs.size, [s1.heap.objs.size], _, _, H1, rfl, I1.kept (t' := s1.toks) fun b o e => Heap.get?_push_of_some _ e, turn_listH a _, ⟨_, Heap.get?_push_size _ rfl, rfl, rfl⟩, fun b hb => ?_, q⟩
    have e : b = s1.heap.objs.size := by simpa using hb
    subst e
    exact I1.fpOk (Nat.le_refl _) (I1.hok.fresh (Nat.le_refl _))
  · obtain ⟨its, rv, p, hz⟩ := I1.tuple hq
    refine wpAny_pyIter_tuple (show s1.heap.IsTuple a its.toArray from p) ?_
    refine ⟨s1.heap.objs.size, [s1.heap.objs.size], _, _, H1, rfl, I1.kept (t' := s1.toks) fun b o e => Heap.get?_push_of_some _ e, turn_tupH a _, ⟨_, Heap.get?_push_size _ rfl, rfl, rfl⟩, fun b hb => ?_, q⟩
    have e : b = s1.heap.objs.size := by simpa using hb
    subst e
    exact I1.fpOk (Nat.le_refl _) (I1.hok.fresh (Nat.le_refl _))
structure SIH (X : Cx) (W : Wx) (tg iter : Expr) (wi : TI) (f : IF) : Prop where
  pi : L2H.PIH X tg iter wi
  sn : ∀ (F : Fx) (S : AS) (H : Hp) (σ : L2.St) (ρ : Rho) (Rr : It → Hp → Prop), F.K = X.K → F.Ok W.T → ER F S H σ ρ → PostI F W S H σ ρ (f ρ) Rr → wi σ H Rr
theorem si_seqH (hl : SE X W l tl fl) : SIH X W tg l (iSeq X.K tl) (fISeq fl) := ⟨pi_seqH hl.pe, (si_seq (tg := tg) hl).sn⟩
theorem si_seqkH {K : PySem.W.Frag} (hK : X.K = K) (hl : SE X W l tl fl) : SIH X W tg l (iSeq K tl) (fISeq fl) := by subst hK; exact si_seqH hl
theorem ss_forH (hp : PassesOwn (model X.prog X.w) X.A X.env X.xe) (hc : L2H.HotC X) (hi : SIH X W tg iter wi fi) (hg : SG X tg t gt is) (hb : SSs X W body tb gb) (hs : ∀ x, foldedSetIterable iter X.env x = pure x := by intro _; rfl) :
    SS X W (.For tg iter body [] pos) (tFor wi t tb) (gFor fi gt gb) := ⟨L2H.ps_forH hp hc hi.pi hg.pg hb.ps hs, sn_for hi.sn hg hb⟩
end

/-! ### defs and calls -/
/-- a def of the text, as a suite's call needs it -/
structure CalH (P : Program) (w : World) (K : PySem.W.Frag) (mg : Str → Option Value) (base : Heap) (T : AS) (x : Str) (k : Nat) (ps : List Str) (Fn : FN) (f : Addr) (fd : FuncData) : Prop where
  ok : L2H.FnH P w K mg base (L2N.CX P w) k f fd ps (spF K T ps.length Fn)
  mg : mg x = some (.ref f)
  kp : PySem.W.keepIn K (.ref f) = true
  bi : Binds K fd ps []
section
variable {P : Program} {w : World} {K : PySem.W.Frag} {mg : Str → Option Value} {base : Heap}
theorem fn_pvH {T : AS} {x qual : Str} {st : Stmt} {f : Addr} {fd : FuncData} {N ps : List Str} {k : Nat} {g : SF} (F : Fun K x qual st f fd) (Sc : FnScope N ps (defScope st))
    (hbody : ∀ (cdv : Value) (A : Around) (outer : List Env) (s : Shared) (H : Hp) (E : XK) (p : Addr × Obj), L2H.RoomH k (A.deeper (PyProof.Rows.envOfC qual (defScope st) s.heap.objs.size f cdv)) → L2H.HotC (L2H.cxH (L2N.CX P w) P w K mg base N qual (defScope st) f cdv A outer s H E p) →
      ∃ t, SSs (L2H.cxH (L2N.CX P w) P w K mg base N qual (defScope st) f cdv A outer s H E p) ⟨fun cls d _ H => E cls d H, T⟩ (defBody st) t g) : L2H.FnH P w K mg base (L2N.CX P w) (k + 1) f fd ps (spF K T ps.length (fnF N.length g)) := by
  obtain ⟨oc, od, kV, doc, pm, an, cdv, ct, osl, rfl, lk, hcd⟩ := F.ex
  refine L2H.fn_ofH lk hcd Sc spF_len fun A outer s H vs Q E p hot hr hsp => ?_
  obtain ⟨t, ht⟩ := hbody cdv A outer s H E p hr ⟨p, hot, List.mem_cons_self⟩
  exact ⟨t, ht.ps, sn_fn (by have := congrArg List.length Sc.pre; rw [List.length_take] at this; omega) (fun F S H σ ρ D hK => ht.sn F S H σ ρ D hK) hsp⟩
end
section
variable {X : Cx} {W : Wx} {e : Expr} {es : List Expr} {t : TA} {fr : RF} {k : Nat} {f : Addr} {fd : FuncData} {ps : List Str} {Fn : FN} {x : Str} {p pos : Pos}
theorem se_callH (K : PySem.W.Frag) (hK : X.K = K) (C : CalH X.prog X.w K X.mg X.base W.T x k ps Fn f fd) (hr : L2H.RoomH k X.A) (hc : L2H.HotC X) (tk : L2N.Takes X W.w) (hg : Gl X x) (ha : SAc X W (e :: es) t fr) (hn : (e :: es).length = ps.length := by rfl) (hdb : (x == ("__debug__" : Str)) = false := by decide)
    (he : starEach (e :: es) X.env = (false, eval e X.env) :: starEach es X.env := by rfl) (hpl : (backTo pos (starEach es X.env)).any (·.1) = false := by rfl) :
    SE X W (.Call (.Name x p) (e :: es) [] pos) (tCallS (spF K W.T ps.length Fn) (WE W.w) t) (fCall Fn fr) := by
  subst hK
  exact ⟨L2H.pe_callH C.ok hr hc hg C.mg C.kp C.bi (L2N.passAt tk) ha.pa hdb he hpl, sn_callS ha hn⟩
/-- nothing is let out of a suite -/
theorem takes_no {a : Addr} {pn : List (Addr × Obj)} {T : AS} : L2N.Takes (X.suite a pn) (noW T).w := fun u s' ⟨_, _, _, _, _, _, _, _, _, _, _, _, _, _, _, _, w⟩ => w
end
theorem takes0N {X : Cx} : L2N.Takes X (fun _ _ _ _ => False) := fun u s' ⟨_, _, _, _, _, _, _, _, _, _, _, _, _, _, _, _, w⟩ => w.elim
theorem roomH_mark {k : Nat} {A : Around} {h : Option Value} (r : Room k A) : L2H.RoomH k (A.mark h) := ⟨r.dp, r.un⟩
theorem hH1 {A : Around} {k : Nat} (h : L2H.RoomH k A) : A.units + 1 < cLine := by have := h.un; omega
theorem hH64 {A : Around} {k : Nat} (h : L2H.RoomH k A) : A.units + 64 < cLine := by have := h.un; omega
theorem hH65 {A : Around} {k : Nat} (h : L2H.RoomH k A) : A.units + 65 < cLine := by have := h.un; omega
end Pv
set_option maxRecDepth 100000
set_option maxHeartbeats 4000000
/-! Pv8: sorted(set(..)) of ints; xs.index(y). -/
namespace Pv
open PySem PySem.Spec L2
open PyProof.Rows hiding St

section
variable {P : Program} {w : World} {A : Around} {E : Value → Shared → Prop} {s : Shared}
/-- a set made of ints met so far -/
def MetI (w : World) (h : Heap) (a : Addr) (ns : List Int) (i : Nat) : Prop := ∃ (Sf : Int → Bool) (m : Nat), SetR w h a Sf m ∧ (∀ k, Sf k = true ↔ k ∈ ns.take i) ∧ m ≤ i
theorem loop_ints {I : Addr} {fp wr : List Addr} {G : Array GenState → Array GenState → Prop} {n : Nat} {V0 : Nat → Value → Prop} {St : Nat → Shared → Prop} {R : Result → Shared → Prop}
    (W : WalksS P w A.in1 I fp wr G n V0 St) (a : Addr) (ha : a ∉ fp) (ns : List Int) (hn : n = ns.length) (hfew : ns.length < 64) (hval : ∀ i v, V0 i v → ∃ x t, ns[i]? = some x ∧ v = .int x t) :
    ∀ (left i : Nat) (s : Shared), n - i = left → i ≤ n → St i s → MetI w s.heap a ns i →
      (∀ s', Moved (a :: wr) G s s' → MetI w s'.heap a ns n → R (.ok (.ret .none)) s') →
      codeAny (model P w) A (.builtin "set.update.loop" ⟨[.ref a, .ref I], []⟩) R s := by
  have haw : a ∉ wr := fun z => ha (W.sub _ z)
  have up : ∀ b ∈ wr, b ∈ a :: wr := fun b hb => List.mem_cons_of_mem _ hb
  intro left
  induction left with
  | zero =>
    intro i s hk hi hst ⟨Sf, m, hS, hm1, hm2⟩ hR
    have hin : i = n := by omega
    subst hin
    refine codeAny_builtin F.entry_set_update_loop ?_
    rw [Around.under_plainId F.plain_set_update_loop _]
    show wpAny _ A.in1 (pyNext (.ref I) >>= _) _ _ s
    refine wpAny_bind (W.done s _ _ hst fun s' hm => ?_)
    show wpAny _ A.in1 (ret Value.none) _ _ s'
    exact wpAny_pure (hR s' (hm.mono up) ⟨Sf, m, hS.at fun o e => hm.heap a o haw e, hm1, hm2⟩)
  | succ left ih =>
    intro i s hk hi hst ⟨Sf, m, hS, hm1, hm2⟩ hR
    have hlt : i < n := by omega
    refine codeAny_builtin F.entry_set_update_loop ?_
    rw [Around.under_plainId F.plain_set_update_loop _]
    show wpAny _ A.in1 (pyNext (.ref I) >>= _) _ _ s
    refine wpAny_bind (W.item i s _ _ hlt hst fun v s' hP hst' hm => ?_)
    obtain ⟨x, t, hx, rfl⟩ := hval i v hP
    have hS' : SetR w s'.heap a Sf m := hS.at fun o e => hm.heap a o haw e
    show wpAny _ A.in1 (holding [Value.int x t] (setAdd a (.int x t)) >>= _) _ _ s'
    refine wpAny_bind (wpAny_holding ?_)
    unfold setAdd
    refine wpAny_holding ?_
    refine wpAny_bind ((intKind P w).pyHash (k := x) (intKind_is _ _ _ _) ?_)
    have hroom : m + 1 < scanBound := by unfold scanBound; omega
    refine setR_add_hashed (s := { s' with toks := s'.toks + 1 }) hS' hroom fun h' hsb hS2 => ?_
    have g' : MetI w h' a ns (i + 1) := by
      refine ⟨_, _, hS2, fun k => ?_, ?_⟩
      · rw [List.take_add_one, hx]
        simp only [Bool.or_eq_true, decide_eq_true_eq, hm1, Option.toList_some, List.mem_append, List.mem_singleton]
      · split <;> omega
    refine wpAny_pure ⟨plainId_quiet F.plain_set_update_loop _, ih (i + 1) _ (by omega) hlt (W.frame _ s' _ _ hst' (Nat.le_succ _) fun b hb o e => ?_) g' fun s'' hm'' g'' => ?_⟩
    · rw [hsb.2 b (fun h : b = a => ha (by rw [← h]; exact hb))]; exact e
    · refine hR s'' (Moved.trans W.gtrans ((hm.mono up).then_heap (Nat.le_succ _) fun b o hb e => ?_) hm'') g''
      rw [hsb.2 b (fun h : b = a => hb (by rw [h]; exact List.mem_cons_self))]; exact e
/-- set of a list of ints -/
theorem call_set_ints {l : Addr} {items : Array Value} (ns : List Int) {Q : Value → Shared → Prop} (hh : A.handled = none) (hl : s.heap.IsList l items) (hit : IntsAre items.toList ns) (hfew : ns.length < 64)
    (h : ∀ (h' : Heap) (tk : Nat), MetI w h' s.heap.objs.size ns ns.length → (∀ b o, s.heap.get? b = some o → h'.get? b = some o) → Q (.ref s.heap.objs.size) { s with heap := h', toks := tk }) :
    wpAny (model P w) A (call (.type "set") [.ref l]) Q E s := by
  have hisz : items.size = ns.length := by
    have q := IntsAre.length hit
    rwa [Array.length_toList] at q
  generalize hE : ({ cls := .type "set", dict := none, data := .set #[] 0 (.fresh 0 0 (!w.params.followText "set-order")) } : Obj) = eo
  have heo : eo.isFreed = false := by rw [← hE]; rfl
  obtain ⟨c, tl, hmro⟩ := F.called_set.mro
  have hmade := F.called_set.made
  have hsub := F.called_set.sub
  refine wpAny_call (codeAny_of_tree ?_)
  show wpAny _ _ (callAny (.type "set") _) _ _ _
  refine wpAny_pure ⟨Code.quiet_builtin _ (by decide +kernel), codeAny_builtin F.entry_type_call ?_⟩
  rw [Around.under_plain (weight_type_call_type "set" [.ref l] []) rfl]
  have h1 := F.called_set.notType
  have h2 := F.called_set.canCreate
  have hct := F.typeCall_set_1 (.ref l)
  repeat (any_goals (first | assumption | wp_step))
  refine codeAny_mono (code_set_led1 (.ref l) (E := E) (Q₁ := fun obj s₁ => obj = .ref s.heap.objs.size ∧ s₁ = { s with heap := s.heap.push eo }) (by rw [← hE]; exact ⟨rfl, rfl⟩)) fun r s₁ hr => ?_
  cases r with
  | error e => exact hr
  | ok fl =>
    cases fl with
    | ret obj =>
      obtain ⟨rfl, rfl⟩ := hr
      have hS : (s.heap.push eo).get? s.heap.objs.size = some eo := Heap.get?_push_size _ heo
      have hT : Shared.TypeIs { s with heap := s.heap.push eo } (.ref s.heap.objs.size) "set" := ⟨_, hS, by rw [← hE]⟩
      have hli := F.called_set.init.lookup
      have hbi := F.called_set.init.bind (.ref s.heap.objs.size)
      repeat (any_goals (first | assumption | wp_step))
      refine codeAny_mono (codeAny_call_builtin (R := wants (fun r s₂ => r = .none ∧ ∃ h' tk, s₂ = { s with heap := h', toks := tk } ∧ MetI w h' s.heap.objs.size ns ns.length ∧
          (∀ b o, s.heap.get? b = some o → h'.get? b = some o)) E) F.called_set.init.plain F.entry_set_init (check_set_init_1 hT ?_)) fun r₂ s₂ hr₂ => ?_
      · have hl1 : (s.heap.push eo).IsList l items := hl.push _
        obtain ⟨ol, hol, hcl, nl, hdl⟩ := id hl1
        obtain ⟨ocls, odict, odata, oslots⟩ := ol
        simp only at hcl hdl
        subst hcl; subst hdl
        have hsls := F.sub_list_set
        have hslf := F.sub_list_frozenset
        have hne : (Value.type "list" == Value.type "dict") = false := by decide
        have hlS : l < s.heap.objs.size := let ⟨_, e, _⟩ := hl; Heap.lt_size e
        subst hE
        unfold Builtin.«set.__init__» noKeywords Builtin.Frozenset.updateFrom
        generalize hPI : pyIter = PI
        wp_walk
        subst hPI
        refine wpAny_pyIter_list hl1 ?_
        refine wpAny_bind (wpAny_runValue ?_)
        have hh3 : A.in1.in1.in1.handled = none := by simp [hh]
        have sz : (s.heap.push ({ cls := .type "set", dict := none, data := .set #[] 0 (.fresh 0 0 (!w.params.followText "set-order")) } : Obj)).objs.size = s.heap.objs.size + 1 := Heap.size_push ..
        have hneI : l ≠ (s.heap.push { cls := .type "set", dict := none, data := .set #[] 0 (.fresh 0 0 (!w.params.followText "set-order")) }).objs.size := by
          rw [sz]; exact Nat.ne_of_lt (Nat.lt_succ_of_lt hlS)
        have hSf : s.heap.objs.size ∉ [(s.heap.push { cls := .type "set", dict := none, data := .set #[] 0 (.fresh 0 0 (!w.params.followText "set-order")) }).objs.size, l] := by
          rw [sz]; simp only [List.mem_cons, List.not_mem_nil, or_false, not_or]
          exact ⟨Nat.ne_of_lt (Nat.lt_succ_self _), Nat.ne_of_gt hlS⟩
        have hval : ∀ (i : Nat) (v : Value), items[i]? = some v → ∃ x t, ns[i]? = some x ∧ v = .int x t := fun i v hv => by
          obtain ⟨t, et⟩ := IntsAre.int_at hit i v (by rw [Array.getElem?_toList]; exact hv)
          have hi : i < ns.length := by
            rw [← hisz]
            exact (Array.getElem?_eq_some_iff.mp hv).1
          refine ⟨ns[i], t, List.getElem?_eq_getElem hi, ?_⟩
          rw [et, List.getD_eq_getElem?_getD, List.getElem?_eq_getElem hi]
          rfl
        have none_of : ∀ b, s.heap.objs.size ≤ b → s.heap.get? b = none := fun b hb => Heap.get?_none_of_le hb
        refine loop_ints ((Walks.list hh3 _ l hneI items).toS) s.heap.objs.size
          hSf ns hisz hfew hval (items.size - 0) 0 _ (by omega) (Nat.zero_le _)
          ⟨⟨_, Heap.get?_push_size _ rfl, rfl, rfl⟩, (hl1.push _)⟩ ?hS0 ?hR
        case hS0 =>
          refine ⟨fun _ => false, 0, (setR_fresh (h := s.heap) w).at fun o e => Heap.get?_push_of_some _ e, fun k => ?_, Nat.le_refl _⟩
          rw [List.take_zero]
          exact ⟨(fun z => nomatch z), (fun z => absurd z (by simp))⟩
        case hR =>
          intro s' hm g'
          obtain ⟨h', g2, d', tk', os'⟩ := s'
          have eg : g2 = s.gens := hm.gens
          have ed : d' = s.drawn := hm.drawn
          have eo : os' = s.os := hm.os
          subst eg; subst ed; subst eo
          show wpAny _ _ _ _ _ _
          refine wpAny_pure ?_
          show wpAny _ _ (ret Value.none) _ _ _
          rw [hisz] at g'
          refine wpAny_pure ⟨rfl, h', tk', rfl, g', fun b o e => ?_⟩
          have hb := Heap.lt_size e
          refine hm.heap b o ?_ (Heap.get?_push_of_some _ (Heap.get?_push_of_some _ e))
          rw [sz]
          simp only [List.mem_cons, List.mem_singleton, List.not_mem_nil, or_false, not_or]
          exact ⟨Nat.ne_of_lt hb, Nat.ne_of_lt (Nat.lt_succ_of_lt hb)⟩
      · cases r₂ with
        | error e => exact hr₂
        | ok fl₂ =>
          cases fl₂ with
          | ret r =>
            obtain ⟨rfl, h', tk, rfl, g', hk'⟩ := hr₂
            repeat (any_goals (first | assumption | wp_step))
            exact h _ _ g' hk'
          | _ => exact hr₂.elim
    | _ => exact hr.elim
end

/-! ### ints in order, each once -/
def insU (x : Int) : List Int → List Int
  | [] => [x]
  | y :: l => if x < y then x :: y :: l else if x = y then y :: l else y :: insU x l
def sortU (l : List Int) : List Int := l.foldr insU []
theorem mem_insU {x z : Int} : ∀ {l : List Int}, z ∈ insU x l ↔ z = x ∨ z ∈ l
  | [] => by simp [insU]
  | y :: l => by
    unfold insU
    split
    · simp
    · split
      · rename_i h
        subst h
        simp
      · rw [List.mem_cons, mem_insU, List.mem_cons]
        constructor
        · rintro (h | h | h)
          · exact .inr (.inl h)
          · exact .inl h
          · exact .inr (.inr h)
        · rintro (h | h | h)
          · exact .inr (.inl h)
          · exact .inl h
          · exact .inr (.inr h)
theorem mem_sortU {z : Int} : ∀ {l : List Int}, z ∈ sortU l ↔ z ∈ l
  | [] => by simp [sortU]
  | x :: l => by
    show z ∈ insU x (sortU l) ↔ _
    rw [mem_insU, mem_sortU, List.mem_cons]
theorem insU_asc {x : Int} : ∀ {l : List Int}, l.Pairwise (· < ·) → (insU x l).Pairwise (· < ·)
  | [], _ => List.pairwise_singleton _ _
  | y :: l, h => by
    obtain ⟨h1, h2⟩ := List.pairwise_cons.mp h
    unfold insU
    split
    · rename_i c
      refine List.pairwise_cons.mpr ⟨fun z hz => ?_, h⟩
      rcases List.mem_cons.mp hz with e | hz
      · rw [e]; exact c
      · exact Int.lt_trans c (h1 z hz)
    · split
      · exact h
      · rename_i c1 c2
        refine List.pairwise_cons.mpr ⟨fun z hz => ?_, insU_asc h2⟩
        rcases mem_insU.mp hz with e | hz
        · rw [e]; omega
        · exact h1 z hz
theorem sortU_asc : ∀ (l : List Int), (sortU l).Pairwise (· < ·)
  | [] => .nil
  | x :: l => insU_asc (sortU_asc l)
theorem asc_ext : ∀ {a b : List Int}, a.Pairwise (· < ·) → b.Pairwise (· < ·) → (∀ z, z ∈ a ↔ z ∈ b) → a = b
  | [], [], _, _, _ => rfl
  | [], y :: b, _, _, h => absurd ((h y).mpr List.mem_cons_self) (by simp)
  | x :: a, [], _, _, h => absurd ((h x).mp List.mem_cons_self) (by simp)
  | x :: a, y :: b, ha, hb, h => by
    obtain ⟨a1, a2⟩ := List.pairwise_cons.mp ha
    obtain ⟨b1, b2⟩ := List.pairwise_cons.mp hb
    have e : x = y := by
      rcases List.mem_cons.mp ((h x).mp List.mem_cons_self) with e | e
      · exact e
      · rcases List.mem_cons.mp ((h y).mpr List.mem_cons_self) with e2 | e2
        · exact e2.symm
        · have := b1 x e
          have := a1 y e2
          omega
    subst e
    rw [asc_ext a2 b2 fun z => ?_]
    constructor
    · intro hz
      rcases List.mem_cons.mp ((h z).mp (List.mem_cons_of_mem _ hz)) with e | e
      · have := a1 z hz; omega
      · exact e
    · intro hz
      rcases List.mem_cons.mp ((h z).mpr (List.mem_cons_of_mem _ hz)) with e | e
      · have := b1 z hz; omega
      · exact e
def sortUD : PyData → Option (List PyData)
  | .list ds => (intsD ds).bind fun ns => if ns.length < 64 then some ((sortU ns).map .int) else none
  | _ => none
def outSu (r : R) (ρ : Rho) : Out R := match deref ρ r with
  | some d => (match sortUD d with
    | some l => .ok (.own (.lst l)) ρ
    | none => .bad)
  | none => .bad
def fSortSetI (fa : EF) : EF := fun ρ => (fa ρ).bind outSu
section
variable {X : Cx} {W : Wx} {a : Expr} {ta : TE} {fa : EF} {p p2 q pos : Pos}
def tSortSetI (K : PySem.W.Frag) (ta : TE) : TE := fun σ H Q => ta σ H fun x H1 => ∃ (l : Addr) (ns : List Int), x = V.ref l ∧ SqL K H1 l (ns.map V.int) ∧ ns.length < 64 ∧
  ∀ (p : Addr), H1 p = none → Q (.ref p) (upd H1 p (.lst ((sortU ns).map V.int)))
theorem pe_sortSetI (hc : X.calm = true) (hg : Gl X "sorted") (hm : X.mg "sorted" = none) (hg2 : Gl X "set") (hm2 : X.mg "set" = none) (ha : PE X a ta)
    (na : starEach [a] X.env = (false, eval a X.env) :: starEach [] X.env := by rfl) : PE X (.Call (.Name "sorted" p) [.Call (.Name "set" p2) [a] [] q] [] pos) (tSortSetI X.K ta) := by
  refine ⟨fun pins s σ H Q I h => ?_⟩
  refine Call_ (ld_blt I hg hm (by rfl) ?_)
  refine PyProof.Rows.callWith_builtin1 (PyProof.Rows.args_cons ?_ rfl) rfl rfl
  refine Call_ (ld_blt I hg2 hm2 PyProof.Rows.boot_set ?_)
  refine PyProof.Rows.callWith_type1 (PyProof.Rows.args_cons (thn (ha.run pins s σ H _ I h) fun v s1 ⟨x, H1, I1, r1, q1⟩ => PyProof.Rows.args_nil ?_) na) na rfl
  obtain ⟨l, ns, rfl, hq, hf, q1⟩ := q1
  cases r1
  obtain ⟨its, rv, pl, hz⟩ := I1.list hq
  refine call_set_ints (P := X.prog) (w := X.w) ns (I1.ok.hd hc) pl.isList (by simpa using ints_of_vals rv) hf fun h' tk g k => ?_
  refine PyProof.Rows.args_nil ?_
  have I2 : Inv X pins σ H1 { s1 with heap := h', toks := tk } := I1.kept k
  obtain ⟨Sf, m, R, hm1, hm2⟩ := g
  refine sorted_set (s := { s1 with heap := h', toks := tk }) R (I1.ok.hd hc) (by omega) fun s' p out c ms k2 gg o hp hgo hi pw hmem hlen => ?_
  have em : ms = sortU ns := asc_ext pw (sortU_asc ns) fun z => by rw [hmem, hm1, List.take_length, mem_sortU]
  subst em
  have hlen2 : ((sortU ns).map V.int).length ≤ sizeLine := by rw [List.length_map, hlen, sizeLine_eq]; omega
  have hn : H1 p = none := I2.hok.fresh hp
  have J : Inv X pins σ (upd H1 p (.lst ((sortU ns).map V.int))) s' :=
    I2.call' (ch := []) o (Un.laid k2 hp hn) (I2.hok.laid k2 hp ⟨hlen2, out.toList, c, vals_of_ints hi, hgo⟩) (by rw [gg]; exact I2.bare) (fun _ z => nomatch z)
  exact ⟨.ref p, _, J, rfl, q1 p hn⟩
theorem rp_ints {K : PySem.W.Frag} {S : AS} {H : Hp} : ∀ (ns : List Int), RpA K S H (ns.map V.int) (ns.map PyData.int)
  | [] => .nil
  | n :: ns => .cons (.int n) (rp_ints ns)
theorem se_sortSetI (K : PySem.W.Frag) (hK0 : X.K = K) (hc : X.calm = true) (hg : Gl X "sorted") (hm : X.mg "sorted" = none) (hg2 : Gl X "set") (hm2 : X.mg "set" = none) (ha : SE X W a ta fa)
    (na : starEach [a] X.env = (false, eval a X.env) :: starEach [] X.env := by rfl) : SE X W (.Call (.Name "sorted" p) [.Call (.Name "set" p2) [a] [] q] [] pos) (tSortSetI K ta) (fSortSetI fa) := by
  subst hK0
  refine ⟨pe_sortSetI hc hg hm hg2 hm2 ha.pe na, fun F S H σ ρ Q hK fok er hp => ?_⟩
  refine ha.go hK fok er (wE F W σ Q) hp fun r ρ1 v S1 H1 t1 er1 rr _ hp1 => ?_
  have hp1 : PostE F W S1 H1 σ ρ1 (outSu r ρ1) Q := hp1
  unfold outSu at hp1
  cases qa : deref ρ1 r with
  | none => simp only [qa] at hp1; exact hp1.elim
  | some d =>
    simp only [qa] at hp1
    have rt := rr.rt er1 qa
    cases qn : sortUD d with
    | none => simp only [qn] at hp1; exact hp1.elim
    | some l =>
      simp only [qn] at hp1
      cases d with
      | list ds =>
        obtain ⟨ns, e1, e2⟩ := Option.bind_eq_some_iff.mp (show (intsD ds).bind (fun ns => if ns.length < 64 then some ((sortU ns).map PyData.int) else none) = some l from qn)
        split at e2
        · rename_i hl
          cases e2
          obtain ⟨b, xs, rfl, hb, hs⟩ := rt.list
          have ex := intsD_rp hs e1
          subst ex
          rw [← hK]
          refine ⟨b, ns, rfl, hb, hl, fun p hpn => ?_⟩
          obtain ⟨t, er', rr', fr'⟩ := (Grow.lst (K := F.K) (S := S1) hpn (rp_ints (K := F.K) (S := S1) (H := H1) (sortU ns))).step er1 fok
          exact hp1 _ _ _ t er' rr' fr'
        · cases e2
      | _ => cases qn
end
@[simp] theorem s_fSortSetI {fa : EF} {ρ : Rho} : fSortSetI fa ρ = (fa ρ).bind outSu := rfl
@[simp] theorem s_outSu {r : R} {ρ : Rho} : outSu r ρ = (match deref ρ r with
  | some d => (match sortUD d with
    | some l => .ok (.own (.lst l)) ρ
    | none => .bad)
  | none => .bad) := rfl

/-! ### xs.index(y) -/
def idx? (dx dy : PyData) : Option Nat := match dx with
  | .list ds => if SeqAt.shaped dy && SeqAt.shaped (.list ds) then ds.findIdx? (fun z => PyData.eqv z dy) else none
  | _ => none
def outIdx (r : R) (dy : PyData) (ρ : Rho) : Out R := match deref ρ r with
  | some dx => (match idx? dx dy with
    | some j => .ok (.val (.int j)) ρ
    | none => .bad)
  | none => .bad
def fIndex (fo fe : EF) : EF := fun ρ => (fo ρ).bind fun r ρ1 => if isLst ρ1 r = true then bindF (fe ρ1) fun d ρ2 => outIdx r d ρ2 else .bad
section
variable {X : Cx} {W : Wx} {o e : Expr} {to te : TE} {fo fe : EF} {apos cpos pos : Pos}
theorem se_index (K : PySem.W.Frag) (hK0 : X.K = K) (hu : X.A.units + 65 < cLine) (ho : SE X W o to fo) (he : SE X W e te fe) (hbase : attributeBase o "index" X.env (eval o X.env) = eval o X.env := by rfl)
    (hfew : ((backTo cpos (starEach [e] X.env)).all (fun x => !x.1) && (backToKw cpos (keywordEach [] X.env)).all (fun x => x.1.isSome)
      && decide ([e].length + ([] : List Keyword).length + (if ([] : List Keyword).isEmpty then 0 else 1) < 30)) = true := by rfl)
    (hline : (apos.endLine == cpos.line) = true := by rfl) (hs : starEach [e] X.env = (false, eval e X.env) :: starEach [] X.env := by rfl) (hplain : (backTo cpos (starEach [] X.env)).any (·.1) = false := by rfl) :
    SE X W (.Call (.Attribute o "index" apos) [e] [] cpos) (tBM K "list" (rIndexD K) to (tCons te tNil)) (fIndex fo fe) := by
  subst hK0
  refine ⟨pe_bm PySem.F.plainAttrs_list PySem.F.slot_list_index PySem.F.type_list_index (mt_indexD hu) ho.pe (pa_cons he.pe pa_nil hs) hbase hfew hline hs hplain, fun F S H σ ρ Q hK fok er hp => ?_⟩
  refine ho.go hK fok er (wE F W σ Q) hp fun r ρ1 v S1 H1 t1 er1 rr1 _ hp1 => ?_
  by_cases hl : isLst ρ1 r = true
  · have hp1 : PostE F W S1 H1 σ ρ1 (bindF (fe ρ1) fun d ρ2 => outIdx r d ρ2) Q := by
      have z := hp1
      simp only [hl, if_true] at z
      exact z
    refine ⟨by rw [← hK]; exact isLst_ty rr1 er1 hl, he.goF hK fok er1 (wE F W σ Q) hp1 fun d ρ2 w S2 H2 t2 er2 rp2 hp2 => ?_⟩
    have r2 := rr1.tr er1 t2 (er2.len.trans er1.len.symm)
    have hp2 : PostE F W S2 H2 σ ρ2 (outIdx r d ρ2) Q := hp2
    unfold outIdx at hp2
    cases q : deref ρ2 r with
    | none => simp only [q] at hp2; exact hp2.elim
    | some dx =>
      simp only [q] at hp2
      have rt := r2.rt er2 q
      cases qi : idx? dx d with
      | none => simp only [qi] at hp2; exact hp2.elim
      | some j =>
        simp only [qi] at hp2
        cases dx with
        | list ds =>
          simp only [idx?] at qi
          split at qi
          · rename_i hsh
            rw [Bool.and_eq_true] at hsh
            obtain ⟨b, xs, rfl, hb, hrs⟩ := rt.list
            have hj := List.findIdx?_eq_some_iff_getElem.mp qi
            obtain ⟨hjl, hje, hjn⟩ := hj
            rw [← hK]
            refine ⟨b, w, d, ds, j, ds[j], rfl, rfl, rt.dp (canLay_shaped hsh.2), rp2.dp (canLay_shaped hsh.1), hsh.2, hsh.1, List.getElem?_eq_getElem hjl, hje, fun m z' hm hz => ?_, hp2 _ S2 H2 .refl er2 (.int _) trivial⟩
            have hml : m < ds.length := by omega
            rw [List.getElem?_eq_getElem hml] at hz
            cases hz
            simpa using hjn m hm
          · cases qi
        | _ => simp [idx?] at qi
  · have z := hp1
    simp only [hl] at z
    exact z.elim
end
@[simp] theorem s_fIndex {fo fe : EF} {ρ : Rho} : fIndex fo fe ρ = (fo ρ).bind (fun r ρ1 => if isLst ρ1 r = true then bindF (fe ρ1) fun d ρ2 => outIdx r d ρ2 else .bad) := rfl
@[simp] theorem s_outIdx {r : R} {dy : PyData} {ρ : Rho} : outIdx r dy ρ = (match deref ρ r with
  | some dx => (match idx? dx dy with
    | some j => .ok (.val (.int j)) ρ
    | none => .bad)
  | none => .bad) := rfl
end Pv
set_option maxRecDepth 100000
/-! Pv9: instances with two lists: methods, properties, fields. -/
namespace Pv
open PySem PySem.Spec L2
open PyProof.Rows hiding St

/-- what a method leaves: its result, the two lists -/
inductive MOut where
  | ok (r : R) (ss ps : List PyData)
  | ex (x : XV) (ss ps : List PyData)
  | bad
abbrev MFN := Ins → List PyData → List PyData → List PyData → MOut
structure WkG (K : PySem.W.Frag) (S : AS) (H : Hp) (g : Ins) (ss ps : List PyData) : Prop where
  np : ¬ S g.p
  hp : ∃ dx, H g.p = some (.ins g.C dx g.fs)
  rT : Rp K S H g.vT g.T
  s1 : S g.l1
  s2 : S g.l2
  ne : g.l1 ≠ g.l2
  m1 : MOk K S H g.l1 (.lst ss)
  m2 : MOk K S H g.l2 (.lst ps)
structure MTr (g : Ins) (S : AS) (H : Hp) (S' : AS) (H' : Hp) : Prop where
  off : ∀ b o, NT o → H b = some o → b ≠ g.l1 → b ≠ g.l2 → H' b = some o
  tb : ∀ a, GxR.TabG H a → GxR.TabG H' a
  new : ∀ a, S' a → S a ∨ H a = none
  old : ∀ a, S a → S' a
  dom : ∀ a, S' a → H' a ≠ none
  stay : ∀ a, H a ≠ none → H' a ≠ none
/-- a method's promise -/
def spM (K : PySem.W.Frag) (T : AS) (C : Addr) (n : Nat) (Fn : MFN) : Sp := fun vs H Q E => ∃ (S : AS) (g : Ins) (us : List V) (ds ss ps : List PyData), vs = .ref g.p :: us ∧ us.length = n ∧ RpA K S H us ds ∧ g.C = C ∧ WkG K S H g ss ps ∧ (∀ a, S a → H a ≠ none) ∧ (∀ a, T a → GxR.TabG H a) ∧ match Fn g ss ps ds with
  | .ok r ss' ps' => ∀ v S' H', MTr g S H S' H' → WkG K S' H' g ss' ps' → RRc K H S' H' v r → Q v H'
  | .ex x ss' ps' => ∀ cls dx S' H', MTr g S H S' H' → WkG K S' H' g ss' ps' → XRc K S' H' x cls dx → E cls dx H'
  | .bad => False
theorem spM_len {K : PySem.W.Frag} {T : AS} {C : Addr} {n : Nat} {Fn : MFN} : ∀ vs H Q E, spM K T C n Fn vs H Q E → vs.length = n + 1 := fun vs H Q E ⟨S, g, us, ds, ss, ps, e, l, _⟩ => by rw [e, List.length_cons, l]

/-! ### names that the def does not know -/
theorem inv_ghost {X : Cx} {pins : List (Addr × Obj)} {σ : St} {H : Hp} {s : Shared} {i : Nat} {x : Str} {v : Option V} (I : Inv X pins σ H s) (hi : X.N[i]? = some x) (hv : ¬ Vis X.env.scope x) : Inv X pins (σ.set i v) H s := by
  refine ⟨I.ok, I.os, I.bare, I.base, ?_, I.cell, I.free, I.freeC, I.pin, I.hok, by rw [List.length_set]; exact I.len⟩
  obtain ⟨m, hn, hl⟩ := I.loc
  refine ⟨m, hn, fun j y u e1 e2 e3 => ?_⟩
  by_cases q : i = j
  · subst q
    rw [hi] at e1
    cases e1
    exact absurd e3 hv
  · rw [List.getElem?_set_ne q] at e2
    exact hl j y u e1 e2 e3
def tGhost (i j : Nat) (t : TS) : TS := fun D σ H => ∃ u w : Option V, t D ((σ.set i u).set j w) H
theorem ps_ghost {X : Cx} {b : List Stmt} {t : TS} {i j : Nat} {x y : Str} (h : PSs X b t) (hi : X.N[i]? = some x) (hj : X.N[j]? = some y) (nx : ¬ Vis X.env.scope x) (ny : ¬ Vis X.env.scope y) : PSs X b (tGhost i j t) :=
  ⟨fun pins s σ H D I ⟨_, _, q⟩ => h.run pins s _ H D (inv_ghost (inv_ghost I hi nx) hj ny) q⟩

/-! ### a method's body -/
def pinL (ρ : Rho) (i : Nat) (a : Addr) : Option (List PyData) := match ρ[i]? with
  | some (.pin b (.lst ds)) => if b = a then some ds else none
  | _ => none
theorem pinL_some {ρ : Rho} {i : Nat} {a : Addr} {ds : List PyData} (h : pinL ρ i a = some ds) : ρ[i]? = some (.pin a (.lst ds)) := by
  unfold pinL at h
  split at h
  · rename_i b ds' e
    split at h
    · rename_i q
      cases h
      rw [e, q]
    · cases h
  · cases h
def outM (N : Nat) (g : Ins) (o : SO) : MOut := match o with
  | .nx ρ => (match pinL ρ (N - 2) g.l1, pinL ρ (N - 1) g.l2 with
    | some ss, some ps => .ok (.val .none) ss ps
    | _, _ => .bad)
  | .rt r ρ => (match resolve r ρ, pinL ρ (N - 2) g.l1, pinL ρ (N - 1) g.l2 with
    | some r', some ss, some ps => .ok r' ss ps
    | _, _, _ => .bad)
  | .ex x ρ => (match pinL ρ (N - 2) g.l1, pinL ρ (N - 1) g.l2 with
    | some ss, some ps => .ex x ss ps
    | _, _ => .bad)
  | _ => .bad
/-- the slots at the start: the instance, the arguments, the locals, the two lists -/
def startM (N : Nat) (g : Ins) (ss ps ds : List PyData) : Rho := .ins g :: (ds.map Slot.val ++ List.replicate (N - 3 - ds.length) .no ++ [.pin g.l1 (.lst ss), .pin g.l2 (.lst ps)])
def mF (N : Nat) (g : SF) : MFN := fun i ss ps ds => outM N i (g (startM N i ss ps ds))
theorem startM_len {N : Nat} {g : Ins} {ss ps ds : List PyData} (h : ds.length + 3 ≤ N) : (startM N g ss ps ds).length = N := by
  unfold startM
  simp only [List.length_cons, List.length_append, List.length_map, List.length_replicate, List.length_nil]
  omega
theorem startM_get {N : Nat} {g : Ins} {ss ps ds : List PyData} {i : Nat} {s : Slot} (hd : ds.length + 3 ≤ N) (h : (startM N g ss ps ds)[i]? = some s) :
    (i = 0 ∧ s = .ins g) ∨ (∃ k d, i = k + 1 ∧ ds[k]? = some d ∧ s = .val d) ∨ s = .no ∨ (i = N - 2 ∧ s = .pin g.l1 (.lst ss)) ∨ (i = N - 1 ∧ s = .pin g.l2 (.lst ps)) := by
  cases i with
  | zero => cases h; exact .inl ⟨rfl, rfl⟩
  | succ k =>
    unfold startM at h
    rw [List.getElem?_cons_succ] at h
    have hl : (ds.map Slot.val ++ List.replicate (N - 3 - ds.length) Slot.no).length = N - 3 := by
      rw [List.length_append, List.length_map, List.length_replicate]
      omega
    by_cases h1 : k < N - 3
    · rw [List.getElem?_append_left (by rw [hl]; exact h1)] at h
      by_cases h2 : k < ds.length
      · rw [List.getElem?_append_left (by rw [List.length_map]; exact h2), List.getElem?_map, List.getElem?_eq_getElem h2] at h
        cases h
        exact .inr (.inl ⟨k, _, rfl, List.getElem?_eq_getElem h2, rfl⟩)
      · rw [List.getElem?_append_right (by rw [List.length_map]; omega), List.getElem?_replicate] at h
        split at h
        · cases h; exact .inr (.inr (.inl rfl))
        · cases h
    · rw [List.getElem?_append_right (by rw [hl]; omega), hl] at h
      have c : k - (N - 3) = 0 ∨ k - (N - 3) = 1 ∨ 2 ≤ k - (N - 3) := by omega
      rcases c with c | c | c
      · rw [c] at h
        cases h
        exact .inr (.inr (.inr (.inl ⟨by omega, rfl⟩)))
      · rw [c] at h
        cases h
        exact .inr (.inr (.inr (.inr ⟨by omega, rfl⟩)))
      · rw [List.getElem?_eq_none (by simpa using c)] at h
        cases h
section
variable {P : Program} {w : World} {K : PySem.W.Frag} {mg : Str → Option Value} {base : Heap}
theorem sn_m {T : AS} {C : Addr} {n : Nat} {N : List Str} {g : SF} {t : TS} {vs : List V} {H : Hp} {Q : VK} {E : XK} (hpl : n + 3 ≤ N.length)
    (sn : ∀ (F : Fx) (S : AS) (H : Hp) (σ : St) (ρ : Rho) (D : Ends), F.K = K → F.Ok T → ER F S H σ ρ → PostS F ⟨fun cls d _ H => E cls d H, T⟩ S H (g ρ) D → t D σ H) (hsp : spM K T C n (mF N.length g) vs H Q E) :
    tGhost (N.length - 2) (N.length - 1) t { nx := fun _ H' => Q .non H', rt := Q } (L2.start N vs) H := by
  obtain ⟨S, i, us, ds, ss, ps, rfl, hul, ar, hC, G, dom, tab, post⟩ := hsp
  obtain ⟨vs1, hv1, hr1⟩ := G.m1
  obtain ⟨vs2, hv2, hr2⟩ := G.m2
  obtain ⟨dx, hp⟩ := G.hp
  have hdl : ds.length = n := by rw [← ar.length]; exact hul
  have hd3 : ds.length + 3 ≤ N.length := by omega
  have p1 : i.p ≠ i.l1 := fun z => G.np (by rw [z]; exact G.s1)
  have p2 : i.p ≠ i.l2 := fun z => G.np (by rw [z]; exact G.s2)
  let F0 : Fx := ⟨K, fun b => if b = i.l1 ∨ b = i.l2 then none else H b, fun a => S a ∧ a ≠ i.l1 ∧ a ≠ i.l2, fun _ => none⟩
  have f0 : ∀ b, b ≠ i.l1 → b ≠ i.l2 → F0.H0 b = H b := fun b h1 h2 => if_neg fun z => z.elim h1 h2
  have f1 : F0.H0 i.l1 = none := if_pos (.inl rfl)
  have f2 : F0.H0 i.l2 = none := if_pos (.inr rfl)
  have f3 : ∀ {b o}, F0.H0 b = some o → H b = some o ∧ b ≠ i.l1 ∧ b ≠ i.l2 := fun {b o} e => by
    have e : (if b = i.l1 ∨ b = i.l2 then none else H b) = some o := e
    split at e
    · cases e
    · rename_i q
      exact ⟨e, fun z => q (.inl z), fun z => q (.inr z)⟩
  have tne : ∀ a, GxR.TabG H a → a ≠ i.l1 ∧ a ≠ i.l2 := fun a ⟨qs, e, _⟩ => ⟨(fun z => by rw [z, hv1] at e; cases e), (fun z => by rw [z, hv2] at e; cases e)⟩
  have tabF : ∀ a, GxR.TabG H a → GxR.TabG F0.H0 a := fun a h => by
    obtain ⟨n1, n2⟩ := tne a h
    obtain ⟨qs, e, t⟩ := h
    exact ⟨qs, by rw [f0 a n1 n2]; exact e, t⟩
  have fok : F0.Ok T := ⟨fun a h => tabF a (tab a h), fun a h z => by
    rw [f0 a h.2.1 h.2.2] at z
    exact dom a h.1 z, fun _ _ h => by cases h⟩
  -- the slots' values
  have sl : (L2.start N (.ref i.p :: us)).length = N.length := by
    unfold L2.start
    rw [List.length_append, List.length_map, List.length_replicate, List.length_cons]
    omega
  obtain ⟨σ0, hσ0⟩ : ∃ σ0, σ0 = ((L2.start N (.ref i.p :: us)).set (N.length - 2) (some (.ref i.l1))).set (N.length - 1) (some (.ref i.l2)) := ⟨_, rfl⟩
  have g1 : σ0[N.length - 2]? = some (some (.ref i.l1)) := by
    rw [hσ0, List.getElem?_set_ne (by omega), List.getElem?_set_self (by omega)]
  have g2 : σ0[N.length - 1]? = some (some (.ref i.l2)) := by
    rw [hσ0, List.getElem?_set_self (by rw [List.length_set]; omega)]
  have g0 : ∀ k v, (V.ref i.p :: us)[k]? = some v → σ0[k]? = some (some v) := fun k v h => by
    have hk : k < (V.ref i.p :: us).length := (List.getElem?_eq_some_iff.mp h).1
    rw [List.length_cons] at hk
    rw [hσ0, List.getElem?_set_ne (by omega), List.getElem?_set_ne (by omega)]
    unfold L2.start
    rw [List.getElem?_append_left (by simpa using hk), List.getElem?_map, h]
    rfl
  have pin : ∀ k m, (startM N.length i ss ps ds)[k]? ≠ some (Slot.own m) ∧ (startM N.length i ss ps ds)[k]? ≠ some (Slot.lent m) := fun k m => by
    constructor
    · intro h
      rcases startM_get hd3 h with ⟨_, z⟩ | ⟨_, _, _, _, z⟩ | z | ⟨_, z⟩ | ⟨_, z⟩ <;> cases z
    · intro h
      rcases startM_get hd3 h with ⟨_, z⟩ | ⟨_, _, _, _, z⟩ | z | ⟨_, z⟩ | ⟨_, z⟩ <;> cases z
  have mutE : ∀ k a, MutAt σ0 (startM N.length i ss ps ds) k a → (k = N.length - 2 ∧ a = i.l1) ∨ (k = N.length - 1 ∧ a = i.l2) := fun k a ⟨⟨m, h1⟩, h2⟩ => by
    rcases h1 with h1 | h1 | ⟨b, h1⟩
    · exact absurd h1 (pin k m).1
    · exact absurd h1 (pin k m).2
    · rcases startM_get hd3 h1 with ⟨_, z⟩ | ⟨_, _, _, _, z⟩ | z | ⟨e, z⟩ | ⟨e, z⟩
      · cases z
      · cases z
      · cases z
      · subst e
        rw [g1] at h2
        cases h2
        exact .inl ⟨rfl, rfl⟩
      · subst e
        rw [g2] at h2
        cases h2
        exact .inr ⟨rfl, rfl⟩
  have er : ER F0 S H σ0 (startM N.length i ss ps ds) := by
    refine ⟨?_, fun k s h => ?_, fun k j a h1 h2 => ?_, fun _ z => z.1, dom, fun _ _ _ e _ => (f3 e).1, fun a ⟨qs, e, t⟩ => ⟨qs, (f3 e).1, t⟩, fun a h => ?_, fun _ _ h => nomatch h⟩
    · rw [startM_len hd3, hσ0, List.length_set, List.length_set, sl]
    · rcases startM_get hd3 h with ⟨rfl, rfl⟩ | ⟨k, d, rfl, e, rfl⟩ | rfl | ⟨rfl, rfl⟩ | ⟨rfl, rfl⟩
      · exact ⟨g0 0 _ rfl, G.np, G.hp, G.rT⟩
      · obtain ⟨v, hv, hr⟩ := ar.get e
        exact ⟨v, g0 (k + 1) v hv, hr⟩
      · trivial
      · exact ⟨g1, G.s1, f1, G.m1⟩
      · exact ⟨g2, G.s2, f2, G.m2⟩
    · rcases mutE k a h1 with ⟨q1, q2⟩ | ⟨q1, q2⟩
      · rcases mutE j a h2 with ⟨r1, r2⟩ | ⟨r1, r2⟩
        · rw [q1, r1]
        · exact absurd (q2.symm.trans r2) G.ne
      · rcases mutE j a h2 with ⟨r1, r2⟩ | ⟨r1, r2⟩
        · exact absurd (r2.symm.trans q2) G.ne
        · rw [q1, r1]
    · cases q : F0.H0 a with
      | none => exact absurd q h
      | some o => rw [(f3 q).1]; exact fun z => nomatch z
  -- the end's facts
  have endM : ∀ {σ' : L2.St} {ρ' : Rho} {S' : AS} {H' : Hp} {ss' ps' : List PyData}, TrS S H S' H' → ER F0 S' H' σ' ρ' → pinL ρ' (N.length - 2) i.l1 = some ss' → pinL ρ' (N.length - 1) i.l2 = some ps' →
      MTr i S H S' H' ∧ WkG K S' H' i ss' ps' ∧ (∀ k a, MutAt σ' ρ' k a → F0.H0 a = none → (∃ m, ρ'[k]? = some (.own m)) → H a = none) ∧ MutAt σ' ρ' (N.length - 2) i.l1 ∧ MutAt σ' ρ' (N.length - 1) i.l2 := fun {σ' ρ' S' H' ss' ps'} t er' h1 h2 => by
    have e1 := pinL_some h1
    have e2 := pinL_some h2
    obtain ⟨a1, a2, a3, a4⟩ := er'.at_ _ _ e1
    obtain ⟨b1, b2, b3, b4⟩ := er'.at_ _ _ e2
    have M1 : MutAt σ' ρ' (N.length - 2) i.l1 := ⟨⟨_, .inr (.inr ⟨_, e1⟩)⟩, a1⟩
    have M2 : MutAt σ' ρ' (N.length - 1) i.l2 := ⟨⟨_, .inr (.inr ⟨_, e2⟩)⟩, b1⟩
    have off : ∀ b o, NT o → H b = some o → b ≠ i.l1 → b ≠ i.l2 → H' b = some o := fun b o nt e n1 n2 => er'.fr b o nt (by rw [f0 b n1 n2]; exact e) fun ⟨_, z⟩ => nomatch z
    have hp' := off _ (.ins i.C dx i.fs) (fun _ z => nomatch z) hp p1 p2
    refine ⟨⟨off, t.tb, t.new, fun a sa => ?_, er'.dom, t.stay⟩, ⟨fun z => ?_, ⟨dx, hp'⟩, G.rT.mono t.off t.new, a2, b2, G.ne, a4, b4⟩, fun k a hm hz ⟨m, hk⟩ => ?_, M1, M2⟩
    · by_cases c1 : a = i.l1
      · rw [c1]; exact a2
      · by_cases c2 : a = i.l2
        · rw [c2]; exact b2
        · exact er'.sub a ⟨sa, c1, c2⟩
    · rcases t.new _ z with z | z
      · exact G.np z
      · rw [hp] at z; cases z
    · by_cases c1 : a = i.l1
      · rw [c1] at hm
        have := er'.dj _ _ _ hm M1
        rw [this, e1] at hk
        cases hk
      · by_cases c2 : a = i.l2
        · rw [c2] at hm
          have := er'.dj _ _ _ hm M2
          rw [this, e2] at hk
          cases hk
        · rw [f0 a c1 c2] at hz
          exact hz
  refine ⟨some (.ref i.l1), some (.ref i.l2), ?_⟩
  rw [← hσ0]
  refine sn F0 S H σ0 _ _ rfl fok er ?_
  unfold mF at post
  cases q : g (startM N.length i ss ps ds) with
  | nx ρ' =>
    rw [q] at post
    intro σ' S' H' t er'
    simp only [outM] at post
    cases q1 : pinL ρ' (N.length - 2) i.l1 with
    | none => simp only [q1] at post
    | some ss' =>
      cases q2 : pinL ρ' (N.length - 1) i.l2 with
      | none => simp only [q1, q2] at post
      | some ps' =>
        simp only [q1, q2] at post
        obtain ⟨m, k, _⟩ := endM t er' q1 q2
        exact post .non S' H' m k .non
  | rt r ρ' =>
    rw [q] at post
    intro v σ' S' H' t er' rr
    simp only [outM] at post
    cases z : resolve r ρ' with
    | none => simp only [z] at post
    | some r' =>
      cases q1 : pinL ρ' (N.length - 2) i.l1 with
      | none => simp only [z, q1] at post
      | some ss' =>
        cases q2 : pinL ρ' (N.length - 1) i.l2 with
        | none => simp only [z, q1, q2] at post
        | some ps' =>
          simp only [z, q1, q2] at post
          obtain ⟨m, k, nw, M1, M2⟩ := endM t er' q1 q2
          refine post v S' H' m k ?_
          cases r with
          | val d => cases z; exact rr
          | own m =>
            cases z
            obtain ⟨a, e, sa, f, ok, nm⟩ := rr
            refine ⟨a, e, sa, ?_, ok⟩
            have c1 : a ≠ i.l1 := fun y => nm _ (by rw [y]; exact M1)
            have c2 : a ≠ i.l2 := fun y => nm _ (by rw [y]; exact M2)
            rw [f0 a c1 c2] at f
            exact f
          | slot j =>
            unfold resolve at z
            cases y : ρ'[j]? with
            | none => simp [y] at z
            | some s0 =>
              have w := er'.at_ j s0 y
              cases s0 with
              | no => simp [y] at z
              | lent m => simp [y] at z
              | pin b m => simp [y] at z
              | ins g => simp [y] at z
              | val d =>
                simp only [y, Option.some.injEq] at z
                subst z
                obtain ⟨x, e, w⟩ := w
                rw [rr.1] at e; cases e
                exact w
              | own m =>
                simp only [y, Option.some.injEq] at z
                subst z
                obtain ⟨a, e, sa, f, ok⟩ := w
                have hm : MutAt σ' ρ' j a := ⟨⟨m, .inl y⟩, e⟩
                rw [rr.1] at e; cases e
                exact ⟨a, rfl, sa, nw j a hm f ⟨m, y⟩, ok⟩
  | ex x ρ' =>
    rw [q] at post
    intro cls dx σ' S' H' t er' xr
    simp only [outM] at post
    cases q1 : pinL ρ' (N.length - 2) i.l1 with
    | none => simp only [q1] at post
    | some ss' =>
      cases q2 : pinL ρ' (N.length - 1) i.l2 with
      | none => simp only [q1, q2] at post
      | some ps' =>
        simp only [q1, q2] at post
        obtain ⟨m, k, _⟩ := endM t er' q1 q2
        exact post cls dx S' H' m k xr
  | bk ρ' => rw [q] at post; exact post.elim
  | ct ρ' => rw [q] at post; exact post.elim
  | bad => rw [q] at post; exact post.elim
/-- a method, proved once -/
theorem fn_m {T : AS} {C : Addr} {x qual x1 x2 : Str} {st : Stmt} {f : Addr} {fd : FuncData} {N ps : List Str} {k : Nat} {g : SF} (F : Fun K x qual st f fd) (Sc : FnScope N ps (defScope st)) (hl : ps.length + 2 ≤ N.length) (hp : 0 < ps.length)
    (h1 : N[N.length - 2]? = some x1) (h2 : N[N.length - 1]? = some x2) (n1 : ¬ Vis (defScope st) x1) (n2 : ¬ Vis (defScope st) x2)
    (hbody : ∀ (cdv : Value) (A : Around) (outer : List Env) (s : Shared) (H : Hp) (E : XK), Room k (A.deeper (PyProof.Rows.envOfC qual (defScope st) s.heap.objs.size f cdv)) →
      ∃ t, SSs (cxOf (L2N.CX P w) P w K mg base N qual (defScope st) f cdv A outer s H E) ⟨fun cls d _ H => E cls d H, T⟩ (defBody st) t g) : FnOk P w K mg base (L2N.CX P w) (k + 1) f fd ps (spM K T C (ps.length - 1) (mF N.length g)) := by
  obtain ⟨oc, od, kV, doc, pm, an, cdv, ct, osl, rfl, lk, hcd⟩ := F.ex
  refine fn_of lk hcd Sc (fun vs H Q E h => by rw [spM_len vs H Q E h]; omega) fun A outer s H vs Q E hr hsp => ?_
  obtain ⟨t, ht⟩ := hbody cdv A outer s H E hr
  exact ⟨_, ps_ghost ht.ps h1 h2 n1 n2, sn_m (by omega) (fun F S H σ ρ D hK => ht.sn F S H σ ρ D hK) hsp⟩
end
end Pv
set_option maxRecDepth 100000
/-! Px1: fields, methods and properties of an instance in a slot. -/
namespace Pv
open PySem PySem.Spec L2
open PyProof.Rows hiding St

/-- the instances' class -/
structure WCls (K : PySem.W.Frag) (c : Addr) : Prop where
  cl : Cls K c
  nT : NoAttr K c "_town"
  nS : NoAttr K c "_streets"
  nP : NoAttr K c "_path"
theorem ts_ : (("_streets" : Str) == "_town") = false := by decide +kernel
theorem st_ : (("_town" : Str) == "_streets") = false := by decide +kernel
theorem pt_ : (("_path" : Str) == "_town") = false := by decide +kernel
theorem ps_ : (("_path" : Str) == "_streets") = false := by decide +kernel
theorem fs_T (g : Ins) : g.fs.lookup ("_town" : Str) = some g.vT := by
  unfold Ins.fs
  rw [List.lookup_cons, beq_self_eq_true]
theorem fs_S (g : Ins) : g.fs.lookup ("_streets" : Str) = some (V.ref g.l1) := by
  unfold Ins.fs
  rw [List.lookup_cons, ts_, List.lookup_cons, beq_self_eq_true]
theorem fs_P (g : Ins) : g.fs.lookup ("_path" : Str) = some (V.ref g.l2) := by
  unfold Ins.fs
  rw [List.lookup_cons, pt_, List.lookup_cons, ps_, List.lookup_cons, beq_self_eq_true]
/-- no field of that name -/
def NoFld (m : Str) : Prop := (m == ("_town" : Str)) = false ∧ (m == ("_streets" : Str)) = false ∧ (m == ("_path" : Str)) = false
theorem fs_no {m : Str} (h : NoFld m) (g : Ins) : g.fs.lookup m = none := by
  unfold Ins.fs
  rw [List.lookup_cons, h.1, List.lookup_cons, h.2.1, List.lookup_cons, h.2.2]
  rfl
/-! ### fields -/
def fFldT (c : Addr) (i : Nat) : EF := fun ρ => match ρ[i]? with
  | some (.ins g) => if g.C = c then .ok (.val g.T) ρ else .bad
  | _ => .bad
def fFldS (c : Addr) (i j : Nat) : EF := fun ρ => match ρ[i]? with
  | some (.ins g) => if g.C = c then (match pinL ρ j g.l1 with
    | some _ => .ok (.slot j) ρ
    | none => .bad) else .bad
  | _ => .bad
def fFldP (c : Addr) (i j : Nat) : EF := fun ρ => match ρ[i]? with
  | some (.ins g) => if g.C = c then (match pinL ρ j g.l2 with
    | some _ => .ok (.slot j) ρ
    | none => .bad) else .bad
  | _ => .bad
section
variable {X : Cx} {W : Wx} {o : Expr} {fo : EF} {i j : Nat} {c : Addr} {pos : Pos}
theorem se_fldT (w : WCls X.K c) (ho : SE X W o (tVar i) fo) (hb : attributeBase o "_town" X.env (eval o X.env) = eval o X.env := by rfl) : SE X W (.Attribute o "_town" pos) (tFld X.K (tVar i) "_town") (fFldT c i) := by
  refine ⟨pe_fld ho.pe hb, fun F S H σ ρ Q hK fok er hp => ?_⟩
  unfold fFldT at hp
  split at hp
  · rename_i g e
    split at hp
    · rename_i hc
      obtain ⟨e1, n, ⟨dx, h1⟩, r⟩ := er.at_ _ _ e
      rw [hc] at h1
      exact ⟨_, e1, _, _, dx, _, _, rfl, h1, w.cl, w.nT, fs_T g, hp _ S H .refl er r trivial⟩
    · exact hp.elim
  · exact hp.elim
theorem se_fldS (w : WCls X.K c) (ho : SE X W o (tVar i) fo) (hb : attributeBase o "_streets" X.env (eval o X.env) = eval o X.env := by rfl) : SE X W (.Attribute o "_streets" pos) (tFld X.K (tVar i) "_streets") (fFldS c i j) := by
  refine ⟨pe_fld ho.pe hb, fun F S H σ ρ Q hK fok er hp => ?_⟩
  unfold fFldS at hp
  split at hp
  · rename_i g e
    split at hp
    · rename_i hc
      cases q : pinL ρ j g.l1 with
      | none => rw [q] at hp; exact hp.elim
      | some ds =>
        rw [q] at hp
        have e2 := pinL_some q
        obtain ⟨e1, n, ⟨dx, h1⟩, r⟩ := er.at_ _ _ e
        obtain ⟨a1, _⟩ := er.at_ _ _ e2
        rw [hc] at h1
        exact ⟨_, e1, _, _, dx, _, _, rfl, h1, w.cl, w.nS, fs_S g, hp _ S H .refl er ⟨a1, (List.getElem?_eq_some_iff.mp e2).1⟩ trivial⟩
    · exact hp.elim
  · exact hp.elim
theorem se_fldP (w : WCls X.K c) (ho : SE X W o (tVar i) fo) (hb : attributeBase o "_path" X.env (eval o X.env) = eval o X.env := by rfl) : SE X W (.Attribute o "_path" pos) (tFld X.K (tVar i) "_path") (fFldP c i j) := by
  refine ⟨pe_fld ho.pe hb, fun F S H σ ρ Q hK fok er hp => ?_⟩
  unfold fFldP at hp
  split at hp
  · rename_i g e
    split at hp
    · rename_i hc
      cases q : pinL ρ j g.l2 with
      | none => rw [q] at hp; exact hp.elim
      | some ds =>
        rw [q] at hp
        have e2 := pinL_some q
        obtain ⟨e1, n, ⟨dx, h1⟩, r⟩ := er.at_ _ _ e
        obtain ⟨a1, _⟩ := er.at_ _ _ e2
        rw [hc] at h1
        exact ⟨_, e1, _, _, dx, _, _, rfl, h1, w.cl, w.nP, fs_P g, hp _ S H .refl er ⟨a1, (List.getElem?_eq_some_iff.mp e2).1⟩ trivial⟩
    · exact hp.elim
  · exact hp.elim
end
/-! ### behind a method -/
def putM (ρ : Rho) (j : Nat) (g : Ins) (ss ps : List PyData) : Rho := (ρ.set j (.pin g.l1 (.lst ss))).set (j + 1) (.pin g.l2 (.lst ps))
section
variable {F : Fx} {S S' : AS} {H H' : Hp} {σ : L2.St} {ρ : Rho} {g : Ins} {i j : Nat} {ss ps ss' ps' : List PyData}
theorem m_in (er : ER F S H σ ρ) (e : ρ[i]? = some (.ins g)) (q1 : ρ[j]? = some (.pin g.l1 (.lst ss))) (q2 : ρ[j + 1]? = some (.pin g.l2 (.lst ps))) : WkG F.K S H g ss ps := by
  obtain ⟨e1, n, hp, r⟩ := er.at_ _ _ e
  obtain ⟨a1, a2, a3, a4⟩ := er.at_ _ _ q1
  obtain ⟨b1, b2, b3, b4⟩ := er.at_ _ _ q2
  refine ⟨n, hp, r, a2, b2, fun z => ?_, a4, b4⟩
  have M1 : MutAt σ ρ j g.l1 := ⟨⟨_, .inr (.inr ⟨_, q1⟩)⟩, a1⟩
  have M2 : MutAt σ ρ (j + 1) g.l2 := ⟨⟨_, .inr (.inr ⟨_, q2⟩)⟩, b1⟩
  rw [z] at M1
  have := er.dj _ _ _ M1 M2
  omega
theorem m_back (er : ER F S H σ ρ) (q1 : ρ[j]? = some (.pin g.l1 (.lst ss))) (q2 : ρ[j + 1]? = some (.pin g.l2 (.lst ps))) (m : MTr g S H S' H') (wk : WkG F.K S' H' g ss' ps') :
    Tr S H σ ρ S' H' (putM ρ j g ss' ps') ∧ ER F S' H' σ (putM ρ j g ss' ps') ∧ (putM ρ j g ss' ps').length = ρ.length := by
  obtain ⟨a1, a2, a3, a4⟩ := er.at_ _ _ q1
  obtain ⟨b1, b2, b3, b4⟩ := er.at_ _ _ q2
  have M1 : MutAt σ ρ j g.l1 := ⟨⟨_, .inr (.inr ⟨_, q1⟩)⟩, a1⟩
  have M2 : MutAt σ ρ (j + 1) g.l2 := ⟨⟨_, .inr (.inr ⟨_, q2⟩)⟩, b1⟩
  have hj : j < ρ.length := (List.getElem?_eq_some_iff.mp q1).1
  have hj1 : j + 1 < ρ.length := (List.getElem?_eq_some_iff.mp q2).1
  have len : (putM ρ j g ss' ps').length = ρ.length := by
    unfold putM
    rw [List.length_set, List.length_set]
  have getA : (putM ρ j g ss' ps')[j]? = some (.pin g.l1 (.lst ss')) := by
    unfold putM
    rw [List.getElem?_set_ne (by omega), List.getElem?_set_self hj]
  have getB : (putM ρ j g ss' ps')[j + 1]? = some (.pin g.l2 (.lst ps')) := by
    unfold putM
    rw [List.getElem?_set_self (by rw [List.length_set]; exact hj1)]
  have getO : ∀ k, k ≠ j → k ≠ j + 1 → (putM ρ j g ss' ps')[k]? = ρ[k]? := fun k n1 n2 => by
    unfold putM
    rw [List.getElem?_set_ne (Ne.symm n2), List.getElem?_set_ne (Ne.symm n1)]
  have mu : ∀ k a, MutAt σ (putM ρ j g ss' ps') k a → MutAt σ ρ k a := fun k a ⟨⟨mm, h1⟩, h2⟩ => by
    by_cases c1 : k = j
    · subst c1
      rw [a1] at h2
      cases h2
      exact M1
    · by_cases c2 : k = j + 1
      · subst c2
        rw [b1] at h2
        cases h2
        exact M2
      · rw [getO k c1 c2] at h1
        exact ⟨⟨mm, h1⟩, h2⟩
  have offS : ∀ b o, NT o → H b = some o → ¬ S b → H' b = some o := fun b o nt e n => m.off b o nt e (fun z => n (by rw [z]; exact a2)) (fun z => n (by rw [z]; exact b2))
  have fr : ∀ b o, NT o → F.H0 b = some o → ¬ F.lentA b → H' b = some o := fun b o nt e n => m.off b o nt (er.fr b o nt e n) (fun z => by rw [z, a3] at e; cases e) (fun z => by rw [z, b3] at e; cases e)
  refine ⟨⟨fun b o nt e n => m.off b o nt e (fun z => n j (by rw [z]; exact M1)) (fun z => n (j + 1) (by rw [z]; exact M2)), m.tb, m.new, fun a h _ => m.old a h, mu, m.stay⟩, ?_, len⟩
  refine ⟨by rw [len]; exact er.len, fun k s e => ?_, fun k l a h1 h2 => er.dj k l a (mu _ _ h1) (mu _ _ h2), fun a h => m.old a (er.sub a h), m.dom, fr, fun a h => m.tb a (er.tb a h), fun a h => m.stay a (er.st a h), fun k a h => ?_⟩
  · by_cases c1 : k = j
    · subst c1
      rw [getA] at e
      cases e
      exact ⟨a1, wk.s1, a3, wk.m1⟩
    · by_cases c2 : k = j + 1
      · subst c2
        rw [getB] at e
        cases e
        exact ⟨b1, wk.s2, b3, wk.m2⟩
      · rw [getO k c1 c2] at e
        have z := er.at_ k s e
        have na : ∀ a, MutAt σ ρ k a → a ≠ g.l1 ∧ a ≠ g.l2 := fun a hm => ⟨fun y => c1 (er.dj k j _ (by rw [← y]; exact hm) M1), fun y => c2 (er.dj k (j + 1) _ (by rw [← y]; exact hm) M2)⟩
        cases s with
        | no => trivial
        | val d => obtain ⟨x, e1, h⟩ := z; exact ⟨x, e1, h.mono offS m.new⟩
        | own mm =>
          obtain ⟨a, e1, sa, f, h⟩ := z
          obtain ⟨n1, n2⟩ := na a ⟨⟨mm, .inl e⟩, e1⟩
          exact ⟨a, e1, m.old a sa, f, h.mono offS m.new fun o nt q => m.off a o nt q n1 n2⟩
        | lent mm =>
          obtain ⟨a, e1, l, sa, h⟩ := z
          obtain ⟨n1, n2⟩ := na a ⟨⟨mm, .inr (.inl e)⟩, e1⟩
          exact ⟨a, e1, l, m.old a sa, h.mono offS m.new fun o nt q => m.off a o nt q n1 n2⟩
        | pin a mm =>
          obtain ⟨e1, sa, f, h⟩ := z
          obtain ⟨n1, n2⟩ := na a ⟨⟨mm, .inr (.inr ⟨a, e⟩)⟩, e1⟩
          exact ⟨e1, m.old a sa, f, h.mono offS m.new fun o nt q => m.off a o nt q n1 n2⟩
        | ins g' => exact ins_mono offS m.new z
  · obtain ⟨mm, hm⟩ := er.lt k a h
    have c1 : k ≠ j := fun z => by rw [z, q1] at hm; cases hm
    have c2 : k ≠ j + 1 := fun z => by rw [z, q2] at hm; cases hm
    exact ⟨mm, by rw [getO k c1 c2]; exact hm⟩
end
/-! ### o.m(..) -/
def tMethS (C : Addr) (m : Str) (sp : Sp) (E : L2.St → XK) (ta : TE) (t : TA) : TE := fun σ H Q => ta σ H fun x H1 => ∃ a dx fs, x = .ref a ∧ H1 a = some (.ins C dx fs) ∧ fs.lookup m = none ∧ t σ H1 fun vs H2 => sp (x :: vs) H2 Q (E σ)
section
variable {X : Cx} {CX : CXT} {k : Nat} {f C : Addr} {fd : FuncData} {ps : List Str} {sp : Sp} {E : L2.St → XK} {m : Str} {pos apos : Pos} {e o : Expr} {es : List Expr} {ta : TE} {t : TA}
theorem pe_methS {pl : Sem Bool} (he : PE X o ta) (c : Cls X.K C) (hm : Meth X.K C m f) (F : FnOk X.prog X.w X.K X.mg X.base CX k f fd ps sp) (hr : Room k X.A) (hb : L2.Binds X.K fd ps []) (hx : ∀ σ, PassesAt CX X σ (E σ)) (ha : PA X (e :: es) t)
    (hst : starEach (e :: es) X.env = (false, eval e X.env) :: starEach es X.env := by rfl) (hpl : (backTo pos (starEach es X.env)).any (·.1) = false := by rfl)
    (ht : eval (.Call (.Attribute o m apos) (e :: es) [] pos) X.env = (do
      let ov ← eval o X.env
      standAt apos.atName
      let (f, first) ← holding [ov] (getMethod ov m pl)
      callWith pos f first (backTo pos (starEach (e :: es) X.env)) (backToKw pos (keywordEach [] X.env))) := by rfl) :
    PE X (.Call (.Attribute o m apos) (e :: es) [] pos) (tMethS C m sp E ta t) := by
  refine ⟨fun pins s σ H Q I h => PySem.W.methodCall_KW (pl := pl) (thn (he.run pins s σ H _ I h) fun u s1 ⟨x, H1, I1, rx, a, dx, fs, ex, ea, l, q⟩ => ?_) ht⟩
  subst ex
  obtain rfl : u = Value.ref a := rx
  refine getmeth_ok I1 ea c hm l (PySem.W.callWith_K (first := [.ref a]) (h₀ := X.base) I.ok.mod.kin hm.kp (thn (ha.run pos pins s1 σ H1 _ I1 q) fun us s2 ⟨vs, H2, I2, r, q2⟩ => ⟨I2.kIn, ?_⟩) hst hpl)
  exact run_fnS (us := .ref a :: us) (vs := .ref a :: vs) F hr hb (hx σ) I2 (.cons rfl r) q2
theorem pe_methS0 {pl : Sem Bool} (he : PE X o ta) (c : Cls X.K C) (hm : Meth X.K C m f) (F : FnOk X.prog X.w X.K X.mg X.base CX k f fd ps sp) (hr : Room k X.A) (hb : L2.Binds X.K fd ps []) (hx : ∀ σ, PassesAt CX X σ (E σ))
    (ht : eval (.Call (.Attribute o m apos) [] [] pos) X.env = (do
      let ov ← eval o X.env
      standAt apos.atName
      let (f, first) ← holding [ov] (getMethod ov m pl)
      callWith pos f first (backTo pos (starEach [] X.env)) (backToKw pos (keywordEach [] X.env))) := by rfl) :
    PE X (.Call (.Attribute o m apos) [] [] pos) (tMethS C m sp E ta tNil) := by
  refine ⟨fun pins s σ H Q I h => PySem.W.methodCall_KW (pl := pl) (thn (he.run pins s σ H _ I h) fun u s1 ⟨x, H1, I1, rx, a, dx, fs, ex, ea, l, q⟩ => ?_) ht⟩
  subst ex
  obtain rfl : u = Value.ref a := rx
  refine getmeth_ok I1 ea c hm l (PySem.W.callWith_K0 (first := [.ref a]) I1.kIn hm.kp ?_)
  exact run_fnS (us := [.ref a]) (vs := [.ref a]) F hr hb (hx σ) I1 (.cons rfl .nil) q
end
def fMeth (c : Addr) (i j : Nat) (Fn : MFN) (fa : AF) : EF := fun ρ => match ρ[i]? with
  | some (.ins g0) => if g0.C = c then (fa ρ).bind fun ds ρ1 => (match ρ1[i]? with
    | some (.ins g) => if g.C = c then (match pinL ρ1 j g.l1, pinL ρ1 (j + 1) g.l2 with
      | some ss, some ps => (match Fn g ss ps ds with
        | .ok r ss' ps' => .ok r (putM ρ1 j g ss' ps')
        | .ex x ss' ps' => .ex x (putM ρ1 j g ss' ps')
        | .bad => .bad)
      | _, _ => .bad) else .bad
    | _ => .bad) else .bad
  | _ => .bad
def fProp (c : Addr) (i j : Nat) (Fn : MFN) : EF := fun ρ => match ρ[i]? with
  | some (.ins g) => if g.C = c then (match pinL ρ j g.l1, pinL ρ (j + 1) g.l2 with
    | some ss, some ps => (match Fn g ss ps [] with
      | .ok r ss' ps' => .ok r (putM ρ j g ss' ps')
      | _ => .bad)
    | _, _ => .bad) else .bad
  | _ => .bad
section
variable {X : Cx} {W : Wx} {o e : Expr} {es : List Expr} {fo : EF} {t : TA} {fa : AF} {i j k n : Nat} {c f : Addr} {fd : FuncData} {ps : List Str} {Fn : MFN} {m : Str} {pos apos : Pos}
/-- the promise met, from the slots -/
theorem sp_go {F : Fx} {S : AS} {H : Hp} {σ : L2.St} {ρ : Rho} {g : Ins} {ss pl ds : List PyData} {us : List V} {Q : VK} {E : XK} (hK : F.K = X.K) (fok : F.Ok W.T) (er : ER F S H σ ρ) (e1 : ρ[i]? = some (.ins g)) (hc : g.C = c) (q1 : pinL ρ j g.l1 = some ss) (q2 : pinL ρ (j + 1) g.l2 = some pl) (hu : us.length = n) (ru : RpA F.K S H us ds)
    (hq : match Fn g ss pl ds with
      | .ok r ss' ps' => ∀ v S' H', Tr S H σ ρ S' H' (putM ρ j g ss' ps') → ER F S' H' σ (putM ρ j g ss' ps') → RR F S' H' σ (putM ρ j g ss' ps') v r → Frsh H v r → Q v H'
      | .ex x ss' ps' => ∀ cls dx S' H', Tr S H σ ρ S' H' (putM ρ j g ss' ps') → ER F S' H' σ (putM ρ j g ss' ps') → XR F S' H' x cls dx → E cls dx H'
      | .bad => False) : spM X.K W.T c n Fn (.ref g.p :: us) H Q E := by
  have p1 := pinL_some q1
  have p2 := pinL_some q2
  have G := m_in er e1 p1 p2
  refine ⟨S, g, us, ds, ss, pl, rfl, hu, by rw [← hK]; exact ru, hc, by rw [← hK]; exact G, er.dom, fun a h => er.tb a (fok.tab a h), ?_⟩
  cases q : Fn g ss pl ds with
  | bad => rw [q] at hq; exact hq
  | ex x ss' ps' =>
    rw [q] at hq
    intro cls dx S' H' mt wk xr
    rw [← hK] at wk xr
    obtain ⟨t2, er2, _⟩ := m_back er p1 p2 mt wk
    exact hq cls dx S' H' t2 er2 xr
  | ok r ss' ps' =>
    rw [q] at hq
    intro v S' H' mt wk rc
    rw [← hK] at wk rc
    obtain ⟨t2, er2, _⟩ := m_back er p1 p2 mt wk
    cases r with
    | slot i => exact rc.elim
    | val d => exact hq v S' H' t2 er2 rc trivial
    | own m' =>
      obtain ⟨a, rfl, sa, na, ok⟩ := rc
      have nS : ¬ S a := fun z => er.dom a z na
      refine hq _ S' H' t2 er2 ⟨a, rfl, sa, ?_, ok, fun i z => nS (er.mutS (t2.mu i a z))⟩ fun b e => by cases e; exact na
      cases q0 : F.H0 a with
      | none => rfl
      | some o => exact absurd na (er.st a (by rw [q0]; exact fun z => nomatch z))
theorem se_meth {pl : Sem Bool} (K : PySem.W.Frag) (hK0 : X.K = K) (w : WCls K c) (hm : Meth K c m f) (G : FnOk X.prog X.w K X.mg X.base (L2N.CX X.prog X.w) k f fd ps (spM K W.T c n Fn)) (hr : Room k X.A) (hb : L2.Binds K fd ps []) (tk : L2N.Takes X W.w) (hn : NoFld m) (ho : SE X W o (tVar i) fo) (ha : SA X W (e :: es) t fa) (hl : (e :: es).length = n)
    (hlen : ∀ ρ ds ρ', fa ρ = .ok ds ρ' → ds.length = (e :: es).length)
    (hst : starEach (e :: es) X.env = (false, eval e X.env) :: starEach es X.env := by rfl) (hpl : (backTo pos (starEach es X.env)).any (·.1) = false := by rfl)
    (ht : eval (.Call (.Attribute o m apos) (e :: es) [] pos) X.env = (do
      let ov ← eval o X.env
      standAt apos.atName
      let (f, first) ← holding [ov] (getMethod ov m pl)
      callWith pos f first (backTo pos (starEach (e :: es) X.env)) (backToKw pos (keywordEach [] X.env))) := by rfl) :
    SE X W (.Call (.Attribute o m apos) (e :: es) [] pos) (tMethS c m (spM K W.T c n Fn) (WE W.w) (tVar i) t) (fMeth c i j Fn fa) := by
  subst hK0
  refine ⟨pe_methS ho.pe w.cl hm G hr hb (L2N.passAt tk) ha.pa hst hpl ht, fun F S H σ ρ Q hK fok er hp => ?_⟩
  unfold fMeth at hp
  split at hp
  · rename_i g0 e0
    split at hp
    · rename_i hc0
      obtain ⟨a1, _, ⟨dx, h1⟩, _⟩ := er.at_ _ _ e0
      rw [hc0] at h1
      refine ⟨_, a1, g0.p, dx, g0.fs, rfl, h1, fs_no hn g0, ?_⟩
      refine ha.sn F S H σ ρ _ hK fok er ?_
      cases qa : fa ρ with
      | ex x ρ1 => rw [qa] at hp; exact hp
      | bad => rw [qa] at hp; exact hp
      | ok ds ρ1 =>
        rw [qa] at hp
        intro us S1 H1 t1 er1 ru
        have hp1 : PostE F W S1 H1 σ ρ1 (match ρ1[i]? with
          | some (.ins g) => if g.C = c then (match pinL ρ1 j g.l1, pinL ρ1 (j + 1) g.l2 with
            | some ss, some ps => (match Fn g ss ps ds with
              | .ok r ss' ps' => .ok r (putM ρ1 j g ss' ps')
              | .ex x ss' ps' => .ex x (putM ρ1 j g ss' ps')
              | .bad => .bad)
            | _, _ => .bad) else .bad
          | _ => .bad) Q := PostE.shift er t1 hp
        split at hp1
        · rename_i g e1
          split at hp1
          · rename_i hc
            obtain ⟨a2, _⟩ := er1.at_ _ _ e1
            rw [a1] at a2
            have ep : g.p = g0.p := (V.ref.inj (Option.some.inj (Option.some.inj a2))).symm
            rw [← ep]
            have hul : us.length = n := by rw [ru.length, hlen _ _ _ qa, hl]
            cases q1 : pinL ρ1 j g.l1 with
            | none => simp only [q1] at hp1; exact hp1.elim
            | some ss =>
              cases q2 : pinL ρ1 (j + 1) g.l2 with
              | none => simp only [q1, q2] at hp1; exact hp1.elim
              | some pl =>
                simp only [q1, q2] at hp1
                refine sp_go hK fok er1 e1 hc q1 q2 hul ru ?_
                cases qf : Fn g ss pl ds with
                | bad => simp only [qf] at hp1; exact hp1
                | ex x ss' ps' => simp only [qf] at hp1; exact hp1
                | ok r ss' ps' => simp only [qf] at hp1; exact hp1
          · exact hp1.elim
        · exact hp1.elim
    · exact hp.elim
  · exact hp.elim
theorem se_meth0 {pl : Sem Bool} (K : PySem.W.Frag) (hK0 : X.K = K) (w : WCls K c) (hm : Meth K c m f) (G : FnOk X.prog X.w K X.mg X.base (L2N.CX X.prog X.w) k f fd ps (spM K W.T c 0 Fn)) (hr : Room k X.A) (hb : L2.Binds K fd ps []) (tk : L2N.Takes X W.w) (hn : NoFld m) (ho : SE X W o (tVar i) fo)
    (ht : eval (.Call (.Attribute o m apos) [] [] pos) X.env = (do
      let ov ← eval o X.env
      standAt apos.atName
      let (f, first) ← holding [ov] (getMethod ov m pl)
      callWith pos f first (backTo pos (starEach [] X.env)) (backToKw pos (keywordEach [] X.env))) := by rfl) :
    SE X W (.Call (.Attribute o m apos) [] [] pos) (tMethS c m (spM K W.T c 0 Fn) (WE W.w) (tVar i) tNil) (fMeth c i j Fn fNil) := by
  subst hK0
  refine ⟨pe_methS0 ho.pe w.cl hm G hr hb (L2N.passAt tk) ht, fun F S H σ ρ Q hK fok er hp => ?_⟩
  unfold fMeth at hp
  split at hp
  · rename_i g e0
    split at hp
    · rename_i hc0
      obtain ⟨a1, _, ⟨dx, h1⟩, _⟩ := er.at_ _ _ e0
      rw [hc0] at h1
      refine ⟨_, a1, g.p, dx, g.fs, rfl, h1, fs_no hn g, ?_⟩
      simp only [fNil, Out.bind, e0, hc0, if_true] at hp
      cases q1 : pinL ρ j g.l1 with
      | none => simp only [q1] at hp; exact hp.elim
      | some ss =>
        cases q2 : pinL ρ (j + 1) g.l2 with
        | none => simp only [q1, q2] at hp; exact hp.elim
        | some pl =>
          simp only [q1, q2] at hp
          refine sp_go (ds := []) hK fok er e0 hc0 q1 q2 rfl .nil ?_
          cases qf : Fn g ss pl [] with
          | bad => simp only [qf] at hp; exact hp
          | ex x ss' ps' => simp only [qf] at hp; exact hp
          | ok r ss' ps' => simp only [qf] at hp; exact hp
    · exact hp.elim
  · exact hp.elim
theorem passNox : Passes (L2N.CX X.prog X.w) X.nox (fun _ _ _ => False) := fun _ _ _ _ _ _ _ ⟨_, _, _, _, _, _, _, _, _, _, _, _, z⟩ => z
/-- o.m, a property -/
theorem se_prop (K : PySem.W.Frag) (hK0 : X.K = K) {pp : Addr} (w : WCls K c) (hq : PropOf K c m pp f) (G : FnOk X.prog X.w K X.mg X.base (L2N.CX X.prog X.w) k f fd ps (spM K W.T c 0 Fn)) (hr : Room (k + 1) X.A) (hb : L2.Binds K fd ps []) (ho : SE X W o (tVar i) fo)
    (hab : attributeBase o m X.env (eval o X.env) = eval o X.env := by rfl) : SE X W (.Attribute o m pos) (tProp c (spM K W.T c 0 Fn) [] (fun _ _ _ => False) (tVar i)) (fProp c i j Fn) := by
  subst hK0
  refine ⟨pe_prop ho.pe w.cl hq G hr hb .nil passNox hab, fun F S H σ ρ Q hK fok er hp => ?_⟩
  unfold fProp at hp
  split at hp
  · rename_i g e0
    split at hp
    · rename_i hc0
      obtain ⟨a1, _, ⟨dx, h1⟩, _⟩ := er.at_ _ _ e0
      rw [hc0] at h1
      refine ⟨_, a1, g.p, dx, g.fs, rfl, h1, ?_⟩
      cases q1 : pinL ρ j g.l1 with
      | none => simp only [q1] at hp; exact hp.elim
      | some ss =>
        cases q2 : pinL ρ (j + 1) g.l2 with
        | none => simp only [q1, q2] at hp; exact hp.elim
        | some pl =>
          simp only [q1, q2] at hp
          refine sp_go (ds := []) hK fok er e0 hc0 q1 q2 rfl .nil ?_
          cases qf : Fn g ss pl [] with
          | bad => simp only [qf] at hp; exact hp
          | ex x ss' ps' => simp only [qf] at hp; exact hp.elim
          | ok r ss' ps' => simp only [qf] at hp; exact hp
    · exact hp.elim
  · exact hp.elim
end
end Pv
set_option maxRecDepth 100000
set_option exponentiation.threshold 3000
/-! Px2: texts: str(x), split, join, count, the signs of a text; a pair turned round. -/
namespace Pv
open PySem PySem.Spec L2
open PyProof.Rows hiding St

/-! ### str(x) -/
def gStr1 : List PyData → Option R
  | [.int i] => if i.natAbs < 1000000 then some (.val (.str (toString i : String))) else none
  | [.str a] => some (.val (.str a))
  | _ => none
def rStr1 : List V → Hp → VK → Prop := fun xs H Q => (∃ i : Int, xs = [.int i] ∧ i.natAbs.log2 < 1920 ∧ Q (.str (toString i : String)) H) ∨ ∃ a, xs = [.str a] ∧ Q (.str a) H
theorem call_strA {X : Cx} : CallR X (.type "str") rStr1 := by
  intro pins s σ H xs us Q I r h
  rcases h with h | h
  · exact call_str_int pins s σ H xs us Q I r h
  · exact SkE.call_str_str pins s σ H xs us Q I r h
theorem cg_str1 {K : PySem.W.Frag} : CallG K rStr1 gStr1 := by
  intro S H vs ds res Q dom hs e q
  unfold gStr1 at e
  split at e
  · rename_i i
    obtain ⟨v, rfl, rt⟩ := hs.one
    cases rt.int
    split at e
    · rename_i hi
      cases e
      refine .inl ⟨i, rfl, ?_, q _ S H (.val (.str _))⟩
      have h1 : i.natAbs.log2 ≤ i.natAbs := Nat.log2_le_self _
      by_cases hz : i.natAbs = 0
      · rw [hz]; decide
      · have h2 := (Nat.log2_lt hz (k := 1920)).mpr (Nat.lt_of_lt_of_le hi (by
          have : (1000000 : Nat) ≤ 2 ^ 20 := by decide
          exact Nat.le_trans this (Nat.pow_le_pow_right (by decide) (by decide))))
        exact h2
    · cases e
  · rename_i a
    obtain ⟨v, rfl, rt⟩ := hs.one
    cases rt.str
    cases e
    exact .inr ⟨a, rfl, q _ S H (.val (.str _))⟩
  · cases e

/-! ### methods of texts -/
def SMethG (K : PySem.W.Frag) (r : V → List V → Hp → VK → Prop) (g : Str → List PyData → Option R) : Prop := ∀ (S : AS) (H : Hp) (x : Str) (xs : List V) (ds : List PyData) (res : R) (Q : VK), (∀ a, S a → H a ≠ none) → RpA K S H xs ds → g x ds = some res →
  (∀ v S' H', Grow K S H S' H' v res → Q v H') → r (.str x) xs H Q
def fSM (g : Str → List PyData → Option R) (fo : EF) (fa : AF) : EF := fun ρ => (fo ρ).bind fun r ρ1 => match deref ρ1 r with
  | some (.str x) => (fa ρ1).bind fun ds ρ2 => (match g x ds with
    | some res => .ok res ρ2
    | none => .bad)
  | _ => .bad
section
variable {X : Cx} {W : Wx} {o e : Expr} {es : List Expr} {to : TE} {fo : EF} {t : TA} {fa : AF} {m : Str} {id : String} {r : V → List V → Hp → VK → Prop} {g : Str → List PyData → Option R} {apos cpos : Pos}
theorem se_sm {pa : PlainAttrs "str"} (slot : PySem.Slot "str" m id) (hty : typeOf (.builtin id) = pure (.type "method_descriptor")) (hm : MtR X id r) (hg : SMethG X.K r g) (ho : SE X W o to fo) (ha : SA X W (e :: es) t fa)
    (hbase : attributeBase o m X.env (eval o X.env) = eval o X.env := by rfl)
    (hfew : ((backTo cpos (starEach (e :: es) X.env)).all (fun x => !x.1) && (backToKw cpos (keywordEach [] X.env)).all (fun x => x.1.isSome)
      && decide ((e :: es).length + ([] : List Keyword).length + (if ([] : List Keyword).isEmpty then 0 else 1) < 30)) = true := by rfl)
    (hline : (apos.endLine == cpos.line) = true := by rfl) (hs : starEach (e :: es) X.env = (false, eval e X.env) :: starEach es X.env := by rfl) (hplain : (backTo cpos (starEach es X.env)).any (·.1) = false := by rfl) :
    SE X W (.Call (.Attribute o m apos) (e :: es) [] cpos) (tBM X.K "str" r to t) (fSM g fo fa) := by
  refine ⟨pe_bm pa slot hty hm ho.pe ha.pa hbase hfew hline hs hplain, fun F S H σ ρ Q hK fok er hp => ?_⟩
  refine ho.go hK fok er (wE F W σ Q) hp fun r0 ρ1 v S1 H1 t1 er1 rr1 _ hp1 => ?_
  have hp1 : PostE F W S1 H1 σ ρ1 (match deref ρ1 r0 with
    | some (.str x) => (fa ρ1).bind fun ds ρ2 => (match g x ds with
      | some res => .ok res ρ2
      | none => .bad)
    | _ => .bad) Q := hp1
  cases q : deref ρ1 r0 with
  | none => simp only [q] at hp1; exact hp1.elim
  | some d =>
    cases d with
    | str x =>
      simp only [q] at hp1
      cases (rr1.rt er1 q).str
      refine ⟨rfl, ha.go hK fok er1 (wE F W σ Q) hp1 fun ds ρ2 us S2 H2 t2 er2 ru hp2 => ?_⟩
      have hp2 : PostE F W S2 H2 σ ρ2 (match g x ds with | some res => .ok res ρ2 | none => .bad) Q := hp2
      cases qg : g x ds with
      | none => simp only [qg] at hp2; exact hp2.elim
      | some res =>
        simp only [qg] at hp2
        refine hg S2 H2 x us ds res Q er2.dom (by rw [← hK]; exact ru) qg fun v S3 H3 gr => ?_
        rw [← hK] at gr
        obtain ⟨t3, er3, rr3, fr3⟩ := gr.step er2 fok
        exact hp2 v S3 H3 t3 er3 rr3 fr3
    | _ => simp only [q] at hp1; exact hp1.elim
end
theorem RpA.strs {K : PySem.W.Frag} {S : AS} {H : Hp} : ∀ (ys : List Str), RpA K S H (ys.map V.str) (ys.map PyData.str)
  | [] => .nil
  | y :: ys => .cons (.str y) (RpA.strs ys)
def strsD : List PyData → Option (List Str)
  | [] => some []
  | .str x :: ds => (strsD ds).map (x :: ·)
  | _ => none
theorem strsD_rp {K : PySem.W.Frag} {S : AS} {H : Hp} : ∀ {ds : List PyData} {vs : List V} {ys : List Str}, RpA K S H vs ds → strsD ds = some ys → vs = ys.map V.str
  | [], _, ys, h, e => by cases h; cases e; rfl
  | d :: ds, _, ys, h, e => by
    cases h with
    | cons h1 h2 =>
      cases d with
      | str x =>
        simp only [strsD] at e
        cases q : strsD ds with
        | none => simp [q] at e
        | some zs =>
          simp only [q, Option.map_some, Option.some.injEq] at e
          subst e
          cases h1
          rw [strsD_rp h2 q]
          rfl
      | _ => cases e
def gSplit (x : Str) : List PyData → Option R
  | [.str b] => if b.length ≠ 0 ∧ x.length ≤ 1000000 then some (.own (.lst ((Txt.split x b).map .str))) else none
  | _ => none
def gCount (x : Str) : List PyData → Option R
  | [.str b] => some (.val (.int (Txt.count x b)))
  | _ => none
def joinOk (x : Str) (ys : List Str) : Bool := decide ((ys.map (·.length)).sum + ys.length * x.length ≤ 16777216)
def gJoin (x : Str) : List PyData → Option R
  | [.list ds] => (match strsD ds with
    | some ys => if joinOk x ys = true then some (.val (.str (Txt.join x ys))) else none
    | none => none)
  | _ => none
section
variable {X : Cx} {K : PySem.W.Frag}
def rSplit1 : V → List V → Hp → VK → Prop := fun x xs H Q => ∃ a b, x = .str a ∧ xs = [.str b] ∧ (b.length == 0) = false ∧ a.length + 2 ≤ sizeLine ∧ rNewStrs (Txt.split a b) H Q
theorem mt_split1 : MtR X "str.split" rSplit1 := mt_split
def rCount1 : V → List V → Hp → VK → Prop := fun x xs H Q => ∃ a b, x = .str a ∧ xs = [.str b] ∧ Q (.int (Txt.count a b)) H
theorem mt_count1 : MtR X "str.count" rCount1 := mt_count
def rJoin1 (K : PySem.W.Frag) : V → List V → Hp → VK → Prop := fun x xs H Q => ∃ a p, ∃ ys : List Str, x = .str a ∧ xs = [.ref p] ∧ (SqL K H p (ys.map V.str) ∨ SqT K H p (ys.map V.str)) ∧
    (ys.map (·.length)).sum + ys.length * a.length ≤ 16777216 ∧ Q (.str (Txt.join a ys)) H
theorem mt_join1 (hK : X.K = K) : MtR X "str.join" (rJoin1 K) := by subst hK; exact mt_join
theorem sg_split : SMethG K rSplit1 gSplit := by
  intro S H x xs ds res Q dom hs e q
  unfold gSplit at e
  split at e
  · rename_i b
    split at e
    · rename_i hb
      cases e
      cases hs with
      | cons h1 h2 =>
        cases h1
        cases h2
        refine ⟨x, b, rfl, rfl, by simpa using hb.1, by rw [sizeLine_eq]; omega, fun p hp => ?_⟩
        exact q _ _ _ (Grow.lst hp (RpA.strs _))
    · cases e
  · cases e
theorem sg_count : SMethG K rCount1 gCount := by
  intro S H x xs ds res Q dom hs e q
  unfold gCount at e
  split at e
  · rename_i b
    cases e
    cases hs with
    | cons h1 h2 =>
      cases h1
      cases h2
      exact ⟨x, b, rfl, rfl, q _ S H (.val (.int _))⟩
  · cases e
theorem sg_join : SMethG K (rJoin1 K) gJoin := by
  intro S H x xs ds res Q dom hs e q
  unfold gJoin at e
  split at e
  · rename_i ds'
    cases qs : strsD ds' with
    | none => simp [qs] at e
    | some ys =>
      simp only [qs] at e
      split at e
      · rename_i ho
        cases e
        cases hs with
        | cons h1 h2 =>
          cases h2
          cases h1 with
          | lst hL hr =>
            have := strsD_rp hr qs
            subst this
            exact ⟨x, _, ys, rfl, rfl, .inl hL.seq, of_decide_eq_true ho, q _ S H (.val (.str _))⟩
      · cases e
  · cases e
end
section
variable {X : Cx} {W : Wx} {o e : Expr} {to : TE} {fo : EF} {t : TA} {fa : AF} {apos cpos : Pos}
theorem se_split (ho : SE X W o to fo) (ha : SA X W [e] t fa) (hbase : attributeBase o "split" X.env (eval o X.env) = eval o X.env := by rfl)
    (hfew : ((backTo cpos (starEach [e] X.env)).all (fun x => !x.1) && (backToKw cpos (keywordEach [] X.env)).all (fun x => x.1.isSome)
      && decide ([e].length + ([] : List Keyword).length + (if ([] : List Keyword).isEmpty then 0 else 1) < 30)) = true := by rfl)
    (hline : (apos.endLine == cpos.line) = true := by rfl) (hs : starEach [e] X.env = (false, eval e X.env) :: starEach [] X.env := by rfl) (hplain : (backTo cpos (starEach [] X.env)).any (·.1) = false := by rfl) :
    SE X W (.Call (.Attribute o "split" apos) [e] [] cpos) (tBM X.K "str" rSplit1 to t) (fSM gSplit fo fa) := se_sm (pa := PySem.F.plainAttrs_str) PySem.F.slot_str_split PySem.F.type_str_split mt_split1 sg_split ho ha hbase hfew hline hs hplain
theorem se_count (ho : SE X W o to fo) (ha : SA X W [e] t fa) (hbase : attributeBase o "count" X.env (eval o X.env) = eval o X.env := by rfl)
    (hfew : ((backTo cpos (starEach [e] X.env)).all (fun x => !x.1) && (backToKw cpos (keywordEach [] X.env)).all (fun x => x.1.isSome)
      && decide ([e].length + ([] : List Keyword).length + (if ([] : List Keyword).isEmpty then 0 else 1) < 30)) = true := by rfl)
    (hline : (apos.endLine == cpos.line) = true := by rfl) (hs : starEach [e] X.env = (false, eval e X.env) :: starEach [] X.env := by rfl) (hplain : (backTo cpos (starEach [] X.env)).any (·.1) = false := by rfl) :
    SE X W (.Call (.Attribute o "count" apos) [e] [] cpos) (tBM X.K "str" rCount1 to t) (fSM gCount fo fa) := se_sm (pa := PySem.F.plainAttrs_str) PySem.F.slot_str_count PySem.F.type_str_count mt_count1 sg_count ho ha hbase hfew hline hs hplain
theorem se_join (ho : SE X W o to fo) (ha : SA X W [e] t fa) (hbase : attributeBase o "join" X.env (eval o X.env) = eval o X.env := by rfl)
    (hfew : ((backTo cpos (starEach [e] X.env)).all (fun x => !x.1) && (backToKw cpos (keywordEach [] X.env)).all (fun x => x.1.isSome)
      && decide ([e].length + ([] : List Keyword).length + (if ([] : List Keyword).isEmpty then 0 else 1) < 30)) = true := by rfl)
    (hline : (apos.endLine == cpos.line) = true := by rfl) (hs : starEach [e] X.env = (false, eval e X.env) :: starEach [] X.env := by rfl) (hplain : (backTo cpos (starEach [] X.env)).any (·.1) = false := by rfl) :
    SE X W (.Call (.Attribute o "join" apos) [e] [] cpos) (tBM X.K "str" (rJoin1 X.K) to t) (fSM gJoin fo fa) := se_sm (pa := PySem.F.plainAttrs_str) PySem.F.slot_str_join PySem.F.type_str_join (mt_join1 rfl) sg_join ho ha hbase hfew hline hs hplain
end
/-! ### the signs of a text -/
def fIStr (f : EF) : IF := fun ρ => (f ρ).bind fun r ρ1 => match deref ρ1 r with
  | some (.str x) => .ok (x.cps.toList.map fun c => .str ⟨#[c]⟩) ρ1
  | _ => .bad
theorem itr_str {K : PySem.W.Frag} {S : AS} {H : Hp} (x : Str) : ItR K S H (Its x) (x.cps.toList.map fun c => .str ⟨#[c]⟩) := fun S' H' t _ => by
  refine ⟨fun i hi => ⟨?_, fun v H'' ⟨e, c, h1, h2⟩ => ?_⟩, fun i hi => ?_⟩
  · rw [List.length_map, Array.length_toList] at hi
    exact hi
  · subst e h2
    refine ⟨.str ⟨#[c]⟩, ?_, fun _ _ e => e, .str _⟩
    rw [List.getElem?_map, Array.getElem?_toList, h1]
    rfl
  · rw [List.length_map, Array.length_toList] at hi
    exact hi
theorem si_str {X : Cx} {W : Wx} {tg l : Expr} {tl : TE} {fl : EF} (hl : SE X W l tl fl) : SI X W tg l (iStr tl) (fIStr fl) := by
  refine ⟨pi_str hl.pe, fun F S H σ ρ Rr hK fok er hp => ?_⟩
  refine hl.go hK fok er (wI F W σ Rr) hp fun r ρ1 v S1 H1 t1 er1 rr _ hp1 => ?_
  have hp1 : PostI F W S1 H1 σ ρ1 (match deref ρ1 r with
    | some (.str x) => .ok (x.cps.toList.map fun c => .str ⟨#[c]⟩) ρ1
    | _ => .bad) Rr := hp1
  cases q : deref ρ1 r with
  | none => simp only [q] at hp1; exact hp1.elim
  | some d =>
    cases d with
    | str x =>
      simp only [q] at hp1
      cases (rr.rt er1 q).str
      exact ⟨x, rfl, hp1 _ S1 H1 .refl er1 (itr_str x)⟩
    | _ => simp only [q] at hp1; exact hp1.elim
end Pv
set_option maxRecDepth 100000
/-! Px3: an instance is made; bodies that make one. -/
namespace Pv
open PySem PySem.Spec L2
open PyProof.Rows hiding St

structure ITr (x : Addr) (S : AS) (H : Hp) (S' : AS) (H' : Hp) : Prop where
  off : ∀ b o, NT o → H b = some o → b ≠ x → H' b = some o
  tb : ∀ a, GxR.TabG H a → GxR.TabG H' a
  new : ∀ a, S' a → S a ∨ H a = none
  old : ∀ a, S a → S' a
  dom : ∀ a, S' a → H' a ≠ none
  stay : ∀ a, H a ≠ none → H' a ≠ none
def path0 : List PyData := [.tuple [.int 0, .int 0]]
/-- __init__'s promise -/
def spI (K : PySem.W.Frag) (T : AS) (c : Addr) (Fnt : FN) : Sp := fun vs H Q E => ∃ (S : AS) (x dx : Addr) (vT : V) (T' : PyData), vs = [.ref x, vT] ∧ ¬ S x ∧ H x = some (.ins c dx []) ∧ Rp K S H vT T' ∧ (∀ a, S a → H a ≠ none) ∧ (∀ a, T a → GxR.TabG H a) ∧ match Fnt [.val T'] with
  | .ok (.val .none) none => ∀ (g : Ins) S' H', g.p = x → g.C = c → g.vT = vT → g.T = T' → ITr x S H S' H' → WkG K S' H' g [] path0 → H g.l1 = none → H g.l2 = none → Q .non H'
  | .ex e none => ∀ cls d S' H', ITr x S H S' H' → XRc K S' H' e cls d → E cls d H'
  | _ => False
theorem spI_len {K : PySem.W.Frag} {T : AS} {c : Addr} {Fnt : FN} : ∀ vs H Q E, spI K T c Fnt vs H Q E → vs.length = 2 := fun vs H Q E ⟨S, x, dx, vT, T', e, _⟩ => by rw [e]; rfl

/-! ### a slot filled -/
theorem ER.put {F : Fx} {S : AS} {H : Hp} {σ : L2.St} {ρ : Rho} (er : ER F S H σ ρ) {i : Nat} {s0 s : Slot} {v : V} (e : ρ[i]? = some s0) (hl : isLent s0 = false) (sr : SR F S H i (some (some v)) s) (nl : ∀ m, s ≠ .lent m)
    (nm : ∀ a, v = .ref a → (∃ m, s = .own m ∨ ∃ b, s = .pin b m) → ∀ k, ¬ MutAt σ ρ k a) : ER F S H (σ.set i (some v)) (ρ.set i s) := by
  have hi : i < ρ.length := (List.getElem?_eq_some_iff.mp e).1
  have hiσ : i < σ.length := by rw [← er.len]; exact hi
  have mu : ∀ j b, MutAt (σ.set i (some v)) (ρ.set i s) j b → (j ≠ i ∧ MutAt σ ρ j b) ∨ (j = i ∧ v = .ref b ∧ ∃ m, s = .own m ∨ ∃ b, s = .pin b m) := fun j b ⟨⟨m, h1⟩, h2⟩ => by
    by_cases q : j = i
    · subst q
      rw [List.getElem?_set_self hi] at h1
      rw [List.getElem?_set_self hiσ] at h2
      refine .inr ⟨rfl, Option.some.inj (Option.some.inj h2), m, ?_⟩
      rcases h1 with h1 | h1 | ⟨c, h1⟩
      · exact .inl (Option.some.inj h1)
      · exact absurd (Option.some.inj h1) (nl m)
      · exact .inr ⟨c, Option.some.inj h1⟩
    · rw [List.getElem?_set_ne (Ne.symm q)] at h1
      rw [List.getElem?_set_ne (Ne.symm q)] at h2
      exact .inl ⟨q, ⟨m, h1⟩, h2⟩
  refine ⟨by rw [List.length_set, List.length_set]; exact er.len, fun j t et => ?_, fun j k b h1 h2 => ?_, er.sub, er.dom, er.fr, er.tb, er.st, fun j a h => ?_⟩
  · by_cases q : j = i
    · subst q
      rw [List.getElem?_set_self hi] at et
      cases et
      rw [List.getElem?_set_self hiσ]
      exact sr
    · rw [List.getElem?_set_ne (Ne.symm q)] at et
      rw [List.getElem?_set_ne (Ne.symm q)]
      exact er.at_ j t et
  · rcases mu j b h1 with ⟨n1, m1⟩ | ⟨q1, v1, w1⟩
    · rcases mu k b h2 with ⟨n2, m2⟩ | ⟨q2, v2, w2⟩
      · exact er.dj j k b m1 m2
      · exact absurd m1 (nm b v2 w2 j)
    · rcases mu k b h2 with ⟨n2, m2⟩ | ⟨q2, v2, w2⟩
      · exact absurd m2 (nm b v1 w1 k)
      · rw [q1, q2]
  · obtain ⟨m, hm⟩ := er.lt j a h
    have q : i ≠ j := fun z => by
      subst z
      rw [e] at hm
      cases hm
      cases hl
    exact ⟨m, by rw [List.getElem?_set_ne q]; exact hm⟩

/-! ### bodies with more than one way on -/
structure SSd (X : Cx) (W : Wx) (st : List Stmt) (t : TS) (G : Rho → SO → Prop) : Prop where
  ps : PSs X st t
  sn : ∀ (F : Fx) (S : AS) (H : Hp) (σ : L2.St) (ρ : Rho) (D : Ends), F.K = X.K → F.Ok W.T → ER F S H σ ρ → (∀ o, G ρ o → PostS F W S H o D) → t D σ H
def seqD' (g : SF) (G : Rho → SO → Prop) (ρ : Rho) (o : SO) : Prop := match g ρ with
  | .nx ρ1 => G ρ1 o
  | o' => o = o'
section
variable {X : Cx} {W : Wx} {s : Stmt} {rest : List Stmt} {t u : TS} {g : SF} {G : Rho → SO → Prop}
theorem sd_of (h : SSs X W rest t g) : SSd X W rest t (fun ρ o => o = g ρ) := ⟨h.ps, fun F S H σ ρ D hK fok er hp => h.sn F S H σ ρ D hK fok er (hp _ rfl)⟩
theorem sd_cons (h1 : SS X W s t g) (h2 : SSd X W rest u G) : SSd X W (s :: rest) (tSeq t u) (seqD' g G) := by
  refine ⟨pss_cons h1.ps h2.ps, fun F S H σ ρ D hK fok er hp => ?_⟩
  refine h1.sn F S H σ ρ _ hK fok er ?_
  unfold seqD' at hp
  cases q : g ρ with
  | nx ρ1 =>
    rw [q] at hp
    exact fun σ' S' H' t' er' => h2.sn F S' H' σ' ρ1 D hK fok er' fun o ho => (hp o ho).shift t'
  | rt r ρ1 => rw [q] at hp; exact hp _ rfl
  | bk ρ1 => rw [q] at hp; exact hp _ rfl
  | ct ρ1 => rw [q] at hp; exact hp _ rfl
  | ex x ρ1 => rw [q] at hp; exact hp _ rfl
  | bad => rw [q] at hp; exact hp _ rfl
end
/-- the ghosts are set behind a statement -/
def tGhostR (i j : Nat) (t : TS) : TS := fun D σ H => t { D with nx := fun σ1 H1 => ∃ u w : Option V, D.nx ((σ1.set i u).set j w) H1 } σ H
theorem ps_ghostR {X : Cx} {b : Stmt} {t : TS} {i j : Nat} {x y : Str} (h : PS X b t) (hi : X.N[i]? = some x) (hj : X.N[j]? = some y) (nx : ¬ Vis X.env.scope x) (ny : ¬ Vis X.env.scope y) : PS X b (tGhostR i j t) := by
  refine ⟨fun pins s σ H D I q => ?_⟩
  refine wpAny_mono (h.run pins s σ H _ I q) (fun f s' hs => ?_) fun e s' hs => hs
  cases f with
  | next =>
    obtain ⟨σ', H', I', u, w, q'⟩ := hs
    exact ⟨_, H', inv_ghost (inv_ghost I' hi nx) hj ny, q'⟩
  | brk => exact hs
  | cont => exact hs
  | ret u => exact hs
section
variable {P : Program} {w : World} {K : PySem.W.Frag} {mg : Str → Option Value} {base : Heap}
/-- a def's body with more ways on than one: each of them ends so -/
theorem fn_pvD {T : AS} {x qual : Str} {st : Stmt} {f : Addr} {fd : FuncData} {N ps : List Str} {k : Nat} {G : Rho → SO → Prop} {Fn : FN} (F : Fun K x qual st f fd) (Sc : FnScope N ps (defScope st))
    (hG : ∀ ss, ss.length = ps.length → Fn ss ≠ .bad → ∀ o, G (ss ++ List.replicate (N.length - ss.length) .no) o → outFn o = Fn ss)
    (hbody : ∀ (cdv : Value) (A : Around) (outer : List Env) (s : Shared) (H : Hp) (E : XK), Room k (A.deeper (PyProof.Rows.envOfC qual (defScope st) s.heap.objs.size f cdv)) →
      ∃ t, SSd (cxOf (L2N.CX P w) P w K mg base N qual (defScope st) f cdv A outer s H E) ⟨fun cls d _ H => E cls d H, T⟩ (defBody st) t G) : FnOk P w K mg base (L2N.CX P w) (k + 1) f fd ps (spF K T ps.length Fn) := by
  obtain ⟨oc, od, kV, doc, pm, an, cdv, ct, osl, rfl, lk, hcd⟩ := F.ex
  refine fn_of lk hcd Sc spF_len fun A outer s H vs Q E hr hsp => ?_
  obtain ⟨t, ht⟩ := hbody cdv A outer s H E hr
  refine ⟨t, ht.ps, ?_⟩
  obtain ⟨S, ss, hl, ar, ho, dom, tab, post⟩ := hsp
  obtain ⟨F1, hK, fok, er, hp⟩ := sn_fn0 (N := N) (Q := Q) (E := E) (by have := congrArg List.length Sc.pre; rw [List.length_take] at this; omega) hl ar ho dom tab
  refine ht.sn F1 S H (L2.start N vs) _ _ hK fok er fun o ho2 => hp o ?_
  rw [hG ss hl (fun z => by rw [z] at post; exact post) o ho2]
  exact post
end
/-! ### C(e) in a statement -/
section
variable {X : Cx} {W : Wx} {e : Expr} {t : TA} {fa : AF} {k : Nat} {c f : Addr} {fd : FuncData} {Fnt : FN} {x : Str} {p pos : Pos}
/-- what C(e) leaves -/
def MkPost (F : Fx) (S : AS) (H : Hp) (σ : L2.St) (ρ : Rho) (c : Addr) (T : PyData) (Q : VK) : Prop := ∀ (g : Ins) S' H', g.C = c → g.T = T → TrS S H S' H' → ER F S' H' σ ρ → WkG F.K S' H' g [] path0 → F.H0 g.l1 = none → F.H0 g.l2 = none → (∀ k, ¬ MutAt σ ρ k g.l1) → (∀ k, ¬ MutAt σ ρ k g.l2) → Q (.ref g.p) H'
theorem sn_make {K : PySem.W.Frag} (hK0 : X.K = K) (ha : SA X W [e] t fa) (F : Fx) (S : AS) (H : Hp) (σ : L2.St) (ρ ρ1 : Rho) (T : PyData) (Q : VK) (E : XK) (hK : F.K = X.K) (fok : F.Ok W.T) (er : ER F S H σ ρ) (qa : fa ρ = .ok [T] ρ1) (qf : Fnt [.val T] = .ok (.val .none) none)
    (hq : ∀ S1 H1, TrS S H S1 H1 → ER F S1 H1 σ ρ1 → MkPost F S1 H1 σ ρ1 c T Q) : tMake c (spI K W.T c Fnt) [] E t σ H Q := by
  subst hK0
  refine ha.sn F S H σ ρ _ hK fok er ?_
  rw [qa]
  intro vs S1 H1 t1 er1 ru x dx nx ndx nex
  have hq1 := hq S1 H1 (t1.s er) er1
  cases ru with
  | cons h1 h2 =>
    rename_i vT us
    cases h2
    have same : ∀ b o, H1 b = some o → upd (upd H1 dx (.own x)) x (.ins c dx []) b = some o := fun b o eb => by
      rw [upd_ne (ne_of_none eb nx), upd_ne (ne_of_none eb ndx)]
      exact eb
    have nSx : ¬ S1 x := fun z => er1.dom x z nx
    have stay : ∀ a, H1 a ≠ none → upd (upd H1 dx (.own x)) x (.ins c dx []) a ≠ none := fun a h => by
      cases q : H1 a with
      | none => exact absurd q h
      | some o => rw [same a o q]; exact fun z => nomatch z
    refine ⟨S1, x, dx, vT, T, rfl, nSx, upd_same, ?_, fun a h => stay a (er1.dom a h), fun a h => tab_same same a (er1.tb a (fok.tab a h)), ?_⟩
    · rw [← hK]
      exact h1.mono (fun b o _ eb _ => same b o eb) fun _ z => .inl z
    · rw [qf]
      intro g S' H' ep eC ev eT it wk l1 l2
      refine ⟨rfl, ?_⟩
      have n1 : ∀ {b}, upd (upd H1 dx (.own x)) x (.ins c dx []) b = none → H1 b = none := fun {b} z => by
        cases q : H1 b with
        | none => rfl
        | some o => rw [same b o q] at z; cases z
      have same2 : ∀ b o, NT o → H1 b = some o → H' b = some o := fun b o nt eb => it.off b o nt (same b o eb) (ne_of_none eb nx)
      have new2 : ∀ a, S' a → S1 a ∨ H1 a = none := fun a h => (it.new a h).imp id n1
      have f0 : ∀ a, H1 a = none → F.H0 a = none := fun a h => by
        cases q : F.H0 a with
        | none => rfl
        | some o => exact absurd h (er1.st a (by rw [q]; exact fun z => nomatch z))
      have nm : ∀ a, H1 a = none → ∀ k, ¬ MutAt σ ρ1 k a := fun a h k z => er1.dom a (er1.mutS z) h
      have tbs : ∀ a, GxR.TabG H1 a → GxR.TabG H' a := fun a h => it.tb a (tab_same same a h)
      have er2 : ER F S' H' σ ρ1 := by
        refine ⟨er1.len, fun i s es => ?_, er1.dj, fun a h => it.old a (er1.sub a h), it.dom, fun b o nt eb n => same2 b o nt (er1.fr b o nt eb n), fun a h => tbs a (er1.tb a h), fun a h => it.stay a (stay a (er1.st a h)), er1.lt⟩
        have z := er1.at_ i s es
        have off : ∀ b o, NT o → H1 b = some o → ¬ S1 b → H' b = some o := fun b o nt eb _ => same2 b o nt eb
        cases s with
        | no => trivial
        | val d => obtain ⟨y, e1, h⟩ := z; exact ⟨y, e1, h.mono off new2⟩
        | own m => obtain ⟨a, e1, sa, f0, h⟩ := z; exact ⟨a, e1, it.old a sa, f0, h.mono off new2 fun o nt q => same2 a o nt q⟩
        | lent m => obtain ⟨a, e1, l, sa, h⟩ := z; exact ⟨a, e1, l, it.old a sa, h.mono off new2 fun o nt q => same2 a o nt q⟩
        | pin a m => obtain ⟨e1, sa, f0, h⟩ := z; exact ⟨e1, it.old a sa, f0, h.mono off new2 fun o nt q => same2 a o nt q⟩
        | ins g => exact ins_mono off new2 z
      have ts : TrS S1 H1 S' H' := ⟨fun b o nt eb _ => same2 b o nt eb, tbs, new2, fun a h => it.stay a (stay a h)⟩
      have := hq1 g S' H' eC eT ts er2 (by rw [hK]; exact wk) (f0 _ (n1 l1)) (f0 _ (n1 l2)) (nm _ (n1 l1)) (nm _ (n1 l2))
      rw [ep] at this
      exact this
end
/-- the slots with a new instance -/
def mkP (ρ : Rho) (i j : Nat) (g : Ins) : Rho := ((ρ.set i (.ins g)).set j (.pin g.l1 (.lst []))).set (j + 1) (.pin g.l2 (.lst path0))
theorem mk_slots {F : Fx} {S : AS} {H : Hp} {σ : L2.St} {ρ : Rho} {i j : Nat} {g : Ins} {s0 s1 s2 : Slot} (er : ER F S H σ ρ) (wk : WkG F.K S H g [] path0) (f1 : F.H0 g.l1 = none) (f2 : F.H0 g.l2 = none) (n1 : ∀ k, ¬ MutAt σ ρ k g.l1) (n2 : ∀ k, ¬ MutAt σ ρ k g.l2)
    (hi : i < j) (e0 : ρ[i]? = some s0) (e1 : ρ[j]? = some s1) (e2 : ρ[j + 1]? = some s2) (h0 : isLent s0 = false) (h1 : isLent s1 = false) (h2 : isLent s2 = false) :
    ER F S H (((σ.set i (some (.ref g.p))).set j (some (.ref g.l1))).set (j + 1) (some (.ref g.l2))) (mkP ρ i j g) := by
  have er1 := er.put (i := i) (s := .ins g) (v := .ref g.p) e0 h0 ⟨rfl, wk.np, wk.hp, wk.rT⟩ (fun m z => nomatch z) (fun a _ ⟨m, z⟩ => by rcases z with z | ⟨b, z⟩ <;> cases z)
  have mu1 : ∀ k a, MutAt (σ.set i (some (.ref g.p))) (ρ.set i (.ins g)) k a → MutAt σ ρ k a := fun k a ⟨⟨m, q1⟩, q2⟩ => by
    have hil : i < ρ.length := (List.getElem?_eq_some_iff.mp e0).1
    by_cases q : k = i
    · subst q
      rw [List.getElem?_set_self hil] at q1
      rcases q1 with q1 | q1 | ⟨_, q1⟩ <;> cases q1
    · rw [List.getElem?_set_ne (Ne.symm q)] at q1 q2
      exact ⟨⟨m, q1⟩, q2⟩
  have er2 := er1.put (i := j) (s := .pin g.l1 (.lst [])) (v := .ref g.l1) (s0 := s1) (by rw [List.getElem?_set_ne (by omega)]; exact e1) h1 ⟨rfl, wk.s1, f1, wk.m1⟩ (fun m z => nomatch z) (fun a ea _ k z => by cases ea; exact n1 k (mu1 k _ z))
  have mu2 : ∀ k, ¬ MutAt ((σ.set i (some (.ref g.p))).set j (some (.ref g.l1))) ((ρ.set i (.ins g)).set j (.pin g.l1 (.lst []))) k g.l2 := fun k ⟨⟨m, q1⟩, q2⟩ => by
    have hjl : j < (ρ.set i (.ins g)).length := by rw [List.length_set]; exact (List.getElem?_eq_some_iff.mp e1).1
    have hjs : j < (σ.set i (some (.ref g.p))).length := by rw [← er1.len]; exact hjl
    by_cases q : k = j
    · subst q
      rw [List.getElem?_set_self hjs] at q2
      exact wk.ne (V.ref.inj (Option.some.inj (Option.some.inj q2)))
    · rw [List.getElem?_set_ne (Ne.symm q)] at q1 q2
      exact n2 k (mu1 k _ ⟨⟨m, q1⟩, q2⟩)
  exact er2.put (i := j + 1) (s := .pin g.l2 (.lst path0)) (v := .ref g.l2) (s0 := s2) (by rw [List.getElem?_set_ne (by omega), List.getElem?_set_ne (by omega)]; exact e2) h2 ⟨rfl, wk.s2, f2, wk.m2⟩ (fun m z => nomatch z) (fun a ea _ k z => by cases ea; exact mu2 k z)
end Pv
set_option maxRecDepth 100000
/-! Px4: statements with more than one way on; C(e) in an assignment; pairs turned round. -/
namespace Pv
open PySem PySem.Spec L2
open PyProof.Rows hiding St

structure SDt (X : Cx) (W : Wx) (st : Stmt) (t : TS) (G : Rho → SO → Prop) : Prop where
  ps : PS X st t
  sn : ∀ (F : Fx) (S : AS) (H : Hp) (σ : L2.St) (ρ : Rho) (D : Ends), F.K = X.K → F.Ok W.T → ER F S H σ ρ → (∀ o, G ρ o → PostS F W S H o D) → t D σ H
def seqDD (G1 G2 : Rho → SO → Prop) (ρ : Rho) (o : SO) : Prop := ∃ o1, G1 ρ o1 ∧ match o1 with
  | .nx ρ1 => G2 ρ1 o
  | o' => o = o'
def ifD (gc : TF) (Ga : Rho → SO → Prop) (gb : SF) (ρ : Rho) (o : SO) : Prop := match gc ρ with
  | .ok true ρ1 => Ga ρ1 o
  | .ok false ρ1 => o = gb ρ1
  | .ex x ρ1 => o = .ex x ρ1
  | .bad => o = .bad
section
variable {X : Cx} {W : Wx} {s : Stmt} {rest : List Stmt} {t u : TS} {g : SF} {G G1 G2 : Rho → SO → Prop} {pos : Pos}
theorem sdt_of (h : SS X W s t g) : SDt X W s t (fun ρ o => o = g ρ) := ⟨h.ps, fun F S H σ ρ D hK fok er hp => h.sn F S H σ ρ D hK fok er (hp _ rfl)⟩
theorem sd_one (h : SDt X W s t G) : SSd X W [s] t G := ⟨pss_one h.ps, h.sn⟩
theorem sd_consD (h1 : SDt X W s t G1) (h2 : SSd X W rest u G2) : SSd X W (s :: rest) (tSeq t u) (seqDD G1 G2) := by
  refine ⟨pss_cons h1.ps h2.ps, fun F S H σ ρ D hK fok er hp => ?_⟩
  refine h1.sn F S H σ ρ _ hK fok er fun o1 ho1 => ?_
  cases o1 with
  | nx ρ1 => exact fun σ' S' H' t' er' => h2.sn F S' H' σ' ρ1 D hK fok er' fun o ho => (hp o ⟨_, ho1, ho⟩).shift t'
  | rt r ρ1 => exact hp _ ⟨_, ho1, rfl⟩
  | bk ρ1 => exact hp _ ⟨_, ho1, rfl⟩
  | ct ρ1 => exact hp _ ⟨_, ho1, rfl⟩
  | ex x ρ1 => exact hp _ ⟨_, ho1, rfl⟩
  | bad => exact hp _ ⟨_, ho1, rfl⟩
theorem sd_if {c : Expr} {a b : List Stmt} {tc : TT} {gc : TF} {ta tb : TS} {Ga : Rho → SO → Prop} {gb : SF} (hc : ST X W c tc gc) (ha : SSd X W a ta Ga) (hb : SSs X W b tb gb) : SDt X W (.If c a b pos) (tIfS tc ta tb) (ifD gc Ga gb) := by
  refine ⟨ps_if hc.pt ha.ps hb.ps, fun F S H σ ρ D hK fok er hp => ?_⟩
  refine hc.sn F S H σ ρ _ hK fok er ?_
  unfold ifD at hp
  cases q : gc ρ with
  | ok k ρ1 =>
    rw [q] at hp
    intro S1 H1 t1 er1
    cases k with
    | true => exact iteT (ha.sn F S1 H1 σ ρ1 D hK fok er1 fun o ho => (hp o ho).shift (t1.s er))
    | false => exact iteF (hb.sn F S1 H1 σ ρ1 D hK fok er1 ((hp _ rfl).shift (t1.s er)))
  | ex x ρ1 =>
    rw [q] at hp
    intro cls dx S1 H1 t1 er1 xr
    exact hp _ rfl cls dx σ S1 H1 (t1.s er) er1 xr
  | bad =>
    rw [q] at hp
    exact hp _ rfl
end
/-! ### x = C(e) -/
def notL (ρ : Rho) (i : Nat) : Bool := match ρ[i]? with
  | some s => !isLent s
  | none => false
theorem notL_some {ρ : Rho} {i : Nat} (h : notL ρ i = true) : ∃ s, ρ[i]? = some s ∧ isLent s = false := by
  unfold notL at h
  split at h
  · rename_i s e
    exact ⟨s, e, by simpa using h⟩
  · cases h
def mkOk (Fnt : FN) (i j : Nat) (T : PyData) (ρ : Rho) : Prop := Fnt [.val T] = .ok (.val .none) none ∧ i < j ∧ notL ρ i = true ∧ notL ρ j = true ∧ notL ρ (j + 1) = true
open Classical in
def mkD (c : Addr) (Fnt : FN) (i j : Nat) (fa : AF) (ρ : Rho) (o : SO) : Prop := match fa ρ with
  | .ok [T] ρ1 => if mkOk Fnt i j T ρ1 then ∃ g : Ins, g.C = c ∧ g.T = T ∧ o = .nx (mkP ρ1 i j g) else o = .bad
  | _ => o = .bad
section
variable {X : Cx} {W : Wx} {e : Expr} {t : TA} {fa : AF} {k : Nat} {c f : Addr} {fd : FuncData} {Fnt : FN} {x y x1 x2 : Str} {p pos pos' cpos : Pos} {i j : Nat}
theorem passNo : Passes (L2N.CX X.prog X.w) X (fun _ _ _ => False) := fun _ _ _ _ _ _ _ ⟨_, _, _, _, _, _, _, _, _, _, _, _, z⟩ => z.elim
/-- x = C(e) -/
theorem sd_mkSet (K : PySem.W.Frag) (hK0 : X.K = K) (M : L2.Mk K c f) (G : FnOk X.prog X.w K X.mg X.base (L2N.CX X.prog X.w) k f fd ["self", "town"] (spI K W.T c Fnt)) (hr : Room (k + 1) X.A) (hb : L2.Binds K fd ["self", "town"] []) (hg : Gl X y) (hm : X.mg y = some (.ref c)) (ha : SA X W [e] t fa)
    (hN : X.N.Nodup) (hi : X.N[i]? = some x) (hx : Loc X.env.scope x) (g1 : X.N[j]? = some x1) (g2 : X.N[j + 1]? = some x2) (n1 : ¬ Vis X.env.scope x1) (n2 : ¬ Vis X.env.scope x2)
    (hdb : (y == ("__debug__" : Str)) = false := by decide) (he : starEach [e] X.env = (false, eval e X.env) :: starEach [] X.env := by rfl) (hpl : (backTo cpos (starEach [] X.env)).any (·.1) = false := by rfl)
    (hs : swapsWith (.Call (.Name y p) [e] [] cpos) (some (.Name x pos')) pos.line X.env = pure false := by rfl) (hf : X.fn x = true ∨ X.env.scope.names.lookup x = some .local := by first | exact .inl rfl | exact .inr rfl | assumption) :
    SDt X W (.Assign [.Name x pos'] (.Call (.Name y p) [e] [] cpos) pos) (tGhostR j (j + 1) (tAsg (tMake c (spI K W.T c Fnt) [] (fun _ _ _ => False) t) (gName i))) (mkD c Fnt i j fa) := by
  subst hK0
  refine ⟨ps_ghostR (ps_set hN hi hx (pe_make M G hr hg hm hb .nil passNo ha.pa hdb he hpl) hs hf) g1 g2 n1 n2, fun F S H σ ρ D hK fok er hp => ?_⟩
  unfold mkD at hp
  cases qa : fa ρ with
  | bad => rw [qa] at hp; exact (hp _ rfl).elim
  | ex x ρ1 => rw [qa] at hp; exact (hp _ rfl).elim
  | ok ds ρ1 =>
    rw [qa] at hp
    match ds, hp, qa with
    | [], hp, _ => exact (hp _ rfl).elim
    | _ :: _ :: _, hp, _ => exact (hp _ rfl).elim
    | [T], hp, qa =>
      by_cases hk : mkOk Fnt i j T ρ1
      · simp only [if_pos hk] at hp
        obtain ⟨qf, hij, l0, l1, l2⟩ := hk
        obtain ⟨s0, e0, h0⟩ := notL_some l0
        obtain ⟨s1, e1, h1⟩ := notL_some l1
        obtain ⟨s2, e2, h2⟩ := notL_some l2
        unfold tGhostR tAsg gName
        simp only
        refine sn_make rfl ha F S H σ ρ ρ1 T _ _ hK fok er qa qf fun S1 H1 t1 er1 => ?_
        intro g S' H' eC eT t2 er2 wk f1 f2 m1 m2
        refine ⟨some (.ref g.l1), some (.ref g.l2), ?_⟩
        exact hp _ ⟨g, eC, eT, rfl⟩ _ S' H' (t1.trans t2) (mk_slots er2 wk f1 f2 m1 m2 hij e0 e1 e2 h0 h1 h2)
      · simp only [if_neg hk] at hp
        exact (hp _ rfl).elim
end
theorem len1 {fe : EF} : ∀ ρ ds ρ', fCons fe fNil ρ = .ok ds ρ' → ds.length = 1 := by
  intro ρ ds ρ' h
  unfold fCons at h
  cases q : fe ρ with
  | bad => rw [q] at h; cases h
  | ex x ρ1 => rw [q] at h; cases h
  | ok r ρ1 =>
    rw [q] at h
    unfold bindF at h
    simp only at h
    cases z : freeze ρ1 r with
    | none => rw [z] at h; cases h
    | some p =>
      obtain ⟨d, ρ2⟩ := p
      rw [z] at h
      cases h
      rfl
/-- a method as its callers need it -/
structure CalM (P : Program) (w : World) (K : PySem.W.Frag) (mg : Str → Option Value) (base : Heap) (T : AS) (c : Addr) (m : Str) (k : Nat) (ps : List Str) (n : Nat) (Fn : MFN) (f : Addr) (fd : FuncData) : Prop where
  ok : FnOk P w K mg base (L2N.CX P w) k f fd ps (spM K T c n Fn)
  me : Meth K c m f
  bi : L2.Binds K fd ps []
/-- a property -/
structure CalP (P : Program) (w : World) (K : PySem.W.Frag) (mg : Str → Option Value) (base : Heap) (T : AS) (c : Addr) (m : Str) (k : Nat) (ps : List Str) (Fn : MFN) (pp f : Addr) (fd : FuncData) : Prop where
  ok : FnOk P w K mg base (L2N.CX P w) k f fd ps (spM K T c 0 Fn)
  pr : PropOf K c m pp f
  bi : L2.Binds K fd ps []
/-- the class made -/
structure CalI (P : Program) (w : World) (K : PySem.W.Frag) (mg : Str → Option Value) (base : Heap) (T : AS) (c : Addr) (x : Str) (k : Nat) (Fnt : FN) (f : Addr) (fd : FuncData) : Prop where
  ok : FnOk P w K mg base (L2N.CX P w) k f fd ["self", "town"] (spI K T c Fnt)
  mks : L2.Mk K c f
  bi : L2.Binds K fd ["self", "town"] []
  mg : mg x = some (.ref c)
end Pv
set_option maxRecDepth 100000
/-! Px5: __init__ of an instance with two lists; pairs turned round. -/
namespace Pv
open PySem PySem.Spec L2
open PyProof.Rows hiding St

theorem ne_ts : ¬ (("_town" : Str) = "_streets") := by decide +kernel
theorem ne_tp : ¬ (("_town" : Str) = "_path") := by decide +kernel
theorem ne_sp : ¬ (("_streets" : Str) = "_path") := by decide +kernel
theorem put1 (v : V) : putF "_town" v [] = [(("_town" : Str), v)] := rfl
theorem put2 (v : V) (a : Addr) : putF "_streets" (.ref a) [(("_town" : Str), v)] = [(("_town" : Str), v), (("_streets" : Str), V.ref a)] := by
  show (if ("_town" : Str) = "_streets" then _ else _) = _
  rw [if_neg ne_ts]
  rfl
theorem put3 (v : V) (a b : Addr) : putF "_path" (.ref b) [(("_town" : Str), v), (("_streets" : Str), V.ref a)] = [(("_town" : Str), v), (("_streets" : Str), V.ref a), (("_path" : Str), V.ref b)] := by
  show (if ("_town" : Str) = "_path" then _ else (("_town" : Str), v) :: (if ("_streets" : Str) = "_path" then _ else _)) = _
  rw [if_neg ne_tp, if_neg ne_sp]
  rfl
section
variable {K : PySem.W.Frag} {S : AS} {H : Hp} {x c dx : Addr} {fs : List (Str × V)}
mutual
theorem Rp.noins (hx : H x = some (.ins c dx fs)) : ∀ {v : V} {d : PyData}, Rp K S H v d → Rp K (fun a => S a ∨ a = x) H v d
  | _, _, .non => .non
  | _, _, .bl b => .bl b
  | _, _, .int i => .int i
  | _, _, .str x => .str x
  | _, _, .lst h hs => by
    refine .lst ?_ (RpA.noins hx hs)
    rcases h with ⟨n, h⟩ | h
    · refine .inl ⟨fun q => ?_, h⟩
      rcases q with q | q
      · exact n q
      · subst q
        rcases h with h | ⟨o, h⟩ <;> (rw [hx] at h; cases h)
    · exact .inr h
  | _, _, .tup n h hs => .tup (fun q => by
      rcases q with q | q
      · exact n q
      · subst q; rw [hx] at h; cases h) h (RpA.noins hx hs)
  | _, _, .dT n h hk hs e => .dT (fun q => by
      rcases q with q | q
      · exact n q
      · subst q; rw [hx] at h; cases h) h hk (RpA.noins hx hs) e
  | _, _, .dK n h hk hs e => .dK (fun q => by
      rcases q with q | q
      · exact n q
      · subst q; rw [hx] at h; cases h) h hk (RpA.noins hx hs) e
theorem RpA.noins (hx : H x = some (.ins c dx fs)) : ∀ {vs : List V} {ds : List PyData}, RpA K S H vs ds → RpA K (fun a => S a ∨ a = x) H vs ds
  | _, _, .nil => .nil
  | _, _, .cons h hs => .cons (Rp.noins hx h) (RpA.noins hx hs)
end
end
section
variable {K : PySem.W.Frag} {S S1 : AS} {H H1 : Hp} {x dx c l1 l2 t : Addr} {vT : V} {T' : PyData}
/-- the heap behind __init__ -/
def initH (H1 : Hp) (c x dx l1 l2 t : Addr) (vT : V) : Hp :=
  upd (upd (upd (upd (upd (upd H1 x (.ins c dx [(("_town" : Str), vT)])) l1 (.lst [])) x (.ins c dx [(("_town" : Str), vT), (("_streets" : Str), V.ref l1)])) t (.tup [.int 0, .int 0])) l2 (.lst [.ref t])) x (.ins c dx [(("_town" : Str), vT), (("_streets" : Str), V.ref l1), (("_path" : Str), V.ref l2)])
theorem init_end (tr : TrS S H S1 H1) (sub : ∀ a, S a → S1 a) (dom1 : ∀ a, S1 a → H1 a ≠ none) (keep : ∀ b o, NT o → H b = some o → H1 b = some o) (hx : H x = some (.ins c dx [])) (nx : ¬ S x) (r : Rp K S H vT T')
    (n1 : H1 l1 = none) (nt : H1 t = none) (n2 : H1 l2 = none) (t1 : t ≠ l1) (l21 : l2 ≠ l1) (l2t : l2 ≠ t) :
    ITr x S H (fun a => S1 a ∨ a = l1 ∨ a = l2) (initH H1 c x dx l1 l2 t vT) ∧ WkG K (fun a => S1 a ∨ a = l1 ∨ a = l2) (initH H1 c x dx l1 l2 t vT) ⟨x, c, vT, l1, l2, T'⟩ [] path0 ∧ H l1 = none ∧ H l2 = none := by
  have hx1 : H1 x = some (.ins c dx []) := keep x _ (fun _ z => nomatch z) hx
  have x1 : x ≠ l1 := fun z => by rw [z, n1] at hx1; cases hx1
  have x2 : x ≠ l2 := fun z => by rw [z, n2] at hx1; cases hx1
  have xt : x ≠ t := fun z => by rw [z, nt] at hx1; cases hx1
  have at_ : ∀ b, b ≠ x → b ≠ l1 → b ≠ l2 → b ≠ t → initH H1 c x dx l1 l2 t vT b = H1 b := fun b a1 a2 a3 a4 => by
    unfold initH
    rw [upd_ne a1, upd_ne a3, upd_ne a4, upd_ne a1, upd_ne a2, upd_ne a1]
  have aX : initH H1 c x dx l1 l2 t vT x = some (.ins c dx [(("_town" : Str), vT), (("_streets" : Str), V.ref l1), (("_path" : Str), V.ref l2)]) := by
    unfold initH
    rw [upd_same]
  have a1 : initH H1 c x dx l1 l2 t vT l1 = some (.lst []) := by
    unfold initH
    rw [upd_ne x1.symm, upd_ne l21.symm, upd_ne t1.symm, upd_ne x1.symm, upd_same]
  have a2 : initH H1 c x dx l1 l2 t vT l2 = some (.lst [.ref t]) := by
    unfold initH
    rw [upd_ne x2.symm, upd_same]
  have aT : initH H1 c x dx l1 l2 t vT t = some (.tup [.int 0, .int 0]) := by
    unfold initH
    rw [upd_ne xt.symm, upd_ne l2t.symm, upd_same]
  have none1 : ∀ {b}, H1 b = none → H b = none := fun {b} z => by
    cases q : H b with
    | none => rfl
    | some o => exact absurd z (tr.stay b (by rw [q]; exact fun z => nomatch z))
  have nS1x : ¬ S1 x := fun z => by
    rcases tr.new x z with z | z
    · exact nx z
    · rw [hx] at z; cases z
  have nSx : ¬ (S1 x ∨ x = l1 ∨ x = l2) := fun z => by
    rcases z with z | z | z
    · exact nS1x z
    · exact x1 z
    · exact x2 z
  have nSt : ¬ (S1 t ∨ t = l1 ∨ t = l2) := fun z => by
    rcases z with z | z | z
    · exact dom1 t z nt
    · exact t1 z
    · exact l2t z.symm
  have offF : ∀ b o, NT o → H b = some o → b ≠ x → initH H1 c x dx l1 l2 t vT b = some o := fun b o ntt e nb => by
    have e1 := keep b o ntt e
    rw [at_ b nb (fun z => by rw [z, n1] at e1; cases e1) (fun z => by rw [z, n2] at e1; cases e1) (fun z => by rw [z, nt] at e1; cases e1)]
    exact e1
  have stay1 : ∀ b, H1 b ≠ none → initH H1 c x dx l1 l2 t vT b ≠ none := fun b h => by
    by_cases q : b = x
    · rw [q, aX]; exact fun z => nomatch z
    · rw [at_ b q (fun z => h (by rw [z]; exact n1)) (fun z => h (by rw [z]; exact n2)) (fun z => h (by rw [z]; exact nt))]
      exact h
  have newF : ∀ a, (S1 a ∨ a = l1 ∨ a = l2) → S a ∨ H a = none := fun a h => by
    rcases h with h | h | h
    · exact tr.new a h
    · exact .inr (by rw [h]; exact none1 n1)
    · exact .inr (by rw [h]; exact none1 n2)
  refine ⟨⟨offF, fun a h => ?_, newF, fun a h => .inl (sub a h), fun a h => ?_, fun a h => stay1 a (tr.stay a h)⟩, ⟨nSx, ⟨dx, aX⟩, (r.noins hx).mono (fun b o ntt e nb => offF b o ntt e fun z => nb (.inr z)) (fun a h => (newF a h).imp .inl id), .inr (.inl rfl), .inr (.inr rfl), l21.symm, ⟨[], a1, .nil⟩, ⟨[.ref t], a2, RpA.one (.tup nSt aT (.cons (.int 0) (.cons (.int 0) .nil)))⟩⟩, none1 n1, none1 n2⟩
  · obtain ⟨qs, e, tt⟩ := tr.tb a h
    have q1 : a ≠ x := fun z => by rw [z, hx1] at e; cases e
    exact ⟨qs, by rw [at_ a q1 (fun z => by rw [z, n1] at e; cases e) (fun z => by rw [z, n2] at e; cases e) (fun z => by rw [z, nt] at e; cases e)]; exact e, tt⟩
  · rcases h with h | h | h
    · exact stay1 a (dom1 a h)
    · rw [h, a1]; exact fun z => nomatch z
    · rw [h, a2]; exact fun z => nomatch z
end
end Pv
set_option maxRecDepth 100000
set_option maxHeartbeats 4000000
/-! Px6: t[::-1], t a pair. -/
namespace Pv
open PySem PySem.Spec L2
open PyProof.Rows hiding St

section
variable {prog : Program} {w : World} {A : Around} {s : Shared} {E : Value → Shared → Prop}
theorem applied_back {sl : Addr} {n : Nat} {vs : Value} {Q : Int × Int × Nat → Shared → Prop} (hs : s.heap.IsSliceOf sl .none .none vs) (ps : IsPart vs (some (-1)))
    (h : Q ((n : Int) - 1, -1, n) s) : wpAny (model prog w) A (Builtin.Slice.sliceApplied (.ref sl) (pure (n : Int))) Q E s := by
  obtain ⟨os, hos, hcs, hds⟩ := id hs
  unfold Builtin.Slice.sliceApplied Builtin.Slice.sliceFields
  refine wpAny_bind (wpAny_bind (wpAny_field hos hds (x := .none) rfl (wpAny_bind (wpAny_field hos hds (x := .none) rfl (wpAny_bind (wpAny_field hos hds (x := vs) rfl (wpAny_pure ?_)))))))
  refine wpAny_bind (HT.slicePart_ ps ?_)
  show wpAny _ _ (if ((-1 : Int) == 0) = true then _ else _) _ _ s
  rw [if_neg (by decide)]
  refine wpAny_bind (slicePart_none (wpAny_bind (slicePart_none (wpAny_bind (wpAny_pure ?_)))))
  show wpAny _ _ (pure ((n : Int) - 1, (-1 : Int), Builtin.Slice.slicePlaces ((n : Int) - 1) (-1) (-1))) _ _ s
  have e : Builtin.Slice.slicePlaces ((n : Int) - 1) (-1) (-1) = n := by
    unfold Builtin.Slice.slicePlaces
    have h1 : ¬ ((-1 : Int) > 0) := by decide
    rw [if_neg h1]
    by_cases h2 : (n : Int) - 1 > -1
    · rw [if_pos h2, show (- -1 : Int) = 1 by decide, Int.ediv_one]
      omega
    · rw [if_neg h2]
      omega
  rw [e]
  exact wpAny_pure h
theorem getItem_back {t sl : Addr} {u v vs : Value} {Q : Value → Shared → Prop} (ht : IsTup s.heap t #[u, v]) (hs : s.heap.IsSliceOf sl .none .none vs) (ps : IsPart vs (some (-1)))
    (h : Q (.ref s.heap.objs.size) { s with heap := s.heap.push { cls := .type "tuple", data := .seq #[v, u] } }) : wpAny (model prog w) A (getItem (.ref t) (.ref sl)) Q E s := by
  have htake : sizeOk (.seq #[v, u]) := by
    show (2 : Nat) ≤ sizeLine
    decide +kernel
  obtain ⟨os, hos, hcs, hds⟩ := id hs
  have hTs : s.TypeIs (.ref sl) "slice" := ⟨os, hos, hcs⟩
  unfold getItem
  try with_reducible refine wpAny_holding ?_
  first | refine wpAny_bind (wpAny_pure ?_) | skip
  refine wpAny_bind (wpAny_sequenceKey ht.typeIs (by decide) ?_)
  refine wpAny_bind (wpAny_callSpecial?_slot (name := Str.ofString "__getitem__") ht.typeIs PyProof.Rows.slot_tuple_getitem
    (wpAny_call_entry PyProof.Rows.slot_tuple_getitem ht.typeIs entry_tuple_getitem ?_ (args_tuple_getitem _ _)))
  show wpAny _ _ (Builtin.Tuple.tupleItemsOf (.ref t) >>= _) _ _ s
  refine wpAny_bind (tupleItemsOf_ ht ?_)
  refine wpAny_bind (wpAny_typeOf hTs ?_)
  rw [if_pos (by decide)]
  refine wpAny_bind (applied_back (n := 2) hs ps ?_)
  show wpAny _ _ (if false = true then _ else _) _ _ s
  rw [if_neg (by decide)]
  first
    | exact wpAny_bind (m := Builtin.Tuple.tupleExact _) (wpAny_newObj_type (wpAny_pure ⟨_, rfl, wpAny_pure h⟩) htake)
    | exact wpAny_bind (m := Builtin.Tuple.tupleExact _) (wpAny_newObj_type (wpAny_bind (wpAny_pure (wpAny_pure ⟨_, rfl, wpAny_pure h⟩))) htake)
    | exact wpAny_bind (wpAny_bind (m := Builtin.Tuple.tupleExact _) (wpAny_newObj_type (wpAny_pure (wpAny_pure ⟨_, rfl, wpAny_pure h⟩)) htake))
    | exact wpAny_bind (wpAny_bind (m := Builtin.Tuple.tupleExact _) (wpAny_newObj_type (wpAny_pure ⟨_, rfl, wpAny_pure h⟩) htake))
end
section
variable {X : Cx} {W : Wx} {e : Expr} {te : TE} {fe : EF} {k k0 : Nat} {p0 p1 p2 p3 pos : Pos}
def tRev2 (K : PySem.W.Frag) (te : TE) : TE := fun σ H Q => te σ H fun x H1 => ∃ a y z, x = .ref a ∧ SqT K H1 a [y, z] ∧ ∀ p, H1 p = none → Q (.ref p) (upd H1 p (.tup [z, y]))
theorem pe_rev2 (he : PE X e te) : PE X (.Subscript e (.Slice none none (some (.UnaryOp .USub (.Constant (.int 1) k p1) p2)) p3) pos) (tRev2 X.K te) := by
  refine ⟨fun pins s σ H Q I h => ?_⟩
  refine Subscript_ (thn (he.run pins s σ H _ I h) fun v s1 ⟨x, H1, I1, r1, q1⟩ => ?_)
  obtain ⟨a, y, z, ex, hx, q⟩ := q1
  subst ex
  cases r1
  have hst : PO X (some (.UnaryOp .USub (.Constant (.int 1) k p1) p2)) (tPart (tUn (rU fun i => .int (-i)) (tC (.int 1)))) := po_some (pe_un un_neg pe_int)
  refine wpAny_Slice (thn (po_none.run pins s1 σ H1 (fun o H2 => o = none ∧ H2 = H1) I1 ⟨rfl, rfl⟩) fun vl s2 ⟨l, H2, I2, pl, el, e2⟩ => ?_)
  subst el e2
  refine thn (po_none.run pins s2 σ H2 (fun o H3 => o = none ∧ H3 = H2) I2 ⟨rfl, rfl⟩) fun vu s3 ⟨u, H3, I3, pu, eu, e3⟩ => ?_
  subst eu e3
  refine thn (hst.run pins s3 σ H3 (fun o H4 => o = some (-1) ∧ H4 = H3) I3 ⟨1, rfl, -1, rfl, rfl, rfl⟩) fun vs s4 ⟨o, H4, I4, ps, eo, e4⟩ => ?_
  subst eo e4
  have I5 : Inv X pins σ H4 { s4 with heap := s4.heap.push { cls := .type "slice", data := .fields #[vl, vu, vs] } } := I4.kept (t' := s4.toks) fun b ob q => Heap.get?_push_of_some _ q
  obtain ⟨its, r, ht, hz⟩ := I5.tuple hx
  cases pl
  cases pu
  cases r with
  | cons r1 r2 =>
    cases r2 with
    | cons r2 r3 =>
      cases r3
      rename_i v1 v2
      show wpAny (model X.prog X.w) X.A (subscriptTail e (.Slice none none (some (.UnaryOp .USub (.Constant (.int 1) k p1) p2)) p3) (.ref a) (.ref s4.heap.objs.size)) (EP X pins σ Q) X.xe { s4 with heap := s4.heap.push { cls := .type "slice", data := .fields #[.none, .none, vs] } }
      refine tail_any (ops := [.ref a, .ref s4.heap.objs.size]) ht.typeIs (PyProof.Rows.slot_tuple_getitem.lookup) ?_ (by with_unfolding_all rfl)
      refine getItem_back ht (Heap.IsSliceOf.new _ .none .none vs) ps ?_
      refine ⟨.ref _, _, I5.laid (t' := s4.toks) (o := .tup [z, y]) (fun b ob q => Heap.get?_push_of_some _ q) (Nat.le_refl _) ?_, rfl, q _ (I5.hok.fresh (Nat.le_refl _))⟩
      exact ⟨(by decide +kernel : (2 : Nat) ≤ sizeLine), [v2, v1], .cons r2 (.cons r1 .nil), IsTup.new _ _⟩
def outR2 (r : R) (ρ : Rho) : Out R := match deref ρ r with
  | some (.tuple [x, y]) => .ok (.val (.tuple [y, x])) ρ
  | _ => .bad
def fRev2 (fa : EF) : EF := fun ρ => (fa ρ).bind outR2
theorem se_rev2 (K : PySem.W.Frag) (hK0 : X.K = K) (ha : SE X W e te fe) : SE X W (.Subscript e (.Slice none none (some (.UnaryOp .USub (.Constant (.int 1) k p1) p2)) p3) pos) (tRev2 K te) (fRev2 fe) := by
  subst hK0
  refine ⟨pe_rev2 ha.pe, fun F S H σ ρ Q hK fok er hp => ?_⟩
  refine ha.go hK fok er (wE F W σ Q) hp fun r ρ1 v S1 H1 t1 er1 rr _ hp1 => ?_
  have hp1 : PostE F W S1 H1 σ ρ1 (outR2 r ρ1) Q := hp1
  unfold outR2 at hp1
  cases qa : deref ρ1 r with
  | none => simp only [qa] at hp1; exact hp1.elim
  | some d =>
    simp only [qa] at hp1
    have rt := rr.rt er1 qa
    cases d with
    | tuple ds =>
      obtain ⟨b, xs, rfl, nb, hb, hs⟩ := RT.tuple rt
      match ds, hs, hp1 with
      | [], _, hp1 => exact hp1.elim
      | [_], _, hp1 => exact hp1.elim
      | _ :: _ :: _ :: _, _, hp1 => exact hp1.elim
      | [x, y], hs, hp1 =>
        cases hs with
        | cons h1 h2 =>
          cases h2 with
          | cons h2 h3 =>
            cases h3
            rename_i v1 v2
            rw [← hK]
            refine ⟨b, v1, v2, rfl, SqT.of hb, fun p hpn => ?_⟩
            obtain ⟨t, er', rr', fr'⟩ := (Grow.tup (K := F.K) (S := S1) er1.dom hpn (.cons h2 (.cons h1 .nil))).step er1 fok
            exact hp1 _ _ _ t er' rr' fr'
    | _ => exact hp1.elim
end
@[simp] theorem s_fRev2 {fa : EF} {ρ : Rho} : fRev2 fa ρ = (fa ρ).bind outR2 := rfl
@[simp] theorem s_outR2 {r : R} {ρ : Rho} : outR2 r ρ = (match deref ρ r with
  | some (.tuple [x, y]) => .ok (.val (.tuple [y, x])) ρ
  | _ => .bad) := rfl
end Pv
set_option maxRecDepth 100000
/-! Px7: __init__ whole. -/
namespace Pv
open PySem PySem.Spec L2
open PyProof.Rows hiding St

def tInit (K : PySem.W.Frag) (tN : TE) : TS := tSeq (tDrop tN) (tSeq (sFld K (tVar 0) (tVar 1) "_town") (tSeq (sFld K (tVar 0) (tLst tNil) "_streets") (sFld K (tVar 0) (tLst (tCons (tTup (tCons (tC (.int 0)) (tCons (tC (.int 0)) tNil))) tNil)) "_path")))
section
variable {X : Cx} {W : Wx} {e : Expr} {tN : TE} {K : PySem.W.Frag} {c : Addr} {Fnt : FN} {vs : List V} {H : Hp} {Q : VK} {E : XK}
theorem sn_init (hK : X.K = K) (hN : SE X W e tN (fCall Fnt (cConsF (fVar 1) rNil))) (wc : WCls K c) (hwe : ∀ cls d σ H, E cls d H → W.w cls d σ H) (hsp : spI K W.T c Fnt vs H Q E) : tInit K tN { nx := fun _ H' => Q .non H', rt := Q } (L2.start ["self", "town"] vs) H := by
  subst hK
  obtain ⟨S, x, dx, vT, T', rfl, nx, hx, rT, dom, tab, post⟩ := hsp
  let F0 : Fx := ⟨X.K, H, S, fun _ => none⟩
  have fok : F0.Ok W.T := ⟨tab, dom, fun _ _ h => nomatch h⟩
  have σ0 : L2.start ["self", "town"] [V.ref x, vT] = [some (V.ref x), some vT] := rfl
  have er : ER F0 S H (L2.start ["self", "town"] [V.ref x, vT]) [.no, .val T'] := by
    refine ⟨rfl, fun i s h => ?_, fun i j a h1 _ => ?_, fun _ z => z, dom, fun _ _ _ z _ => z, fun _ z => z, fun _ z => z, fun _ _ z => nomatch z⟩
    · match i, h with
      | 0, h => cases h; trivial
      | 1, h => cases h; exact ⟨vT, rfl, rT⟩
      | _ + 2, h => simp at h
    · obtain ⟨⟨m, h1⟩, _⟩ := h1
      match i, h1 with
      | 0, h1 => rcases h1 with h1 | h1 | ⟨_, h1⟩ <;> cases h1
      | 1, h1 => rcases h1 with h1 | h1 | ⟨_, h1⟩ <;> cases h1
      | _ + 2, h1 => simp at h1
  cases qf : Fnt [.val T'] with
  | bad => rw [qf] at post; exact post.elim
  | ex xe m =>
    rw [qf] at post
    match m, post, qf with
    | some _, post, _ => exact post.elim
    | none, post, qf =>
      unfold tInit
      refine hN.sn F0 S H _ [.no, .val T'] _ rfl fok er ?_
      have ev : fCall Fnt (cConsF (fVar 1) rNil) [.no, .val T'] = .ex xe [.no, .val T'] := by
        simp [fCall, cConsF, fVar, rNil, bindF, freeze, Out.bind, qf]
      rw [ev]
      intro cls d S1 H1 t1 er1 xr
      exact hwe _ _ _ _ (post cls d S1 H1 ⟨fun b o nt eb _ => er1.fr b o nt eb (fun ⟨_, z⟩ => nomatch z), er1.tb, t1.new, er1.sub, er1.dom, er1.st⟩ xr)
  | ok r m =>
    rw [qf] at post
    match r, m, post, qf with
    | .val .none, none, post, qf =>
      unfold tInit
      refine hN.sn F0 S H _ [.no, .val T'] _ rfl fok er ?_
      have ev : fCall Fnt (cConsF (fVar 1) rNil) [.no, .val T'] = .ok (.val .none) [.no, .val T'] := by
        simp [fCall, cConsF, fVar, rNil, bindF, freeze, Out.bind, qf]
      rw [ev]
      intro v S1 H1 t1 er1 _ _
      have tr := t1.s er
      have keep : ∀ b o, NT o → H b = some o → H1 b = some o := fun b o nt eb => er1.fr b o nt eb fun ⟨_, z⟩ => nomatch z
      have hx1 : H1 x = some (.ins c dx []) := keep x _ (fun _ z => nomatch z) hx
      refine ⟨vT, rfl, V.ref x, rfl, x, c, dx, [], rfl, hx1, wc.cl, wc.nT, by decide, ?_⟩
      refine ⟨by decide +kernel, fun l1 h1 => ⟨V.ref x, rfl, x, c, dx, putF "_town" vT [], rfl, ?_, wc.cl, wc.nS, ?_, ?_⟩⟩
      · have : x ≠ l1 := fun z => by rw [z, upd_same] at h1; cases h1
        rw [upd_ne this, upd_same]
      · rw [put1]; exact (by decide : (1 : Nat) < 1000)
      have xl1 : x ≠ l1 := fun z => by rw [z, upd_same] at h1; cases h1
      have n1 : H1 l1 = none := by rw [upd_ne xl1.symm] at h1; exact h1
      refine ⟨(by decide +kernel : (2 : Nat) ≤ sizeLine), fun t ht => ⟨(by decide +kernel : (1 : Nat) ≤ sizeLine), fun l2 h2 => ?_⟩⟩
      have xt : x ≠ t := fun z => by rw [z, upd_same] at ht; cases ht
      have tl1 : t ≠ l1 := fun z => by rw [z, upd_ne xl1.symm, upd_same] at ht; cases ht
      have nt : H1 t = none := by rw [upd_ne xt.symm, upd_ne tl1, upd_ne xt.symm] at ht; exact ht
      have l2t : l2 ≠ t := fun z => by rw [z, upd_same] at h2; cases h2
      have xl2 : x ≠ l2 := fun z => by rw [← z, upd_ne xt, upd_same] at h2; cases h2
      have l21 : l2 ≠ l1 := fun z => by rw [z, upd_ne tl1.symm, upd_ne xl1.symm, upd_same] at h2; cases h2
      have n2 : H1 l2 = none := by rw [upd_ne l2t, upd_ne xl2.symm, upd_ne l21, upd_ne xl2.symm] at h2; exact h2
      refine ⟨V.ref x, rfl, x, c, dx, putF "_streets" (.ref l1) (putF "_town" vT []), rfl, ?_, wc.cl, wc.nP, ?_, ?_⟩
      · rw [upd_ne xl2, upd_ne xt, upd_same]
      · rw [put1, put2]; exact (by decide : (2 : Nat) < 1000)
      · rw [put1, put2, put3]
        obtain ⟨it, wk, f1, f2⟩ := init_end (c := c) (l1 := l1) (l2 := l2) (t := t) (vT := vT) (T' := T') tr er1.sub er1.dom keep hx nx rT n1 nt n2 tl1 l21 l2t
        exact post ⟨x, c, vT, l1, l2, T'⟩ _ _ rfl rfl rfl rfl it wk f1 f2
theorem init_go {p0 p1 p2 p3 p4 q1 q2 q3 q4 r1 r2 r3 r4 r5 r6 r7 : Pos} {k1 k2 k3 : Nat} (hK : X.K = K) (hN : SE X W e tN (fCall Fnt (cConsF (fVar 1) rNil))) (wc : WCls K c) (hwe : ∀ cls d σ H, E cls d H → W.w cls d σ H) (hsp : spI K W.T c Fnt vs H Q E)
    (h0 : X.N[0]? = some ("self" : Str)) (h1 : X.N[1]? = some ("town" : Str)) (v0 : Vis X.env.scope "self") (v1 : Vis X.env.scope "town")
    (s0 : swapsWith e none p0.line X.env = pure false)
    (s1 : swapsWith (.Name "town" p3) (some (.Attribute (.Name "self" p1) "_town" p2)) p4.line X.env = pure false)
    (s2 : swapsWith (.List [] q3) (some (.Attribute (.Name "self" q1) "_streets" q2)) q4.line X.env = pure false)
    (s3 : swapsWith (.List [.Tuple [.Constant (.int 0) k1 r3, .Constant (.int 0) k2 r4] k3 r5] r6) (some (.Attribute (.Name "self" r1) "_path" r2)) r7.line X.env = pure false) :
    ∃ t, PSs X (.Expr e p0 :: .Assign [.Attribute (.Name "self" p1) "_town" p2] (.Name "town" p3) p4 :: .Assign [.Attribute (.Name "self" q1) "_streets" q2] (.List [] q3) q4 ::
      [.Assign [.Attribute (.Name "self" r1) "_path" r2] (.List [.Tuple [.Constant (.int 0) k1 r3, .Constant (.int 0) k2 r4] k3 r5] r6) r7]) t ∧ t { nx := fun _ H' => Q .non H', rt := Q } (L2.start ["self", "town"] vs) H := by
  subst hK
  exact ⟨_, pss_cons (ps_expr hN.pe s0) (pss_cons (ps_fld (pe_var h0 v0) (pe_var h1 v1) s1) (pss_cons (ps_fld (pe_var h0 v0) (pe_lst pa_nil) s2) (pss_one (ps_fld (pe_var h0 v0) (pe_lst (pa_cons (pe_tup (pa_cons pe_int (pa_cons pe_int pa_nil))) pa_nil)) s3)))), sn_init rfl hN wc hwe hsp⟩
end
section
variable {X : Cx} {W : Wx} {o e : Expr} {to : TE} {fo : EF} {t : TA} {fa : AF} {apos cpos : Pos}
theorem se_joinK (K : PySem.W.Frag) (hK : X.K = K) (ho : SE X W o to fo) (ha : SA X W [e] t fa) (hbase : attributeBase o "join" X.env (eval o X.env) = eval o X.env := by rfl)
    (hfew : ((backTo cpos (starEach [e] X.env)).all (fun x => !x.1) && (backToKw cpos (keywordEach [] X.env)).all (fun x => x.1.isSome)
      && decide ([e].length + ([] : List Keyword).length + (if ([] : List Keyword).isEmpty then 0 else 1) < 30)) = true := by rfl)
    (hline : (apos.endLine == cpos.line) = true := by rfl) (hs : starEach [e] X.env = (false, eval e X.env) :: starEach [] X.env := by rfl) (hplain : (backTo cpos (starEach [] X.env)).any (·.1) = false := by rfl) :
    SE X W (.Call (.Attribute o "join" apos) [e] [] cpos) (tBM K "str" (rJoin1 K) to t) (fSM gJoin fo fa) := by
  subst hK
  exact se_join ho ha hbase hfew hline hs hplain
end
end Pv
set_option maxRecDepth 100000
set_option maxHeartbeats 4000000
/-! Px8: an exception class whose __init__ says super().__init__(x) and keeps x in a field. -/
namespace Pv
open PySem PySem.Spec L2
open PyProof.Rows hiding St

/-- __init__'s promise -/
def spX1 (C : Addr) (f : Str) : Sp := fun vs H Q _ => ∃ (a : Addr) (y : V), vs = [.ref a, y] ∧ H a = some (exo a C none) ∧ ∀ dx, H dx = none → dx ≠ a → Q .non (upd (upd H dx (exd dx [(f, y)])) a (exo a C (some dx)))
theorem spX1_len {C : Addr} {f : Str} : ∀ vs H Q E, spX1 C f vs H Q E → vs.length = 2 := fun vs H Q E ⟨a, y, e, _⟩ => by rw [e]; rfl
/-- the two statements -/
def supBody (x : Str) (p0 p1 p2 p3 p4 p5 p6 p7 p8 p9 : Pos) : List Stmt := [.Expr (.Call (.Attribute (.Call (.Name "super" p0) [] [] p1) "__init__" p2) [.Name x p3] [] p4) p5, .Assign [.Attribute (.Name "self" p6) x p7] (.Name x p8) p9]
/-- what K says of the class and of its __init__ -/
structure SupC (prog : Program) (K : PySem.W.Frag) (C cda cc : Addr) (scope : Scope) (params : Arguments) (x : Str) : Prop where
  T : OexC K C
  kind : scope.kind = .function
  co : scope.isCoroutine = false
  gen : scope.isGenerator = false
  nocell : ∀ y ∈ scope.names, y.2 ≠ .cell
  lself : scope.names.lookup ("self" : Str) = some .local
  lx : scope.names.lookup x = some .local
  lsup : scope.names.lookup ("super" : Str) = some .globalImplicit
  lcls : scope.names.lookup ("__class__" : Str) = some .free
  ar : ∃ ar : Arg, (params.posonlyargs ++ params.args).head? = some ar ∧ ar.arg = "self"
  code : ∃ ccl cdd vs ccs file tf, K.lookup cda = some ⟨ccl, cdd, .fields vs, ccs⟩ ∧ vs[2]? = some (.str file tf) ∧ ((prog.main.file : Str) == file) = true
  top : (prog.main.scope.names.lookup ("super" : Str)).isSome = false
  cell : ∃ cl cld csl, K.lookup cc = some ⟨cl, cld, .cell (some (.ref C)), csl⟩
  sub : PySem.W.mroIn K C (.ref C) = some true
  opq : PySem.W.nsIn K cStatics "thirdparty.any" = some none
  sin : PySem.W.ks_superIn K C C "__init__" = some (some (.builtin "ValueError.__init__"))
  isB : PySem.W.subIn K (.ref C) (.type "ValueError") = some true
  no : PySem.W.findIn K (.ref C) x = some none
  nx : (x == ("self" : Str)) = false
  nd : (x == ("__debug__" : Str)) = false
theorem boot_super : bootBuiltins "super" = some (.type "super") := by kernel_rfl
section
open PySem.W
variable {prog : Program} {w : World} {M : Model} {A : Around} {E : Value → Shared → Prop} {s : Shared}
theorem callWith_mw {pos : Pos} {u a : Addr} {i : String} {env : Env} {e : Expr} {Q : Value → Shared → Prop}
    (h : wpAny M A (spliced (backTo pos (starEach [e] env))) (fun vs s₁ => KxsAt i u a s₁.heap ∧ wpAny M A (call (.ref u) vs) Q E s₁) E s)
    (he : starEach [e] env = (false, eval e env) :: starEach [] env := by rfl) (hplain : (backTo pos (starEach [] env)).any (·.1) = false := by rfl) :
    wpAny M A (callWith pos (.ref u) [] (backTo pos (starEach [e] env)) []) Q E s := by
  rw [he] at h ⊢
  refine kxs_callWith (i := i) (x := a) (by show (false || (backTo pos (starEach [] env)).any (·.1)) = false; rw [hplain]; rfl) ?_
  exact PySem.Calls.evalArgs_plain h
theorem call_mw {h : Heap} {g : Array GenState} {d : Drawn} {t : Nat} {os : OsState} {nm q : Str} {C N u a t0 : Addr} {bs bm : List Value} {hdct : Bool} {sn : List Str} {sub : List Value} {ab : Bool} {col : Option Bool} {dd : Option Addr} {k0 k1 k2 k3 k5 : Option Value} {newId : String} {bmB rest : List Value} {Q : Value → Shared → Prop}
    (FB : ExcBaseFacts "ValueError" newId "ValueError.__init__" bmB) (hC : h.get? C = some (excClassObj nm q C N bs bm hdct sn sub ab col dd k0 k1 k2 k3 k5 newId)) (he : h.get? a = some (excRec (.ref C) t0 none .none .none (.bool false))) (hu : h.get? u = some (kxs_mw "ValueError.__init__" a)) (hz : rest.length ≤ sizeLine)
    (hq : ∀ h', (∀ b o, b ≠ a → h.get? b = some o → h'.get? b = some o) → h'.get? a = some (excRec (.ref C) h.objs.size none .none .none (.bool false)) → Q .none ⟨h', g, d, t, os⟩) : wpAny (model prog w) A (call (.ref u) rest) Q E ⟨h, g, d, t, os⟩ := by
  refine wpAny_call (codeAny_of_tree ?_)
  show wpAny _ A.in1 (callAny (.ref u) ⟨rest, []⟩) _ _ _
  simp only [callAny]
  refine wpAny_bind (wpAny_load hu ?_)
  simp only [kxs_mw, show (Value.type "method-wrapper" == Value.type "method" || Value.type "method-wrapper" == Value.type "builtin_function_or_method" || Value.type "method-wrapper" == Value.type "method-wrapper") = true by decide, if_true]
  refine KFB.if_so (by decide) ?_
  refine wpAny_bind (check_bound_init FB.toExcCallFacts hC he rfl ?_)
  refine wpAny_bind (wpAny_pure (wpAny_pure ?_))
  refine ⟨plainId_quiet FB.init.plain _, codeAny_builtin FB.initEntry ?_⟩
  exact exc_init_tree (cls := .ref C) (t0 := t0) (dv := none) (c2 := .none) (c3 := .none) (b4 := .bool false) he hz fun h' k e' _ => hq h' k e'
end
section
open PySem.W
variable {P : Program} {w : World} {K : PySem.W.Frag} {mg : Str → Option Value} {base : Heap} {CX : CXT} {k : Nat} {fI C cda cc : Addr} {name qual x : Str} {params : Arguments} {scope : Scope} {dV kV doc pm ct oc : Value} {an od : Option Addr} {osl : Array (Option Value)} {p0 p1 p2 p3 p4 p5 p6 p7 p8 p9 : Pos}
theorem fn_sup {body : List Stmt} {pl : Sem Bool} (lk : K.lookup fI = some ⟨oc, od, .func (ksFn name qual params body scope dV kV doc pm an (.ref cda) ct cc), osl⟩) (hcd : codeIn K (.ref cda) qual = true) (hb : body = supBody x p0 p1 p2 p3 p4 p5 p6 p7 p8 p9) (U : SupC P K C cda cc scope params x) (hsup : mg "super" = none)
    (hz : ∀ L, swapsWith (.Call (.Attribute (.Call (.Name "super" p0) [] [] p1) "__init__" p2) [.Name x p3] [] p4) none p5.line (ksEnv qual scope L fI (.ref cda) cc) = pure false)
    (hev : ∀ L, eval (.Call (.Attribute (.Call (.Name "super" p0) [] [] p1) "__init__" p2) [.Name x p3] [] p4) (ksEnv qual scope L fI (.ref cda) cc) = (do
      let ov ← attributeBase (.Call (.Name "super" p0) [] [] p1) "__init__" (ksEnv qual scope L fI (.ref cda) cc) (eval (.Call (.Name "super" p0) [] [] p1) (ksEnv qual scope L fI (.ref cda) cc))
      standAt p2.atName
      let (f, first) ← holding [ov] (getMethod ov "__init__" pl)
      callWith p4 f first (backTo p4 (starEach [.Name x p3] (ksEnv qual scope L fI (.ref cda) cc))) []))
    (hz2 : ∀ L, swapsWith (.Name x p8) (some (.Attribute (.Name "self" p6) x p7)) p9.line (ksEnv qual scope L fI (.ref cda) cc) = pure false) :
    FnOk P w K mg base CX (k + 1) fI (ksFn name qual params body scope dV kV doc pm an (.ref cda) ct cc) ["self", x] (spX1 C x) := by
  subst hb
  refine ⟨spX1_len, fun A outer s H args us vs Q E hr e0 hb r hsp => ?_⟩
  obtain ⟨a, y, rfl, ea, hq⟩ := hsp
  cases r with
  | @cons _ u0 _ ur r0 r1 =>
  cases r1 with
  | @cons _ uy _ ur r1 r2 =>
  cases r2
  obtain rfl : u0 = Value.ref a := r0
  have kb0 : ∀ b o, base.get? b = some o → s.heap.get? b = some o := fun b o e => (e0.bs b o e).1
  have KX : K.In s.heap := e0.mod.kin.keeps kb0
  have lim : s.heap.NoLimit := e0.mod.nolimit.keeps kb0
  obtain ⟨ar, har, ear⟩ := U.ar
  obtain ⟨ccl, cdd, fvs, ccs, file, tf, hcode, hvs, hfile⟩ := U.code
  obtain ⟨ccc, cld, csl, hcell⟩ := U.cell
  obtain ⟨nm, qn, N, bs, bm, sn, sub, ab, col, dd, k0, k1, k2, k3, k5, hC, hbm⟩ := U.T.cls
  have hcl : clsIn K C = some { name := nm, bases := bs, mro := .ref C :: bm, ns := N, qualname := qn, hasDict := true, slotNames := sn, subclasses := sub, abstract := ab, collection := col, hasDel := false } := by unfold clsIn; rw [hC] <;> rfl
  obtain ⟨t1, ho⟩ := exo_at e0.hok ea
  have aC : a ≠ C := ks_ne KX (ox := _) (odx := none) ⟨ho, rfl, rfl, trivial⟩ hcl
  refine ks_codeAny_call_defAt (fd := ksFn name qual params _ scope dV kV doc pm an (.ref cda) ct cc) (binds := [("self", .ref a), (x, uy)]) hr.depth (KX _ _ lk) rfl lim (codeRec_of KX hcd) rfl hb U.nocell (fun z hz => ?_) (fun h₁ hns k1 => ?_) U.co U.gen U.kind
  · rcases List.mem_cons.mp hz with rfl | hz
    · exact U.lself
    · rcases List.mem_cons.mp hz with rfl | hz
      · exact U.lx
      · cases hz
  obtain ⟨hp, g, dr, tk, os⟩ := s
  have nx : ¬ x = "self" := fun z => by have := U.nx; rw [z] at this; simp at this
  have nx2 : (("self" : Str) == x) = false := by
    rw [Bool.eq_false_iff]
    intro z
    exact nx (eq_of_beq z).symm
  have ms : (fun y : Str => ([("self", Value.ref a), (x, uy)] : List (Str × Value)).reverse.lookup y) ("self" : Str) = some (.ref a) := by
    show ([(x, uy), (("self" : Str), Value.ref a)] : List (Str × Value)).lookup ("self" : Str) = _
    rw [List.lookup_cons, nx2, List.lookup_cons, beq_self_eq_true]
  have mx : (fun y : Str => ([("self", Value.ref a), (x, uy)] : List (Str × Value)).reverse.lookup y) x = some uy := by
    show ([(x, uy), (("self" : Str), Value.ref a)] : List (Str × Value)).lookup x = _
    rw [List.lookup_cons, beq_self_eq_true]
  have KX1 : K.In h₁ := KX.keeps k1
  have kb1 : ∀ b o, base.get? b = some o → h₁.get? b = some o := fun b o e => k1 b o (kb0 b o e)
  obtain ⟨mb, hb1, hb2⟩ := e0.mod.blt
  change _root_.PySem.wpAt (model P w) (A.deeper (ksEnv qual scope hp.objs.size fI (.ref cda) cc)) (.func (supBody x p0 p1 p2 p3 p4 p5 p6 p7 p8 p9) (ksEnv qual scope hp.objs.size fI (.ref cda) cc)) (execs (supBody x p0 p1 p2 p3 p4 p5 p6 p7 p8 p9) (ksEnv qual scope hp.objs.size fI (.ref cda) cc)) _ _ _
  have hint : interactive (ksEnv qual scope hp.objs.size fI (.ref cda) cc) = false := by
    unfold interactive
    simp [U.kind]
  refine ks_wpAt_execs_cons (ks_wpAt_Expr_any (ks_wpAt_MethodCall (ks_wpAt_super_base U.lsup U.lcls (by decide +kernel) rfl (k1 _ _ (KX _ _ lk)) rfl har rfl (k1 _ _ (KX _ _ hcode)) rfl hvs hfile U.top ?_) (hev _)) hint (hz _))
  refine ks_loadName_global U.kind U.lsup (Calls.loadGlobal_builtin (e0.mod.glob.keeps kb1) hsup (hb1.keeps kb1) ((hb2 "super" (by decide +kernel)).trans boot_super) ⟨rfl, ?_⟩)
  refine wpAny_loadName_free U.kind U.lcls rfl ⟨_, k1 _ _ (KX _ _ hcell), rfl⟩ ?_
  rw [ear]
  refine wpAny_loadName_local U.kind U.lself hns ms ?_
  refine ks_wpAny_isType_cls (k1 _ _ (KX _ _ hC)) rfl ⟨rfl, ?_⟩
  refine ks_wpAny_call_super (k1 _ _ (KX _ _ hC)) rfl (k1 _ _ ho) rfl (fun c z => nomatch z) (looks_mroIn KX1 U.sub) (fun h2 e2 k2 => ?_)
  have KX2 : K.In h2 := KX1.keeps k2
  have I2 : InstAt h2 a _ C none := ⟨k2 _ _ (k1 _ _ ho), rfl, rfl, trivial⟩
  have hI : Looks (model P w) h2 (isInstance (.ref a) (.type "ValueError")) true := I2.type.andThen (looks_subIn KX2 U.isB)
  have hm := U.sin
  unfold ks_superIn at hm
  rw [hcl] at hm
  refine kxs_getMethod kxs_ValueError e2 (looks_opaque KX2 U.opq) (l₀ := Value.ref C :: bm) (fun A Q E s k q => wpAny_bind ((looks_clsIn KX2 hcl) A _ E s k (wpAny_pure q))) rfl KX2 hm hI aC (by decide +kernel) ?_
  have k3 : ∀ b o, h2.get? b = some o → (h2.push (kxs_mw "ValueError.__init__" a)).get? b = some o := fun b o e => Heap.get?_push_of_some _ e
  have hns3 := (hns.keeps k2).keeps k3
  refine callWith_mw (i := "ValueError.__init__") (a := a) (PyProof.Rows.args_cons (wpAny_Name (wpAny_loadName_local U.kind U.lx hns3 mx ?_) U.nd) rfl) rfl
  refine Calls.spliced_nil ⟨Heap.get?_push_at rfl rfl, ?_⟩
  refine call_mw PySem.F.excBase_ValueError (k3 _ _ (k2 _ _ (k1 _ _ (KX _ _ hC)))) (k3 _ _ (k2 _ _ (k1 _ _ ho))) (Heap.get?_push_at rfl rfl) (by show (1 : Nat) ≤ sizeLine; decide +kernel) fun h4 k4 e4 => ?_
  have nLa : hp.objs.size ≠ a := Nat.ne_of_gt (Heap.lt_size ho)
  have kk : ∀ b o, b ≠ a → hp.get? b = some o → h4.get? b = some o := fun b o n e => k4 b o n (k3 _ _ (k2 _ _ (k1 _ _ e)))
  have hns4 : h4.Ns hp.objs.size (fun y : Str => ([("self", Value.ref a), (x, uy)] : List (Str × Value)).reverse.lookup y) := by
    obtain ⟨oL, es, ep, hL, rL⟩ := hns3
    exact ⟨oL, es, ep, k4 _ _ nLa hL, rL⟩
  have nba : ∀ b o, base.get? b = some o → b ≠ a := fun b o e z => by
    have := (e0.bs b o e).2
    rw [z, ea] at this
    cases this
  have KX4 : K.In h4 := e0.mod.kin.keeps fun b o e => kk b o (nba b o e) (kb0 b o e)
  refine wpAt_of_wpAny (wpAny_execs_cons (plainObj_wpAny_Assign_Attribute (wpAny_Name (wpAny_loadName_local U.kind U.lx hns4 mx (wpAny_Name (wpAny_loadName_local U.kind U.lself hns4 ms ?_)))  U.nd) (hz2 _)))
  refine set_plain KX4 (ox := excRec (.ref C) _ none .none .none (.bool false)) (od := none) ⟨e4, rfl, rfl, trivial⟩ U.T.sa ?_
  refine PySem.HandSPX.exc_osa KX4 e4 hcl (show PySem.HandSPX.refsVE (.ref C :: bm) = true from hbm) rfl U.no (fun h' tk' dx k dn dne hx hn => ?_)
  refine wpAny_execs_nil ?_
  have kf : ∀ b o, b ≠ a → hp.get? b = some o → h'.get? b = some o := fun b o n e => k b o n (kk b o n e)
  have lt4 : ∀ {b : Addr} {o : Obj}, hp.get? b = some o → ∃ o', h4.get? b = some o' := fun {b o} q => by
    by_cases z : b = a
    · exact ⟨_, by rw [z]; exact e4⟩
    · exact ⟨o, kk b o z q⟩
  have nd : ∀ {b : Addr} {o : Obj}, hp.get? b = some o → b ≠ dx := fun {b o} q => by
    obtain ⟨o', q'⟩ := lt4 q
    exact Nat.ne_of_lt (Nat.lt_of_lt_of_le (Heap.lt_size q') dn)
  have hnd : H dx = none := by
    cases z : hp.get? dx with
    | none => exact e0.hok.gone z
    | some u => exact absurd rfl (nd z)
  have na : ∀ {b : Addr}, H b = none → b ≠ a := fun {b} n z => by
    rw [z, ea] at n
    cases n
  have Un1 : Un (frs outer) [] H (upd (upd H dx (exd dx [(x, y)])) a (exo a C (some dx))) hp h' := {
    keep := fun b o q n _ _ => kf b o (na n) q
    slot := fun b o q n _ _ => ⟨o.slots, kf b o (na n) q⟩
    free := fun b o q n _ => by rw [upd_ne (na n), upd_ne (nd q)]; exact n
    there := fun b o q _ => by
      by_cases hb : b = a
      · exact ⟨_, by rw [hb]; exact hx⟩
      · exact ⟨o, kf b o hb q⟩
    tups := fun b xs q => by rw [upd_ne (at_ne ea q exo_tup), upd_ne (ne_of_none q hnd)]; exact q
    frzs := fun b o v q => by rw [upd_ne (at_ne ea q exo_frz), upd_ne (ne_of_none q hnd)]; exact q
    tbls := fun b ps q => ⟨#[], by rw [upd_ne (at_ne ea q exo_tbl), upd_ne (ne_of_none q hnd), q]; simp⟩ }
  refine ⟨.non, _, rfl, e0.bare, Un1, fun b o q => ?_, rfl, hq dx hnd dne⟩
  by_cases hb : b = a
  · subst hb
    rw [upd_same] at q
    cases q
    exact exo_ok hx
  · rw [upd_ne hb] at q
    by_cases hd : b = dx
    · subst hd
      rw [upd_same] at q
      cases q
      exact exd_ok hn (relO_put (fs := []) r1 fun g => True.intro)
    · rw [upd_ne hd] at q
      exact (e0.hok b o q).stay (fun c v hc z => kf c v (by
          rcases hc with hc | hc
          · rw [hc]
            exact hb
          · exact at_ne ea hc exo_own) z)
        (fun c hc => by rw [upd_ne (at_ne ea hc exo_own), upd_ne (ne_of_none hc hnd)]; exact hc) (fun c xs hc => by rw [upd_ne (at_ne ea hc exo_tup), upd_ne (ne_of_none hc hnd)]; exact hc)
end
/-! ### C(e) that is raised -/
def tMkX (C : Addr) (f : Str) (ta : TA) : L2.St → Hp → XK → Prop := fun σ H Q => ta σ H fun vs H1 => ∃ y, vs = [y] ∧ ∀ d, H1 d = none → Q (.ref C) (some d) (upd H1 d (.xd [(f, y)]))
theorem heap_x {H1 : Hp} {a d : Addr} {o1 o2 o3 o4 : HO} (na : H1 a = none) (nd : d ≠ a) : upd (del (upd (upd (upd H1 a o1) d o2) a o3) a) d o4 = upd H1 d o4 := by
  funext b
  by_cases h1 : b = d
  · rw [h1, upd_same, upd_same]
  · rw [upd_ne h1, upd_ne h1]
    by_cases h2 : b = a
    · rw [h2, del_same, na]
    · rw [del_ne h2, upd_ne h2, upd_ne h1, upd_ne h2]
section
variable {X : Cx} {e : Expr} {ta : TA} {f nm : Str} {C fI : Addr} {k : Nat} {fd : FuncData} {p pos : Pos}
theorem pmk_sup (T : OexC X.K C) (iC : PySem.W.findIn X.K (.ref C) "__init__" = some (some (.ref fI))) (tI : PySem.W.typeIn X.K (.ref fI) = some (.type "function")) (G : FnOk X.prog X.w X.K X.mg X.base (L2N.CX X.prog X.w) k fI fd ["self", f] (spX1 C f)) (hr : Room (k + 1) X.A) (hb : L2.Binds X.K fd ["self", f] [])
    (hg : Gl X nm) (hm : X.mg nm = some (.ref C)) (ha : PA X [e] ta) (hdb : (nm == ("__debug__" : Str)) = false := by decide) (he : starEach [e] X.env = (false, eval e X.env) :: starEach [] X.env := by rfl) (hpl : (backTo pos (starEach [] X.env)).any (·.1) = false := by rfl) :
    L2N.PMk X (.Call (.Name nm p) [e] [] pos) (tMkX C f ta) := by
  intro pins s0 σ H0 Q J0 hw
  obtain ⟨n1, n2, n3, n4, n5, n6, n7, n8, n9, n10, n11, n12, n13, n14, n15, lC, rv⟩ := T.cls
  refine wpAny_Call_Name_kw (ld_glob J0 hg hm ?_ hdb)
  refine PySem.W.callWith_K (h₀ := X.base) J0.ok.mod.kin T.kC (thn (ha.run pos pins s0 σ H0 _ J0 hw) fun us s1 ⟨vs, H1, J1, rs, y, ev, qy⟩ => ⟨J1.kIn, ?_⟩) he hpl
  subst ev
  show wpAny _ _ (call (.ref C) us) _ _ _
  obtain ⟨hp, g1, d1, t1, os1⟩ := s1
  let a : Addr := hp.objs.size + 1
  have la : hp.objs.size ≤ a := Nat.le_succ _
  have na : H1 a = none := J1.hok.fresh la
  let hp2 : Heap := (hp.push (PySem.W.kdv_tup us)).push (PySem.HandSPX.excO C hp.objs.size)
  have up2 : ∀ b o, hp.get? b = some o → hp2.get? b = some o := fun b o z => Heap.get?_push_of_some _ (Heap.get?_push_of_some _ z)
  have ga : hp2.get? a = some (PySem.HandSPX.excO C hp.objs.size) := by
    show ((hp.push (PySem.W.kdv_tup us)).push (PySem.HandSPX.excO C hp.objs.size)).get? (hp.objs.size + 1) = _
    heap_get
  have J2 : Inv X pins σ (upd H1 a (exo a C none)) ⟨hp2, g1, d1, t1, os1⟩ := J1.laid (t' := t1) (a := a) (o := exo a C none) (h' := hp2) up2 la (exo_ok ga)
  have rs2 : Vals [V.ref a, y] (Value.ref a :: us) := .cons rfl rs
  have hl : (Value.ref a :: us).length = 2 := rs2.length.symm
  have hus : us.length ≤ sizeLine := by
    have : us.length = 1 := by simpa using hl
    rw [this]
    decide +kernel
  have sp : spX1 C f [V.ref a, y] (upd H1 a (exo a C none)) (fun v H2 => v = .non ∧ ∃ d, H1 d = none ∧ d ≠ a ∧ H2 = upd (upd (upd H1 a (exo a C none)) d (exd d [(f, y)])) a (exo a C (some d))) (fun _ _ _ => False) :=
    ⟨a, y, rfl, upd_same, fun d hd hn => ⟨rfl, d, by rw [upd_ne hn] at hd; exact hd, hn, rfl⟩⟩
  have noX : Passes (L2N.CX X.prog X.w) X (fun _ _ _ => False) := fun _ _ _ _ _ _ _ ⟨_, _, _, _, _, _, _, _, _, _, _, _, z⟩ => z.elim
  refine wpAny_call (PySem.HandSPX.call_own F.excBase_ValueError (fun Y => PySem.HandSPX.refsVE_contains Y n5 rv) (J1.kIn _ _ lC) (PySem.W.looks_findIn J1.kIn iC) (fun self => PySem.W.bind_fn J1.kIn self tI) hus
    (codeAny_mono (G.run _ X.stack _ _ ⟨Value.ref a :: us, []⟩ (Value.ref a :: us) _ _ (fun _ _ _ => False) (hr.make C us []) (J2.env0.make C us []) (by have := hb _ (Value.ref a :: us) J2.kIn (by rw [List.append_nil]; exact hl); rw [List.append_nil] at this; exact this) rs2 sp) fun res s2 hq => ?_))
  cases res with
  | error er => exact noX pins σ _ _ er s2 J2 hq
  | ok fl =>
    cases fl with
    | ret u =>
      obtain ⟨v, H2, os2, bare2, un2, hok2, ru, ev, d, hd1, hda, eH⟩ := hq
      subst ev
      obtain ⟨h2, g2, d2, t2, os'⟩ := s2
      have ea : H2 a = some (exo a C (some d)) := by rw [eH, upd_same]
      have ed : H2 d = some (exd d [(f, y)]) := by rw [eH, upd_ne hda, upd_same]
      obtain ⟨t0, G', J3, kG, ge, hoe, nx⟩ := mk_end0 (d2 := d2) (t2 := t2) J1 la up2 un2 hok2 os2 bare2 ea ed hd1
      have eh : upd (del H2 a) d (.xd [(f, y)]) = upd H1 d (.xd [(f, y)]) := by rw [eH]; exact heap_x na hda
      rw [eh] at J3 nx
      exact ⟨ru, a, _, _, ⟨G', g2, d2, t2, os'⟩, _, .ref C, some d, rfl, J3, kG, ge, hoe, ⟨rfl, rfl, fun vs z => by cases z; rfl⟩, rfl, rfl, nx, rfl, bare2, raises_own T.exC T.tyC, qy d hd1⟩
    | next => exact hq.elim
    | brk => exact hq.elim
    | cont => exact hq.elim
end
end Pv
set_option maxRecDepth 100000
set_option maxHeartbeats 4000000
/-! Px9: raise C(e); what an instance's making lets out. -/
namespace Pv
open PySem PySem.Spec L2
open PyProof.Rows hiding St

/-- an exception class with a field, as who raises it needs it -/
structure XFld (P : Program) (w : World) (K : PySem.W.Frag) (mg : Str → Option Value) (base : Heap) (nm : Str) (C : Addr) (f : Str) (k : Nat) (fI : Addr) (fd : FuncData) : Prop where
  T : OexC K C
  iC : PySem.W.findIn K (.ref C) "__init__" = some (some (.ref fI))
  tI : PySem.W.typeIn K (.ref fI) = some (.type "function")
  ok : FnOk P w K mg base (L2N.CX P w) k fI fd ["self", f] (spX1 C f)
  bi : L2.Binds K fd ["self", f] []
  mg : mg nm = some (.ref C)
def gRaiseX (C : Addr) (f : Str) (fa : AF) : SF := fun ρ => match fa ρ with
  | .ok [d] ρ1 => .ex ⟨C, some [(f, d)]⟩ ρ1
  | .ex x ρ1 => .ex x ρ1
  | _ => .bad
section
variable {X : Cx} {W : Wx} {e : Expr} {t : TA} {fa : AF} {f nm : Str} {C fI : Addr} {k : Nat} {fd : FuncData} {p pos pos' : Pos}
theorem ss_raiseX (hc : X.calm = true) (tk : L2N.Takes X W.w) (M : XFld X.prog X.w X.K X.mg X.base nm C f k fI fd) (hr : Room (k + 1) X.A) (hg : Gl X nm) (ha : SA X W [e] t fa) (hdb : (nm == ("__debug__" : Str)) = false := by decide) (he : starEach [e] X.env = (false, eval e X.env) :: starEach [] X.env := by rfl) (hpl : (backTo pos (starEach [] X.env)).any (·.1) = false := by rfl) :
    SS X W (.Raise (some (.Call (.Name nm p) [e] [] pos)) none pos') (fun _ σ H => tMkX C f t σ H fun cls d H' => W.w cls d σ H') (gRaiseX C f fa) := by
  refine ⟨L2N.ps_raise hc tk (pmk_sup M.T M.iC M.tI M.ok hr M.bi hg M.mg ha.pa hdb he hpl), fun F S H σ ρ D hK fok er hp => ?_⟩
  unfold tMkX
  refine ha.sn F S H σ ρ _ hK fok er ?_
  unfold gRaiseX at hp
  cases qa : fa ρ with
  | bad => rw [qa] at hp; exact hp
  | ex x ρ1 =>
    rw [qa] at hp
    exact fun cls dx S1 H1 t1 er1 xr => hp cls dx σ S1 H1 (t1.s er) er1 xr
  | ok ds ρ1 =>
    rw [qa] at hp
    intro us S1 H1 t1 er1 ru
    match ds, hp, ru with
    | [], hp, _ => exact hp.elim
    | _ :: _ :: _, hp, _ => exact hp.elim
    | [d], hp, ru =>
      cases ru with
      | cons r1 r2 =>
        cases r2
        rename_i v
        refine ⟨v, rfl, fun dx hd => ?_⟩
        have same : ∀ b o, H1 b = some o → upd H1 dx (.xd [(f, v)]) b = some o := fun b o eb => by rw [upd_ne (ne_of_none eb hd)]; exact eb
        obtain ⟨t2, er2, _, _⟩ := (show Grow F.K S1 H1 S1 (upd H1 dx (.xd [(f, v)])) .non (.val .none) from ⟨same, rfl, .non⟩).step er1 fok
        exact hp (.ref C) (some dx) σ S1 _ ((t1.s er).trans (t2.s er1)) er2 ⟨rfl, dx, [(f, v)], rfl, upd_same, rfl, .cons (r1.mono (fun b o _ eb _ => same b o eb) fun _ z => .inl z) .nil⟩
end
end Pv
set_option maxRecDepth 100000
set_option maxHeartbeats 4000000
/-! PxA: C(e) as a statement whose making raises; two names set, the first to an instance. -/
namespace Pv
open PySem PySem.Spec L2
open PyProof.Rows hiding St

/-- C(e), the wish by the names' values -/
def tMakeS (C : Addr) (sp : Sp) (E : L2.St → XK) (t : TA) : TE := fun σ H Q => t σ H fun vs H1 => ∀ x dx, H1 x = none → H1 dx = none → dx ≠ x → sp (.ref x :: vs) (upd (upd H1 dx (.own x)) x (.ins C dx [])) (fun v H2 => v = .non ∧ Q (.ref x) H2) (E σ)
section
variable {X : Cx} {CX : CXT} {k : Nat} {f C : Addr} {fd : FuncData} {ps : List Str} {sp : Sp} {E : L2.St → XK} {nm : Str} {p pos : Pos} {e : Expr} {es : List Expr} {t : TA}
theorem pe_makeS (M : L2.Mk X.K C f) (G : FnOk X.prog X.w X.K X.mg X.base CX k f fd ps sp) (hr : Room (k + 1) X.A) (hg : Gl X nm) (hm : X.mg nm = some (.ref C)) (hb : L2.Binds X.K fd ps []) (hx : ∀ σ, PassesAt CX X σ (E σ))
    (ha : PA X (e :: es) t) (hdb : (nm == ("__debug__" : Str)) = false := by decide) (he : starEach (e :: es) X.env = (false, eval e X.env) :: starEach es X.env := by rfl) (hpl : (backTo pos (starEach es X.env)).any (·.1) = false := by rfl) :
    PE X (.Call (.Name nm p) (e :: es) [] pos) (tMakeS C sp E t) := by
  refine ⟨fun pins s0 σ H0 Q J0 hw => ?_⟩
  refine wpAny_Call_Name_kw (ld_glob J0 hg hm ?_ hdb)
  refine PySem.W.callWith_K (h₀ := X.base) J0.ok.mod.kin M.kp (thn (ha.run pos pins s0 σ H0 _ J0 hw) fun us s1 ⟨vs, H1, J1, rv, qm⟩ => ⟨J1.kIn, ?_⟩) he hpl
  let x : Addr := s1.heap.objs.size + 1
  have qx := qm x s1.heap.objs.size (J1.hok.fresh (Nat.le_succ _)) (J1.hok.fresh (Nat.le_refl _)) (Nat.ne_of_lt (Nat.lt_succ_self _))
  have J2 := Inv.made (C := C) J1
  have rv2 : Vals (V.ref x :: vs) (Value.ref x :: us) := .cons rfl rv
  have len2 : (Value.ref x :: us).length = ps.length := by rw [← G.len _ _ _ _ qx]; exact rv2.length.symm
  have bd := hb _ (Value.ref x :: us) J2.kIn (by rw [List.append_nil]; exact len2)
  rw [List.append_nil] at bd
  refine wpAny_call (make_map (f := f) J1.kIn M.makes M.init (beq_iff_eq.mp M.fn) (codeAny_mono (G.run _ X.stack _ _ ⟨Value.ref x :: us, []⟩ (Value.ref x :: us) _ _ (E σ) (hr.make C us []) (J2.env0.make C us []) bd rv2 qx) fun res s2 hq => ?_))
  cases res with
  | error er => exact hx σ pins _ _ er s2 J2 hq
  | ok fl =>
    cases fl with
    | ret u =>
      obtain ⟨v, H2, J3, ru, ev, q3⟩ := J2.after hq
      subst ev
      exact ⟨ru, ⟨V.ref x, H2, J3, rfl, q3⟩⟩
    | next => exact hq.elim
    | brk => exact hq.elim
    | cont => exact hq.elim
end
def gMakeX (Fnt : FN) (fa : AF) : SF := fun ρ => match fa ρ with
  | .ok [T] ρ1 => (match Fnt [.val T] with
    | .ex x none => .ex x ρ1
    | _ => .bad)
  | .ex x ρ1 => .ex x ρ1
  | _ => .bad
section
variable {X : Cx} {W : Wx} {e : Expr} {t : TA} {fa : AF} {k : Nat} {c f : Addr} {fd : FuncData} {Fnt : FN} {y : Str} {p pos cpos : Pos}
/-- C(e), a statement: its making raises -/
theorem ss_makeX (K : PySem.W.Frag) (hK0 : X.K = K) (M : L2.Mk K c f) (G : FnOk X.prog X.w K X.mg X.base (L2N.CX X.prog X.w) k f fd ["self", "town"] (spI K W.T c Fnt)) (hr : Room (k + 1) X.A) (hb : L2.Binds K fd ["self", "town"] []) (tk : L2N.Takes X W.w) (hg : Gl X y) (hm : X.mg y = some (.ref c)) (ha : SA X W [e] t fa)
    (hdb : (y == ("__debug__" : Str)) = false := by decide) (he : starEach [e] X.env = (false, eval e X.env) :: starEach [] X.env := by rfl) (hpl : (backTo cpos (starEach [] X.env)).any (·.1) = false := by rfl) (hs : swapsWith (.Call (.Name y p) [e] [] cpos) none pos.line X.env = pure false := by rfl) :
    SS X W (.Expr (.Call (.Name y p) [e] [] cpos) pos) (tDrop (tMakeS c (spI K W.T c Fnt) (WE W.w) t)) (gMakeX Fnt fa) := by
  subst hK0
  refine ⟨ps_expr (pe_makeS M G hr hg hm hb (L2N.passAt tk) ha.pa hdb he hpl) hs, fun F S H σ ρ D hK fok er hp => ?_⟩
  unfold tDrop tMakeS
  refine ha.sn F S H σ ρ _ hK fok er ?_
  unfold gMakeX at hp
  cases qa : fa ρ with
  | bad => rw [qa] at hp; exact hp
  | ex x ρ1 =>
    rw [qa] at hp
    exact fun cls dx S1 H1 t1 er1 xr => hp cls dx σ S1 H1 (t1.s er) er1 xr
  | ok ds ρ1 =>
    rw [qa] at hp
    intro us S1 H1 t1 er1 ru
    match ds, hp, ru with
    | [], hp, _ => exact hp.elim
    | _ :: _ :: _, hp, _ => exact hp.elim
    | [T], hp, ru =>
      cases ru with
      | cons h1 h2 =>
        cases h2
        rename_i vT
        intro x dx nx ndx nex
        have same : ∀ b o, H1 b = some o → upd (upd H1 dx (.own x)) x (.ins c dx []) b = some o := fun b o eb => by
          rw [upd_ne (ne_of_none eb nx), upd_ne (ne_of_none eb ndx)]
          exact eb
        have stay : ∀ a, H1 a ≠ none → upd (upd H1 dx (.own x)) x (.ins c dx []) a ≠ none := stay_same same
        refine ⟨S1, x, dx, vT, T, rfl, fun z => er1.dom x z nx, upd_same, ?_, fun a h => stay a (er1.dom a h), fun a h => tab_same same a (er1.tb a (fok.tab a h)), ?_⟩
        · rw [← hK]
          exact h1.mono (fun b o _ eb _ => same b o eb) fun _ z => .inl z
        · have hp : PostS F W S H (match Fnt [.val T] with
            | .ex x none => .ex x ρ1
            | _ => .bad) D := hp
          cases qf : Fnt [.val T] with
          | bad => rw [qf] at hp; exact hp.elim
          | ok r m => rw [qf] at hp; exact hp.elim
          | ex xe m =>
            rw [qf] at hp
            match m, hp with
            | some _, hp => exact hp.elim
            | none, hp =>
              intro cls d S' H' it xr
              have n1 : ∀ {b}, upd (upd H1 dx (.own x)) x (.ins c dx []) b = none → H1 b = none := fun {b} z => by
                cases q : H1 b with
                | none => rfl
                | some o => rw [same b o q] at z; cases z
              have same2 : ∀ b o, NT o → H1 b = some o → H' b = some o := fun b o nt eb => it.off b o nt (same b o eb) (ne_of_none eb nx)
              have new2 : ∀ a, S' a → S1 a ∨ H1 a = none := fun a h => (it.new a h).imp id n1
              have tbs : ∀ a, GxR.TabG H1 a → GxR.TabG H' a := fun a h => it.tb a (tab_same same a h)
              have st2 : ∀ a, H1 a ≠ none → H' a ≠ none := fun a h => it.stay a (stay a h)
              have er2 : ER F S' H' σ ρ1 := by
                refine ⟨er1.len, fun i s es => ?_, er1.dj, fun a h => it.old a (er1.sub a h), it.dom, fun b o nt eb n => same2 b o nt (er1.fr b o nt eb n), fun a h => tbs a (er1.tb a h), fun a h => st2 a (er1.st a h), er1.lt⟩
                have z := er1.at_ i s es
                have off : ∀ b o, NT o → H1 b = some o → ¬ S1 b → H' b = some o := fun b o nt eb _ => same2 b o nt eb
                cases s with
                | no => trivial
                | val d => obtain ⟨y, e1, h⟩ := z; exact ⟨y, e1, h.mono off new2⟩
                | own m => obtain ⟨a, e1, sa, f0, h⟩ := z; exact ⟨a, e1, it.old a sa, f0, h.mono off new2 fun o nt q => same2 a o nt q⟩
                | lent m => obtain ⟨a, e1, l, sa, h⟩ := z; exact ⟨a, e1, l, it.old a sa, h.mono off new2 fun o nt q => same2 a o nt q⟩
                | pin a m => obtain ⟨e1, sa, f0, h⟩ := z; exact ⟨e1, it.old a sa, f0, h.mono off new2 fun o nt q => same2 a o nt q⟩
                | ins g => exact ins_mono off new2 z
              have ts : TrS S1 H1 S' H' := ⟨fun b o nt eb _ => same2 b o nt eb, tbs, new2, st2⟩
              refine hp cls d σ S' H' ((t1.s er).trans ts) er2 ?_
              have xr : XR F S' H' xe cls d := by
                have := xr
                rw [← hK] at this
                exact this
              exact xr
end
/-! ### x, y = C(e), () -/
open Classical in
def mkPar (c : Addr) (Fnt : FN) (i l j : Nat) (fa : AF) (ρ : Rho) (o : SO) : Prop := match fa ρ with
  | .ok [T] ρ1 => if mkOk Fnt i j T ρ1 ∧ i ≠ l ∧ l < j ∧ notL ρ1 l = true then ∃ g : Ins, g.C = c ∧ g.T = T ∧ o = .nx (mkP (ρ1.set l (.val (.tuple []))) i j g) else o = .bad
  | _ => o = .bad
section
variable {X : Cx} {W : Wx} {e : Expr} {t : TA} {fa : AF} {k : Nat} {c f : Addr} {fd : FuncData} {Fnt : FN} {x z y x1 x2 : Str} {p pos cpos px pz pt p3 pt2 : Pos} {kt k2 k3 : Nat} {i l j : Nat}
theorem sd_mkPar (K : PySem.W.Frag) (hK0 : X.K = K) (M : L2.Mk K c f) (G : FnOk X.prog X.w K X.mg X.base (L2N.CX X.prog X.w) k f fd ["self", "town"] (spI K W.T c Fnt)) (hr : Room (k + 1) X.A) (hb : L2.Binds K fd ["self", "town"] []) (hg : Gl X y) (hm : X.mg y = some (.ref c)) (hc : X.calm = true) (ha : SA X W [e] t fa)
    (hN : X.N.Nodup) (hi : X.N[i]? = some x) (hl : X.N[l]? = some z) (hil : i ≠ l) (lx : X.env.scope.names.lookup x = some .local) (lz : X.env.scope.names.lookup z = some .local) (g1 : X.N[j]? = some x1) (g2 : X.N[j + 1]? = some x2) (n1 : ¬ Vis X.env.scope x1) (n2 : ¬ Vis X.env.scope x2)
    (hw : swappedStores [.Tuple [.Name x px, .Name z pz] kt pt] (.Tuple [.Call (.Name y p) [e] [] cpos, .Tuple [] k3 p3] k2 pt2) X.env = pure (some [x, z]))
    (hs : swapsWithSole [.Tuple [.Name x px, .Name z pz] kt pt] (.Tuple [.Call (.Name y p) [e] [] cpos, .Tuple [] k3 p3] k2 pt2) pos.line X.env = pure false := by rfl)
    (hdb : (y == ("__debug__" : Str)) = false := by decide) (he : starEach [e] X.env = (false, eval e X.env) :: starEach [] X.env := by rfl) (hpl : (backTo cpos (starEach [] X.env)).any (·.1) = false := by rfl)
    (hst : starEach [.Call (.Name y p) [e] [] cpos, .Tuple [] k3 p3] X.env = (false, eval (.Call (.Name y p) [e] [] cpos) X.env) :: starEach [.Tuple [] k3 p3] X.env := by rfl) (hst2 : starEach [.Tuple [] k3 p3] X.env = (false, eval (.Tuple [] k3 p3) X.env) :: starEach [] X.env := by rfl) :
    SDt X W (.Assign [.Tuple [.Name x px, .Name z pz] kt pt] (.Tuple [.Call (.Name y p) [e] [] cpos, .Tuple [] k3 p3] k2 pt2) pos) (tGhostR j (j + 1) (tPar i l (tCons (tMake c (spI K W.T c Fnt) [] (fun _ _ _ => False) t) (tCons (tTup tNil) tNil)))) (mkPar c Fnt i l j fa) := by
  subst hK0
  refine ⟨ps_ghostR (ps_par hc hN hi hl hil lx lz (pa_cons (pe_make M G hr hg hm hb .nil passNo ha.pa hdb he hpl) (pa_cons (pe_tup pa_nil) pa_nil hst2) hst) hw hs) g1 g2 n1 n2, fun F S H σ ρ D hK fok er hp => ?_⟩
  unfold mkPar at hp
  cases qa : fa ρ with
  | bad => rw [qa] at hp; exact (hp _ rfl).elim
  | ex x ρ1 => rw [qa] at hp; exact (hp _ rfl).elim
  | ok ds ρ1 =>
    rw [qa] at hp
    match ds, hp, qa with
    | [], hp, _ => exact (hp _ rfl).elim
    | _ :: _ :: _, hp, _ => exact (hp _ rfl).elim
    | [T], hp, qa =>
      by_cases hk : mkOk Fnt i j T ρ1 ∧ i ≠ l ∧ l < j ∧ notL ρ1 l = true
      · simp only [if_pos hk] at hp
        obtain ⟨⟨qf, hij, l0, l1, l2⟩, il, lj, ll⟩ := hk
        obtain ⟨s0, e0, h0⟩ := notL_some l0
        obtain ⟨s1, e1, h1⟩ := notL_some l1
        obtain ⟨s2, e2, h2⟩ := notL_some l2
        obtain ⟨s3, e3, h3⟩ := notL_some ll
        unfold tGhostR tPar tCons
        refine sn_make rfl ha F S H σ ρ ρ1 T _ _ hK fok er qa qf fun S1 H1 t1 er1 => ?_
        intro g S' H' eC eT t2 er2 wk f1 f2 m1 m2
        refine ⟨by show (0 : Nat) ≤ sizeLine; exact Nat.zero_le _, fun q hq => ?_⟩
        obtain ⟨t3, er3, rr3, _⟩ := (Grow.tup (K := F.K) (S := S') er2.dom hq .nil).step er2 fok
        have rr3 : Rp F.K S' (upd H' q (.tup [])) (.ref q) (.tuple []) := rr3
        have same : ∀ b o, H' b = some o → upd H' q (.tup []) b = some o := fun b o eb => by rw [upd_ne (ne_of_none eb hq)]; exact eb
        have wk3 : WkG F.K S' (upd H' q (.tup [])) g [] path0 := by
          obtain ⟨dx, hp⟩ := wk.hp
          exact ⟨wk.np, ⟨dx, same _ _ hp⟩, wk.rT.mono (fun b o _ eb _ => same b o eb) fun _ z => .inl z, wk.s1, wk.s2, wk.ne, wk.m1.mono (fun b o _ eb _ => same b o eb) (fun _ z => .inl z) fun o _ => same _ o, wk.m2.mono (fun b o _ eb _ => same b o eb) (fun _ z => .inl z) fun o _ => same _ o⟩
        refine ⟨.ref g.p, .ref q, rfl, some (.ref g.l1), some (.ref g.l2), ?_⟩
        have er4 := er3.put (i := l) (s := .val (.tuple [])) (v := .ref q) e3 h3 ⟨_, rfl, rr3⟩ (fun m z => nomatch z) (fun a _ ⟨m, z⟩ => by rcases z with z | ⟨b, z⟩ <;> cases z)
        have mu : ∀ kk a, MutAt (σ.set l (some (.ref q))) (ρ1.set l (.val (.tuple []))) kk a → MutAt σ ρ1 kk a := fun kk a ⟨⟨m, q1⟩, q2⟩ => by
          have hll : l < ρ1.length := (List.getElem?_eq_some_iff.mp e3).1
          by_cases w : kk = l
          · subst w
            rw [List.getElem?_set_self hll] at q1
            rcases q1 with q1 | q1 | ⟨_, q1⟩ <;> cases q1
          · rw [List.getElem?_set_ne (Ne.symm w)] at q1 q2
            exact ⟨⟨m, q1⟩, q2⟩
        have er5 := mk_slots (i := i) (j := j) er4 wk3 f1 f2 (fun kk z => m1 kk (mu kk _ z)) (fun kk z => m2 kk (mu kk _ z)) hij (by rw [List.getElem?_set_ne (Ne.symm il)]; exact e0) (by rw [List.getElem?_set_ne (by omega)]; exact e1) (by rw [List.getElem?_set_ne (by omega)]; exact e2) h0 h1 h2
        rw [List.set_comm _ _ (Ne.symm il)] at er5
        exact hp _ ⟨g, eC, eT, rfl⟩ _ S' _ ((t1.trans t2).trans (t3.s er2)) er5
      · simp only [if_neg hk] at hp
        exact (hp _ rfl).elim
end
end Pv
set_option maxRecDepth 100000
set_option maxHeartbeats 4000000
namespace Pw
open PySem PySem.Spec L2 Pv
/-! the text by places -/
def topS (i : Nat) : Stmt := PySem.Challenge.pw_roundstreets_k07_whole_walkers.main.body.getD i (.Pass ⟨0, 0, 0, 0⟩)
def c_NoStep : Addr := 70
def c_BadNumber : Addr := 58
def c_BadTown : Addr := 46
def c_Walker : Addr := 161
def lcScope : Expr → Scope
  | .ListComp _ _ sc _ => sc
  | _ => defScope (.Pass ⟨0, 0, 0, 0⟩)
def arg0 : Expr → Expr
  | .Call _ (a :: _) _ _ => a
  | e => e
def retE : Stmt → Expr
  | .Return (some e) _ => e
  | _ => .Name "" ⟨0, 0, 0, 0⟩
structure Bn (mg : Str → Option Value) : Prop where
  int : mg "int" = none
  len : mg "len" = none
  range : mg "range" = none
  min : mg "min" = none
  isinstance : mg "isinstance" = none
  tuple : mg "tuple" = none
  list : mg "list" = none
  str : mg "str" = none
  bool : mg "bool" = none
  set : mg "set" = none
/-! ### law_taken -/
theorem sc_law_taken : FnScope ["_law_row", "_law_many", "_law_found", "_law_cell"] ["_law_row", "_law_many"] (defScope (topS 15)) := ⟨rfl, rfl, rfl, by decide +kernel, rfl, by decide +kernel, by decide +kernel⟩
def g_law_taken : SF := (gSeq (gIf (fB (fOp gGt (fOp gIx (fVar 0) (fC (.int 3))) (fC (.int 0)))) (gSeq (gSet 2 (fOp gMod (fCB gInt1 (rCons (fOp gIx (fVar 0) (fC (.int 3))) rNil)) (fVar 1)))
    (gSeq (gSetIx (fVar 0) (fC (.int 3)) (fOp gFdiv (fOp gIx (fVar 0) (fC (.int 3))) (fVar 1)))
    (gRet (fVar 2)))) gSkip)
    (gSeq (gSetIx (fVar 0) (fC (.int 1)) (fOp gAdd (fOp gIx (fVar 0) (fC (.int 1))) (fC (.int 1))))
    (gSeq (gIf (fB (fOp gGt (fOp gIx (fVar 0) (fC (.int 1))) (fCB gLen (rCons (fOp gIx (fVar 0) (fC (.int 0))) rNil)))) (gSeq (gSetIx (fVar 0) (fC (.int 2)) (fOp gMod (fCB gInt1 (rCons (fOp gAdd (fOp gMul (fOp gIx (fVar 0) (fC (.int 2))) (fC (.int 48271))) (fC (.int 11))) rNil)) (fC (.int 2147483647))))
    (gRet (fOp gMod (fCB gInt1 (rCons (fOp gFdiv (fOp gIx (fVar 0) (fC (.int 2))) (fC (.int 7))) rNil)) (fVar 1)))) gSkip)
    (gSeq (gSet 3 (fOp gIx (fOp gIx (fVar 0) (fC (.int 0))) (fOp gSub (fOp gIx (fVar 0) (fC (.int 1))) (fC (.int 1)))))
    (gSeq (gSetIx (fVar 0) (fC (.int 2)) (fOp gMod (fCB gInt1 (rCons (fOp gAdd (fOp gAdd (fOp gMul (fOp gIx (fVar 0) (fC (.int 2))) (fC (.int 48271))) (fVar 3)) (fC (.int 11))) rNil)) (fC (.int 2147483647))))
    (gSeq (gIf (fB (fOp gGe (fVar 3) (fOp gPow (fC (.int 10)) (fC (.int 18))))) (gSetIx (fVar 0) (fC (.int 3)) (fOp gFdiv (fVar 3) (fVar 1))) gSkip)
    (gRet (fOp gMod (fCB gInt1 (rCons (fVar 3) rNil)) (fVar 1)))))))))
def F_law_taken : FN := fnF 4 g_law_taken
/-! ### law_crossings -/
theorem sc_law_crossings : FnScope ["_law_town_here", "_law_found", "_law_east", "_law_north"] ["_law_town_here"] (defScope (topS 19)) := ⟨rfl, rfl, rfl, by decide +kernel, rfl, by decide +kernel, by decide +kernel⟩
def g_law_crossings : SF := (gSeq (gSet 1 (fLst fNil))
    (gSeq (gFor (fIRng1 (rCons (fOp gIx (fVar 0) (fC (.int 0))) rNil)) (gtName 2) (gSet 1 (fOp gAdd (fVar 1) (fLc (fIRng1 (rCons (fOp gIx (fVar 0) (fC (.int 1))) rNil)) (gtName 3) fYes (fTup (fCons (fVar 2) (fCons (fVar 3) fNil))) [3]))))
    (gRet (fVar 1))))
def F_law_crossings : FN := fnF 4 g_law_crossings
/-! ### law_pick -/
theorem sc_law_pick : FnScope ["_law_row", "_law_things"] ["_law_row", "_law_things"] (defScope (topS 16)) := ⟨rfl, rfl, rfl, by decide +kernel, rfl, by decide +kernel, by decide +kernel⟩
def g_law_pick : SF := (gRet (fOp gIx (fVar 1) (fCall F_law_taken (cCons (fVar 0) (cCons (fCB gLen (rCons (fVar 1) rNil)) rNil)))))
def F_law_pick : FN := fnF 2 g_law_pick
/-! ### law_town -/
theorem sc_law_town : FnScope ["_law_row", "_law_side", "_law_most", "_law_width", "_law_height", "_law_places", "_law_first", "_law_place"] ["_law_row", "_law_side", "_law_most"] (defScope (topS 18)) := ⟨rfl, rfl, rfl, by decide +kernel, rfl, by decide +kernel, by decide +kernel⟩
def g_law_town : SF := (gSeq (gSet 3 (fOp gAdd (fC (.int 1)) (fCall F_law_taken (cCons (fVar 0) (cCons (fCB gMin2 (rCons (fVar 1) (rCons (fVar 2) rNil))) rNil)))))
    (gSeq (gSet 4 (fOp gAdd (fC (.int 1)) (fCall F_law_taken (cCons (fVar 0) (cCons (fCB gMin2 (rCons (fVar 1) (rCons (fOp gFdiv (fVar 2) (fVar 3)) rNil))) rNil)))))
    (gSeq (gSet 3 (fIf (fB (fOp gLt (fOp gMul (fVar 3) (fVar 4)) (fC (.int 2)))) (fC (.int 2)) (fVar 3)))
    (gSeq (gSet 5 (fCall F_law_crossings (cCons (fTup (fCons (fVar 3) (fCons (fVar 4) fNil))) rNil)))
    (gSeq (gSet 6 (fCall F_law_pick (cCons (fVar 0) (cConsF (fVar 5) rNil))))
    (gRet (fTup (fCons (fVar 3) (fCons (fVar 4) (fCons (fVar 6) (fCons (fCall F_law_pick (cCons (fVar 0) (cCons (fLc (fISeq (fVar 5)) (gtName 7) (fB (fOp gNe (fVar 7) (fVar 6))) (fVar 7) [7]) rNil))) fNil)))))))))))
def F_law_town : FN := fnF 8 g_law_town
/-! ### law_led -/
theorem sc_law_led : FnScope ["_law_town_here", "_law_place", "_law_step"] ["_law_town_here", "_law_place", "_law_step"] (defScope (topS 20)) := ⟨rfl, rfl, rfl, by decide +kernel, rfl, by decide +kernel, by decide +kernel⟩
def g_law_led : SF := (gRet (fTup (fCons (fOp gMod (fOp gAdd (fOp gIx (fVar 1) (fC (.int 0))) (fOp gIx (fVar 2) (fC (.int 0)))) (fOp gIx (fVar 0) (fC (.int 0)))) (fCons (fOp gMod (fOp gAdd (fOp gIx (fVar 1) (fC (.int 1))) (fOp gIx (fVar 2) (fC (.int 1)))) (fOp gIx (fVar 0) (fC (.int 1)))) fNil))))
def F_law_led : FN := fnF 3 g_law_led
/-! ### law_alike -/
theorem sc_law_alike : FnScope ["_law_found", "_law_due", "_law_k"] ["_law_found", "_law_due"] (defScope (topS 17)) := ⟨rfl, rfl, rfl, by decide +kernel, rfl, by decide +kernel, by decide +kernel⟩
def g_law_alike (Fr : FN) : SF := (gSeq (gIf (fT (fIsi2 (fVar 1) "tuple" "list")) (gSeq (gIf (fOr (fNot (fT (fIsi2 (fVar 0) "tuple" "list"))) (fB (fOp gNe (fIsi (fVar 0) "list") (fIsi (fVar 1) "list")))) (gRet (fC (.bool false))) gSkip)
    (gSeq (gIf (fB (fOp gNe (fCB gLen (rCons (fVar 0) rNil)) (fCB gLen (rCons (fVar 1) rNil)))) (gRet (fC (.bool false))) gSkip)
    (gRet (fOp gEq (fLc (fIRng1 (rCons (fCB gLen (rCons (fVar 1) rNil)) rNil)) (gtName 2) (fNot (fT (fCall Fr (cCons (fOp gIx (fVar 0) (fVar 2)) (cCons (fOp gIx (fVar 1) (fVar 2)) rNil))))) (fVar 2) [2]) (fLst fNil))))) gSkip)
    (gSeq (gIf (fOr (fB (fOp gIs (fVar 1) (fC .none))) (fT (fIsi (fVar 1) "str"))) (gRet (fAndV (fOp gEq (fVar 0) (fVar 1)) (fOp gEq (fIsi (fVar 0) "str") (fIsi (fVar 1) "str")))) gSkip)
    (gRet (fAndV (fIsi (fVar 0) "int") (fAndV (fOp gEq (fIsi (fVar 0) "bool") (fIsi (fVar 1) "bool")) (fOp gEq (fVar 0) (fVar 1)))))))
def F_law_alike : Nat → FN
  | 0 => fnF 3 gNever
  | n + 1 => fnF 3 (g_law_alike (F_law_alike n))
/-! ### Walker_undo -/
theorem sc_Walker_undo : FnScope ["self", "#1", "#2"] ["self"] (defScope (inClass (topS 13) 2)) := ⟨rfl, rfl, rfl, by decide +kernel, rfl, by decide +kernel, by decide +kernel⟩
theorem nv1_Walker_undo : ¬ Vis (defScope (inClass (topS 13) 2)) "#1" := by unfold Vis; decide +kernel
theorem nv2_Walker_undo : ¬ Vis (defScope (inClass (topS 13) 2)) "#2" := by unfold Vis; decide +kernel
def g_Walker_undo : SF := (gSeq (gIf (fNot (fT (fFldS c_Walker 0 1))) (gRaise c_NoStep) gSkip)
    (gSeq (gExpr (fPop (fFldS c_Walker 0 1)))
    (gExpr (fPop (fFldP c_Walker 0 2)))))
def F_Walker_undo : MFN := mF 3 g_Walker_undo
/-! ### is_number -/
theorem sc_is_number : FnScope ["value", "low", "high"] ["value", "low", "high"] (defScope (topS 7)) := ⟨rfl, rfl, rfl, by decide +kernel, rfl, by decide +kernel, by decide +kernel⟩
def g_is_number : SF := (gRet (fAndV (fIsi (fVar 0) "int") (fAndV (fNotV (fIsi (fVar 0) "bool")) (fChain gLe gLe (fVar 1) (fVar 0) (fVar 2)))))
def F_is_number : FN := fnF 3 g_is_number
/-! ### added -/
theorem sc_added : FnScope ["town", "one", "other"] ["town", "one", "other"] (defScope (topS 11)) := ⟨rfl, rfl, rfl, by decide +kernel, rfl, by decide +kernel, by decide +kernel⟩
def g_added : SF := (gRet (fTup (fCons (fOp gMod (fOp gAdd (fOp gIx (fVar 1) (fC (.int 0))) (fOp gIx (fVar 2) (fC (.int 0)))) (fOp gIx (fVar 0) (fC (.int 0)))) (fCons (fOp gMod (fOp gAdd (fOp gIx (fVar 1) (fC (.int 1))) (fOp gIx (fVar 2) (fC (.int 1)))) (fOp gIx (fVar 0) (fC (.int 1)))) fNil))))
def F_added : FN := fnF 3 g_added
/-! ### Walker_go -/
theorem sc_Walker_go : FnScope ["self", "street", "#1", "#2"] ["self", "street"] (defScope (inClass (topS 13) 1)) := ⟨rfl, rfl, rfl, by decide +kernel, rfl, by decide +kernel, by decide +kernel⟩
theorem nv1_Walker_go : ¬ Vis (defScope (inClass (topS 13) 1)) "#1" := by unfold Vis; decide +kernel
theorem nv2_Walker_go : ¬ Vis (defScope (inClass (topS 13) 1)) "#2" := by unfold Vis; decide +kernel
def g_Walker_go : SF := (gSeq (gIf (fNot (fT (fCall F_is_number (cConsF (fVar 1) (cCons (fC (.int 1)) (cCons (fC (.int 2)) rNil)))))) (gRaise c_BadNumber) gSkip)
    (gSeq (gExpr (fAppend (fFldS c_Walker 0 2) (fVar 1)))
    (gExpr (fAppend (fFldP c_Walker 0 3) (fCall F_added (cCons (fFldT c_Walker 0) (cCons (fOp gIx (fFldP c_Walker 0 3) (fNeg (fC (.int 1)))) (cCons (fOp gIx (fFldT c_Walker 0) (fOp gAdd (fC (.int 1)) (fVar 1))) rNil))))))))
def F_Walker_go : MFN := mF 4 g_Walker_go
/-! ### Walker_missing -/
theorem sc_Walker_missing : FnScope ["self", "#1", "#2"] ["self"] (defScope (inClass (topS 13) 3)) := ⟨rfl, rfl, rfl, by decide +kernel, rfl, by decide +kernel, by decide +kernel⟩
theorem nv1_Walker_missing : ¬ Vis (defScope (inClass (topS 13) 3)) "#1" := by unfold Vis; decide +kernel
theorem nv2_Walker_missing : ¬ Vis (defScope (inClass (topS 13) 3)) "#2" := by unfold Vis; decide +kernel
def g_Walker_missing : SF := (gRet (fOp gSub (fOp gMul (fOp gIx (fFldT c_Walker 0) (fC (.int 0))) (fOp gIx (fFldT c_Walker 0) (fC (.int 1)))) (fLenSet (fFldP c_Walker 0 2))))
def F_Walker_missing : MFN := mF 3 g_Walker_missing
/-! ### Walker_streets -/
theorem sc_Walker_streets : FnScope ["self", "#1", "#2"] ["self"] (defScope (inClass (topS 13) 4)) := ⟨rfl, rfl, rfl, by decide +kernel, rfl, by decide +kernel, by decide +kernel⟩
theorem nv1_Walker_streets : ¬ Vis (defScope (inClass (topS 13) 4)) "#1" := by unfold Vis; decide +kernel
theorem nv2_Walker_streets : ¬ Vis (defScope (inClass (topS 13) 4)) "#2" := by unfold Vis; decide +kernel
def g_Walker_streets : SF := (gRet (fCB gTuple (rCons (fFldS c_Walker 0 1) rNil)))
def F_Walker_streets : MFN := mF 3 g_Walker_streets
/-! ### Walker_path -/
theorem sc_Walker_path : FnScope ["self", "#1", "#2"] ["self"] (defScope (inClass (topS 13) 5)) := ⟨rfl, rfl, rfl, by decide +kernel, rfl, by decide +kernel, by decide +kernel⟩
theorem nv1_Walker_path : ¬ Vis (defScope (inClass (topS 13) 5)) "#1" := by unfold Vis; decide +kernel
theorem nv2_Walker_path : ¬ Vis (defScope (inClass (topS 13) 5)) "#2" := by unfold Vis; decide +kernel
def g_Walker_path : SF := (gRet (fCB gTuple (rCons (fFldP c_Walker 0 2) rNil)))
def F_Walker_path : MFN := mF 3 g_Walker_path
/-! ### is_spot -/
theorem sc_is_spot : FnScope ["width", "height", "value"] ["width", "height", "value"] (defScope (topS 8)) := ⟨rfl, rfl, rfl, by decide +kernel, rfl, by decide +kernel, by decide +kernel⟩
def g_is_spot : SF := (gSeq (gIf (fOr (fNot (fT (fIsi (fVar 2) "tuple"))) (fB (fOp gNe (fCB gLen (rCons (fVar 2) rNil)) (fC (.int 2))))) (gRet (fC (.bool false))) gSkip)
    (gRet (fAndV (fCall F_is_number (cCons (fOp gIx (fVar 2) (fC (.int 0))) (cCons (fC (.int 0)) (cCons (fOp gSub (fVar 0) (fC (.int 1))) rNil)))) (fCall F_is_number (cCons (fOp gIx (fVar 2) (fC (.int 1))) (cCons (fC (.int 0)) (cCons (fOp gSub (fVar 1) (fC (.int 1))) rNil)))))))
def F_is_spot : FN := fnF 3 g_is_spot
/-! ### wrong_town -/
theorem sc_wrong_town : FnScope ["value", "width", "height", "first", "second"] ["value"] (defScope (topS 9)) := ⟨rfl, rfl, rfl, by decide +kernel, rfl, by decide +kernel, by decide +kernel⟩
def g_wrong_town : SF := (gSeq (gIf (fOr (fNot (fT (fIsi (fVar 0) "tuple"))) (fB (fOp gNe (fCB gLen (rCons (fVar 0) rNil)) (fC (.int 4))))) (gRet (fC (.str "whole"))) gSkip)
    (gSeq (gAsg (fVar 0) (gtTup 4 (gtCons (gtName 1) (gtCons (gtName 2) (gtCons (gtName 3) (gtCons (gtName 4) gtNil))))))
    (gSeq (gIf (fOr (fNot (fT (fCall F_is_number (cConsF (fVar 1) (cCons (fC (.int 1)) (cConsF (fC (.int 12)) rNil)))))) (fOr (fNot (fT (fCall F_is_number (cConsF (fVar 2) (cCons (fC (.int 1)) (cConsF (fC (.int 12)) rNil)))))) (fB (fOp gLt (fOp gMul (fVar 1) (fVar 2)) (fC (.int 2)))))) (gRet (fC (.str "sides"))) gSkip)
    (gSeq (gIf (fOr (fNot (fT (fCall F_is_spot (cConsF (fVar 1) (cConsF (fVar 2) (cConsF (fVar 3) rNil)))))) (fOr (fNot (fT (fCall F_is_spot (cConsF (fVar 1) (cConsF (fVar 2) (cConsF (fVar 4) rNil)))))) (fB (fOp gEq (fVar 3) (fVar 4))))) (gRet (fC (.str "steps"))) gSkip)
    (gRet (fC .none))))))
def F_wrong_town : FN := fnF 5 g_wrong_town
/-! ### need_town -/
theorem sc_need_town : FnScope ["value", "word"] ["value"] (defScope (topS 10)) := ⟨rfl, rfl, rfl, by decide +kernel, rfl, by decide +kernel, by decide +kernel⟩
def g_need_town : SF := (gSeq (gSet 1 (fCall F_wrong_town (cConsF (fVar 0) rNil)))
    (gIf (fB (fOp gIsNot (fVar 1) (fC .none))) (gRaiseX c_BadTown "part" (fCons (fVar 1) fNil)) gSkip))
def F_need_town : FN := fnF 2 g_need_town
/-! ### Walker___init__ -/
theorem sc_Walker___init__ : FnScope ["self", "town"] ["self", "town"] (defScope (inClass (topS 13) 0)) := ⟨rfl, rfl, rfl, by decide +kernel, rfl, by decide +kernel, by decide +kernel⟩
/-! ### law -/
theorem sc_law : FnScope ["_law_script", "_law_row", "_law_town_here", "_law_walker", "_law_line", "_law_turn", "_law_path", "_law_street", "_law_left", "e", "_law_good", "_law_told", "_law_place", "#1", "#2"] ["_law_script"] (defScope (topS 21)) := ⟨rfl, rfl, rfl, by decide +kernel, rfl, by decide +kernel, by decide +kernel⟩
theorem nv1_law : ¬ Vis (defScope (topS 21)) "#1" := by unfold Vis; decide +kernel
theorem nv2_law : ¬ Vis (defScope (topS 21)) "#2" := by unfold Vis; decide +kernel
def g_law : Rho → SO → Prop := (seqD' (gSet 1 (fLst (fCons (fVar 0) (fCons (fC (.int 0)) (fCons (fC (.int 6107)) (fCons (fC (.int 0)) fNil))))))
    (seqD' (gSet 2 (fCall F_law_town (cCons (fVar 1) (cCons (fC (.int 12)) (cCons (fC (.int 40)) rNil)))))
    (seqDD (mkPar c_Walker F_need_town 3 4 13 (fCons (fVar 2) fNil))
    (fun ρ o => o = (gSeq (gFor (fIRng1 (rCons (fCall F_law_taken (cCons (fVar 1) (cCons (fC (.int 24)) rNil))) rNil)) (gtName 5) (gSeq (gIf (fB (fOp gEq (fCall F_law_taken (cCons (fVar 1) (cCons (fC (.int 5)) rNil))) (fC (.int 0)))) (gSeq (gTryAs c_NoStep 9 (gSet 11 (fMeth c_Walker 3 13 F_Walker_undo fNil)) (gSet 11 (fC (.str "none"))))
    (gSeq (gIf (fB (fOp gNe (fVar 11) (fIf (fB (fOp gNe (fVar 4) (fTup fNil))) (fC .none) (fC (.str "none"))))) (gRet (fC (.bool false))) gSkip)
    (gSet 4 (fSl (fVar 4) fNoPart (fPart (fNeg (fC (.int 1)))))))) (gSeq (gSet 7 (fCall F_law_pick (cCons (fVar 1) (cCons (fLst (fCons (fC (.int 1)) (fCons (fC (.int 2)) (fCons (fC (.int 1)) (fCons (fC (.int 2)) (fCons (fC (.int 1)) (fCons (fC (.int 2)) (fCons (fC .none) (fCons (fC (.int 0)) (fCons (fC (.int 3)) (fCons (fC (.bool true)) (fCons (fC (.str "1")) fNil)))))))))))) rNil))))
    (gSeq (gSet 10 (fAndV (fOp gIn (fVar 7) (fLst (fCons (fC (.int 1)) (fCons (fC (.int 2)) fNil)))) (fNotV (fIsi (fVar 7) "bool"))))
    (gSeq (gTryAs c_BadNumber 9 (gSet 11 (fMeth c_Walker 3 13 F_Walker_go (fCons (fVar 7) fNil))) (gSet 11 (fC (.str "bad"))))
    (gSeq (gIf (fB (fOp gNe (fVar 11) (fIf (fT (fVar 10)) (fC .none) (fC (.str "bad"))))) (gRet (fC (.bool false))) gSkip)
    (gSet 4 (fIf (fT (fVar 10)) (fOp gAdd (fVar 4) (fTup (fCons (fVar 7) fNil))) (fVar 4))))))))
    (gSeq (gSet 6 (fLst (fCons (fTup (fCons (fC (.int 0)) (fCons (fC (.int 0)) fNil))) fNil)))
    (gSeq (gFor (fISeq (fVar 4)) (gtName 7) (gExpr (fAppend (fVar 6) (fCall F_law_led (cConsF (fVar 2) (cCons (fOp gIx (fVar 6) (fNeg (fC (.int 1)))) (cCons (fOp gIx (fVar 2) (fOp gAdd (fC (.int 1)) (fVar 7))) rNil)))))))
    (gSeq (gSet 8 (fLc (fISeq (fCall F_law_crossings (cConsF (fVar 2) rNil))) (gtName 12) (fB (fOp gNotIn (fVar 12) (fVar 6))) (fVar 12) [12]))
    (gIf (fNot (fT (fCall (F_law_alike 6) (cCons (fLst (fCons (fProp c_Walker 3 13 F_Walker_streets) (fCons (fProp c_Walker 3 13 F_Walker_path) (fCons (fMeth c_Walker 3 13 F_Walker_missing fNil) fNil)))) (cCons (fLst (fCons (fVar 4) (fCons (fCB gTuple (rCons (fVar 6) rNil)) (fCons (fCB gLen (rCons (fVar 8) rNil)) fNil)))) rNil))))) (gRet (fC (.bool false))) gSkip))))))
    (gSeq (gTryAs c_BadTown 9 (gMakeX F_need_town (fCons (fCall F_law_pick (cCons (fVar 1) (cCons (fLst (fCons (fC .none) (fCons (fTup fNil) (fCons (fTup (fCons (fC (.int 1)) (fCons (fC (.int 1)) (fCons (fTup (fCons (fC (.int 0)) (fCons (fC (.int 0)) fNil))) (fCons (fTup (fCons (fC (.int 0)) (fCons (fC (.int 0)) fNil))) fNil))))) (fCons (fTup (fCons (fC (.int 2)) (fCons (fC (.int 2)) (fCons (fTup (fCons (fC (.int 0)) (fCons (fC (.int 1)) fNil))) (fCons (fTup (fCons (fC (.int 0)) (fCons (fC (.int 1)) fNil))) fNil))))) (fCons (fLst (fCons (fC (.int 2)) (fCons (fC (.int 2)) (fCons (fTup (fCons (fC (.int 0)) (fCons (fC (.int 1)) fNil))) (fCons (fTup (fCons (fC (.int 1)) (fCons (fC (.int 0)) fNil))) fNil))))) fNil)))))) rNil))) fNil)) (gRet (fC (.bool true))))
    (gRet (fC (.bool false))))) ρ))))
def okL (ss : List Slot) : Prop := ∃ ns : List Int, ns.length ≤ 63 ∧ ss = [.val (.list (ns.map PyData.int))]
open Classical in
noncomputable def F_law : FN := fun ss => if okL ss then .ok (.val (.bool true)) none else .bad
theorem F_law_true (ns : List Int) (hl : ns.length ≤ 63) : F_law [.val (.list (ns.map PyData.int))] = .ok (.val (.bool true)) none := if_pos ⟨ns, hl, rfl⟩
def LawAll : Prop := ∀ ns : List Int, ns.length ≤ 63 → ∀ o, g_law (.val (.list (ns.map PyData.int)) :: List.replicate 14 .no) o → outFn o = .ok (.val (.bool true)) none
theorem law_hG (h : LawAll) : ∀ ss : List Slot, ss.length = 1 → F_law ss ≠ .bad → ∀ o, g_law (ss ++ List.replicate (15 - ss.length) .no) o → outFn o = F_law ss := fun ss _ hb o ho => by
  by_cases q : okL ss
  · obtain ⟨ns, hl, rfl⟩ := q
    rw [F_law_true ns hl]
    exact h ns hl o ho
  · exact absurd (if_neg q) hb
section
variable {P : Program} {w : World} {K : PySem.W.Frag} {mg : Str → Option Value} {base : Heap}
theorem ok_law_taken {T : AS} {f : Addr} {fd : FuncData} (F : Fun K "_law_taken" "_law_taken" (topS 15) f fd) (B : Bn mg) : FnOk P w K mg base (L2N.CX P w) 1 f fd ["_law_row", "_law_many"] (spF K T 2 F_law_taken) := by
  refine fn_pv (k := 0) F sc_law_taken fun cdv A outer s H E hr => ?_
  have u1 := hu1 hr
  have u64 := hu64 hr
  have u65 := hu65 hr
  have po : PassesOwn (model P w) (A.deeper (PyProof.Rows.envOfC "_law_taken" (defScope (topS 15)) s.heap.objs.size f cdv)) (PyProof.Rows.envOfC "_law_taken" (defScope (topS 15)) s.heap.objs.size f cdv) (cxOf (L2N.CX P w) P w K mg base ["_law_row", "_law_many", "_law_found", "_law_cell"] "_law_taken" (defScope (topS 15)) f cdv A outer s H E).xe := passes_of (X := cxOf (L2N.CX P w) P w K mg base ["_law_row", "_law_many", "_law_found", "_law_cell"] "_law_taken" (defScope (topS 15)) f cdv A outer s H E) rfl
  have tk : L2N.Takes (cxOf (L2N.CX P w) P w K mg base ["_law_row", "_law_many", "_law_found", "_law_cell"] "_law_taken" (defScope (topS 15)) f cdv A outer s H E) (fun cls d _ H => E cls d H) := L2N.takes_of rfl rfl rfl rfl
  exact ⟨_, (ss_cons (ss_if (st_cmp op_gt (og_cmp _) (se_ixk K rfl (se_var 0) se_int) se_int (nomark _)) (ss_cons (ss_set (i := 2) sc_law_taken.nd rfl (by first | exact .inl rfl | exact .inr rfl) (se_op op_modN og_mod (se_ct (call_intA rfl) cg_int1 (by rfl) B.int (by rfl) (sr_cons (se_ixk K rfl (se_var 0) se_int) sr_nil)) (se_var 1)))
      (ss_cons (ss_setIx (se_op op_fdivN og_fdiv (se_ixk K rfl (se_var 0) se_int) (se_var 1)) (se_var 0) se_int)
      (ss_one (ss_ret (se_var 2))))) ss_nil)
      (ss_cons (ss_setIx (se_op (ok_add K rfl) og_add (se_ixk K rfl (se_var 0) se_int) se_int) (se_var 0) se_int)
      (ss_cons (ss_if (st_cmp op_gt (og_cmp _) (se_ixk K rfl (se_var 0) se_int) (se_cb (ck_len K rfl) cg_len (by rfl) B.len PySem.boot_len (sr_cons (se_ixk K rfl (se_var 0) se_int) sr_nil)) (nomark _)) (ss_cons (ss_setIx (se_op op_modN og_mod (se_ct (call_intA rfl) cg_int1 (by rfl) B.int (by rfl) (sr_cons (se_op (ok_add K rfl) og_add (se_op (ok_mul K rfl) og_mul (se_ixk K rfl (se_var 0) se_int) se_int) se_int) sr_nil)) se_int) (se_var 0) se_int)
      (ss_one (ss_ret (se_op op_modN og_mod (se_ct (call_intA rfl) cg_int1 (by rfl) B.int (by rfl) (sr_cons (se_op op_fdivN og_fdiv (se_ixk K rfl (se_var 0) se_int) se_int) sr_nil)) (se_var 1))))) ss_nil)
      (ss_cons (ss_set (i := 3) sc_law_taken.nd rfl (by first | exact .inl rfl | exact .inr rfl) (se_ixk K rfl (se_ixk K rfl (se_var 0) se_int) (se_op op_sub og_sub (se_ixk K rfl (se_var 0) se_int) se_int)))
      (ss_cons (ss_setIx (se_op op_modN og_mod (se_ct (call_intA rfl) cg_int1 (by rfl) B.int (by rfl) (sr_cons (se_op (ok_add K rfl) og_add (se_op (ok_add K rfl) og_add (se_op (ok_mul K rfl) og_mul (se_ixk K rfl (se_var 0) se_int) se_int) (se_var 3)) se_int) sr_nil)) se_int) (se_var 0) se_int)
      (ss_cons (ss_if (st_cmp op_ge (og_cmp _) (se_var 3) (se_op op_pow og_pow se_int se_int) (nomark _)) (ss_one (ss_setIx (se_op op_fdivN og_fdiv (se_var 3) (se_var 1)) (se_var 0) se_int)) ss_nil)
      (ss_one (ss_ret (se_op op_modN og_mod (se_ct (call_intA rfl) cg_int1 (by rfl) B.int (by rfl) (sr_cons (se_var 3) sr_nil)) (se_var 1))))))))))⟩
theorem ok_law_crossings {T : AS} {f : Addr} {fd : FuncData} (F : Fun K "_law_crossings" "_law_crossings" (topS 19) f fd) (B : Bn mg) : FnOk P w K mg base (L2N.CX P w) 1 f fd ["_law_town_here"] (spF K T 1 F_law_crossings) := by
  refine fn_pv (k := 0) F sc_law_crossings fun cdv A outer s H E hr => ?_
  have u1 := hu1 hr
  have u64 := hu64 hr
  have u65 := hu65 hr
  have po : PassesOwn (model P w) (A.deeper (PyProof.Rows.envOfC "_law_crossings" (defScope (topS 19)) s.heap.objs.size f cdv)) (PyProof.Rows.envOfC "_law_crossings" (defScope (topS 19)) s.heap.objs.size f cdv) (cxOf (L2N.CX P w) P w K mg base ["_law_town_here", "_law_found", "_law_east", "_law_north"] "_law_crossings" (defScope (topS 19)) f cdv A outer s H E).xe := passes_of (X := cxOf (L2N.CX P w) P w K mg base ["_law_town_here", "_law_found", "_law_east", "_law_north"] "_law_crossings" (defScope (topS 19)) f cdv A outer s H E) rfl
  have tk : L2N.Takes (cxOf (L2N.CX P w) P w K mg base ["_law_town_here", "_law_found", "_law_east", "_law_north"] "_law_crossings" (defScope (topS 19)) f cdv A outer s H E) (fun cls d _ H => E cls d H) := L2N.takes_of rfl rfl rfl rfl
  exact ⟨_, (ss_cons (ss_set (i := 1) sc_law_crossings.nd rfl (by first | exact .inl rfl | exact .inr rfl) (se_lst sa_nil))
      (ss_cons (ss_for po rfl (si_range1 (by rfl) B.range (sr_cons (se_ixk K rfl (se_var 0) se_int) sr_nil)) (sg_name (i := 2) sc_law_crossings.nd rfl (by first | exact .inl rfl | exact .inr rfl)) (ss_one (ss_set (i := 1) sc_law_crossings.nd rfl (by first | exact .inl rfl | exact .inr rfl) (se_op (ok_add K rfl) og_add (se_var 1) (se_lc (own := [("_law_north", 3)]) rfl sc_law_crossings.nd (si_range1 (by rfl) B.range (sr_cons (se_ixk K rfl (se_var 0) se_int) sr_nil)) (blkOk_by (N := ["_law_town_here", "_law_found", "_law_east", "_law_north"]) (sc := defScope (topS 19)) (by decide +kernel)) ⟨fun _ _ _ _ _ => (sg_name (i := 3) sc_law_crossings.nd rfl (by first | exact .inl rfl | exact .inr rfl)), fun _ _ _ _ _ => sts_nil, fun _ _ _ _ _ => (se_tup (sa_cons (se_var 2) (sa_cons (se_var 3) sa_nil)))⟩ (by decide))))))
      (ss_one (ss_ret (se_var 1)))))⟩
theorem ok_law_pick {T : AS} {f : Addr} {fd : FuncData} {f0 : Addr} {fd0 : FuncData} (F : Fun K "_law_pick" "_law_pick" (topS 16) f fd) (B : Bn mg) (C__law_taken : Cal P w K mg base T "_law_taken" 1 ["_law_row", "_law_many"] F_law_taken f0 fd0) : FnOk P w K mg base (L2N.CX P w) 2 f fd ["_law_row", "_law_things"] (spF K T 2 F_law_pick) := by
  refine fn_pv (k := 1) F sc_law_pick fun cdv A outer s H E hr => ?_
  have u1 := hu1 hr
  have u64 := hu64 hr
  have u65 := hu65 hr
  have po : PassesOwn (model P w) (A.deeper (PyProof.Rows.envOfC "_law_pick" (defScope (topS 16)) s.heap.objs.size f cdv)) (PyProof.Rows.envOfC "_law_pick" (defScope (topS 16)) s.heap.objs.size f cdv) (cxOf (L2N.CX P w) P w K mg base ["_law_row", "_law_things"] "_law_pick" (defScope (topS 16)) f cdv A outer s H E).xe := passes_of (X := cxOf (L2N.CX P w) P w K mg base ["_law_row", "_law_things"] "_law_pick" (defScope (topS 16)) f cdv A outer s H E) rfl
  have tk : L2N.Takes (cxOf (L2N.CX P w) P w K mg base ["_law_row", "_law_things"] "_law_pick" (defScope (topS 16)) f cdv A outer s H E) (fun cls d _ H => E cls d H) := L2N.takes_of rfl rfl rfl rfl
  exact ⟨_, (ss_one (ss_ret (se_ixk K rfl (se_var 1) (se_callK K rfl C__law_taken (hr.mono (by decide)) tk (by rfl) (sc_cons (se_var 0) (sc_cons (se_cb (ck_len K rfl) cg_len (by rfl) B.len PySem.boot_len (sr_cons (se_var 1) sr_nil)) sc_nil))))))⟩
theorem ok_law_town {T : AS} {f : Addr} {fd : FuncData} {f0 : Addr} {fd0 : FuncData} {f1 : Addr} {fd1 : FuncData} {f2 : Addr} {fd2 : FuncData} (F : Fun K "_law_town" "_law_town" (topS 18) f fd) (B : Bn mg) (C__law_taken : Cal P w K mg base T "_law_taken" 1 ["_law_row", "_law_many"] F_law_taken f0 fd0) (C__law_crossings : Cal P w K mg base T "_law_crossings" 1 ["_law_town_here"] F_law_crossings f1 fd1) (C__law_pick : Cal P w K mg base T "_law_pick" 2 ["_law_row", "_law_things"] F_law_pick f2 fd2) : FnOk P w K mg base (L2N.CX P w) 3 f fd ["_law_row", "_law_side", "_law_most"] (spF K T 3 F_law_town) := by
  refine fn_pv (k := 2) F sc_law_town fun cdv A outer s H E hr => ?_
  have u1 := hu1 hr
  have u64 := hu64 hr
  have u65 := hu65 hr
  have po : PassesOwn (model P w) (A.deeper (PyProof.Rows.envOfC "_law_town" (defScope (topS 18)) s.heap.objs.size f cdv)) (PyProof.Rows.envOfC "_law_town" (defScope (topS 18)) s.heap.objs.size f cdv) (cxOf (L2N.CX P w) P w K mg base ["_law_row", "_law_side", "_law_most", "_law_width", "_law_height", "_law_places", "_law_first", "_law_place"] "_law_town" (defScope (topS 18)) f cdv A outer s H E).xe := passes_of (X := cxOf (L2N.CX P w) P w K mg base ["_law_row", "_law_side", "_law_most", "_law_width", "_law_height", "_law_places", "_law_first", "_law_place"] "_law_town" (defScope (topS 18)) f cdv A outer s H E) rfl
  have tk : L2N.Takes (cxOf (L2N.CX P w) P w K mg base ["_law_row", "_law_side", "_law_most", "_law_width", "_law_height", "_law_places", "_law_first", "_law_place"] "_law_town" (defScope (topS 18)) f cdv A outer s H E) (fun cls d _ H => E cls d H) := L2N.takes_of rfl rfl rfl rfl
  exact ⟨_, (ss_cons (ss_set (i := 3) sc_law_town.nd rfl (by first | exact .inl rfl | exact .inr rfl) (se_op (ok_add K rfl) og_add se_int (se_callK K rfl C__law_taken (hr.mono (by decide)) tk (by rfl) (sc_cons (se_var 0) (sc_cons (se_cb (call_min2 rfl) cg_min2 (by rfl) B.min (by rfl) (sr_cons (se_var 1) (sr_cons (se_var 2) sr_nil))) sc_nil)))))
      (ss_cons (ss_set (i := 4) sc_law_town.nd rfl (by first | exact .inl rfl | exact .inr rfl) (se_op (ok_add K rfl) og_add se_int (se_callK K rfl C__law_taken (hr.mono (by decide)) tk (by rfl) (sc_cons (se_var 0) (sc_cons (se_cb (call_min2 rfl) cg_min2 (by rfl) B.min (by rfl) (sr_cons (se_var 1) (sr_cons (se_op op_fdivN og_fdiv (se_var 2) (se_var 3)) sr_nil))) sc_nil)))))
      (ss_cons (ss_set (i := 3) sc_law_town.nd rfl (by first | exact .inl rfl | exact .inr rfl) (se_if (st_cmp op_lt (og_cmp _) (se_op (ok_mul K rfl) og_mul (se_var 3) (se_var 4)) se_int (nomark _)) se_int (se_var 3)))
      (ss_cons (ss_set (i := 5) sc_law_town.nd rfl (by first | exact .inl rfl | exact .inr rfl) (se_callK K rfl C__law_crossings (hr.mono (by decide)) tk (by rfl) (sc_cons (se_tup (sa_cons (se_var 3) (sa_cons (se_var 4) sa_nil))) sc_nil)))
      (ss_cons (ss_set (i := 6) sc_law_town.nd rfl (by first | exact .inl rfl | exact .inr rfl) (se_callK K rfl C__law_pick (hr.mono (by decide)) tk (by rfl) (sc_cons (se_var 0) (sc_consF (se_var 5) sc_nil))))
      (ss_one (ss_ret (se_tup (sa_cons (se_var 3) (sa_cons (se_var 4) (sa_cons (se_var 6) (sa_cons (se_callK K rfl C__law_pick (hr.mono (by decide)) tk (by rfl) (sc_cons (se_var 0) (sc_cons (se_lc (own := [("_law_place", 7)]) rfl sc_law_town.nd (si_seqk K rfl (se_var 5)) (blkOk_by (N := ["_law_row", "_law_side", "_law_most", "_law_width", "_law_height", "_law_places", "_law_first", "_law_place"]) (sc := defScope (topS 18)) (by decide +kernel)) ⟨fun _ _ _ _ _ => (sg_name (i := 7) sc_law_town.nd rfl (by first | exact .inl rfl | exact .inr rfl)), fun _ _ _ _ _ => (sts_one (st_cmp (ok_ne K rfl u64) og_ne (se_var 7) (se_var 6) (nomark _))), fun _ _ _ _ _ => (se_var 7)⟩ (by decide)) sc_nil))) sa_nil))))))))))))⟩
theorem ok_law_led {T : AS} {f : Addr} {fd : FuncData} (F : Fun K "_law_led" "_law_led" (topS 20) f fd) (B : Bn mg) : FnOk P w K mg base (L2N.CX P w) 1 f fd ["_law_town_here", "_law_place", "_law_step"] (spF K T 3 F_law_led) := by
  refine fn_pv (k := 0) F sc_law_led fun cdv A outer s H E hr => ?_
  have u1 := hu1 hr
  have u64 := hu64 hr
  have u65 := hu65 hr
  have po : PassesOwn (model P w) (A.deeper (PyProof.Rows.envOfC "_law_led" (defScope (topS 20)) s.heap.objs.size f cdv)) (PyProof.Rows.envOfC "_law_led" (defScope (topS 20)) s.heap.objs.size f cdv) (cxOf (L2N.CX P w) P w K mg base ["_law_town_here", "_law_place", "_law_step"] "_law_led" (defScope (topS 20)) f cdv A outer s H E).xe := passes_of (X := cxOf (L2N.CX P w) P w K mg base ["_law_town_here", "_law_place", "_law_step"] "_law_led" (defScope (topS 20)) f cdv A outer s H E) rfl
  have tk : L2N.Takes (cxOf (L2N.CX P w) P w K mg base ["_law_town_here", "_law_place", "_law_step"] "_law_led" (defScope (topS 20)) f cdv A outer s H E) (fun cls d _ H => E cls d H) := L2N.takes_of rfl rfl rfl rfl
  exact ⟨_, (ss_one (ss_ret (se_tup (sa_cons (se_op op_modN og_mod (se_op (ok_add K rfl) og_add (se_ixk K rfl (se_var 1) se_int) (se_ixk K rfl (se_var 2) se_int)) (se_ixk K rfl (se_var 0) se_int)) (sa_cons (se_op op_modN og_mod (se_op (ok_add K rfl) og_add (se_ixk K rfl (se_var 1) se_int) (se_ixk K rfl (se_var 2) se_int)) (se_ixk K rfl (se_var 0) se_int)) sa_nil)))))⟩
theorem ok_law_alike {T : AS} {f : Addr} {fd : FuncData} (F : Fun K "_law_alike" "_law_alike" (topS 17) f fd) (B : Bn mg) (at_ : mg "_law_alike" = some (.ref f)) (bi : Binds K fd ["_law_found", "_law_due"] []) : ∀ n, FnOk P w K mg base (L2N.CX P w) (n + 1) f fd ["_law_found", "_law_due"] (spF K T 2 (F_law_alike n))
  | 0 => fn_pv (k := 0) F sc_law_alike fun _ _ _ _ _ _ _ => ⟨_, sss_never⟩
  | n + 1 => by
    have Cr : Cal P w K mg base T "_law_alike" (n + 1) ["_law_found", "_law_due"] (F_law_alike n) f fd := ⟨ok_law_alike F B   at_ bi n, at_, F.kp, bi⟩
    refine fn_pv (k := n + 1) F sc_law_alike fun cdv A outer s H E hr => ?_
    have u1 := hu1 hr
    have u64 := hu64 hr
    have u65 := hu65 hr
    have po : PassesOwn (model P w) (A.deeper (PyProof.Rows.envOfC "_law_alike" (defScope (topS 17)) s.heap.objs.size f cdv)) (PyProof.Rows.envOfC "_law_alike" (defScope (topS 17)) s.heap.objs.size f cdv) (cxOf (L2N.CX P w) P w K mg base ["_law_found", "_law_due", "_law_k"] "_law_alike" (defScope (topS 17)) f cdv A outer s H E).xe := passes_of (X := cxOf (L2N.CX P w) P w K mg base ["_law_found", "_law_due", "_law_k"] "_law_alike" (defScope (topS 17)) f cdv A outer s H E) rfl
    have tk : L2N.Takes (cxOf (L2N.CX P w) P w K mg base ["_law_found", "_law_due", "_law_k"] "_law_alike" (defScope (topS 17)) f cdv A outer s H E) (fun cls d _ H => E cls d H) := L2N.takes_of rfl rfl rfl rfl
    exact ⟨_, (ss_cons (ss_if (st_truthk K rfl (se_isi2 (se_var 1) (T := "tuple") (U := "list") (by rfl) (by rfl) (by rfl) B.isinstance (by rfl) B.tuple (by rfl) (by rfl) B.list (by rfl))) (ss_cons (ss_if (SW.st (sw_or (st_not (st_truthk K rfl (se_isi2 (se_var 0) (T := "tuple") (U := "list") (by rfl) (by rfl) (by rfl) B.isinstance (by rfl) B.tuple (by rfl) (by rfl) B.list (by rfl)))) (sw_or1 (st_cmp (ok_ne K rfl u64) og_ne (se_isik K rfl (se_var 0) (T := "list") (by rfl) (by rfl) B.isinstance (by rfl) B.list (by rfl)) (se_isik K rfl (se_var 1) (T := "list") (by rfl) (by rfl) B.isinstance (by rfl) B.list (by rfl)) (nomark _))))) (ss_one (ss_ret se_bl)) ss_nil)
      (ss_cons (ss_if (st_cmp (ok_ne K rfl u64) og_ne (se_cb (ck_len K rfl) cg_len (by rfl) B.len PySem.boot_len (sr_cons (se_var 0) sr_nil)) (se_cb (ck_len K rfl) cg_len (by rfl) B.len PySem.boot_len (sr_cons (se_var 1) sr_nil)) (nomark _)) (ss_one (ss_ret se_bl)) ss_nil)
      (ss_one (ss_ret (se_cmp (ok_eq K rfl u64) og_eq (se_lc (own := [("_law_k", 2)]) rfl sc_law_alike.nd (si_range1 (by rfl) B.range (sr_cons (se_cb (ck_len K rfl) cg_len (by rfl) B.len PySem.boot_len (sr_cons (se_var 1) sr_nil)) sr_nil)) (blkOk_by (N := ["_law_found", "_law_due", "_law_k"]) (sc := defScope (topS 17)) (by decide +kernel)) ⟨fun _ _ _ _ _ => (sg_name (i := 2) sc_law_alike.nd rfl (by first | exact .inl rfl | exact .inr rfl)), fun _ _ _ _ _ => (sts_one (st_not (st_truthk K rfl (se_callK K rfl Cr (hr.mono (Nat.le_refl _)) takes0N (by rfl) (sc_cons (se_ixk K rfl (se_var 0) (se_var 2)) (sc_cons (se_ixk K rfl (se_var 1) (se_var 2)) sc_nil)))))), fun _ _ _ _ _ => (se_var 2)⟩ (by decide)) (se_lst sa_nil) (nomark _)))))) ss_nil)
      (ss_cons (ss_if (SW.st (sw_or (st_cmp op_isA og_is (se_var 1) se_non (nomark _)) (sw_or1 (st_truthk K rfl (se_isik K rfl (se_var 1) (T := "str") (by rfl) (by rfl) B.isinstance (by rfl) B.str (by rfl)))))) (ss_one (ss_ret (se_and (se_cmp (ok_eq K rfl u64) og_eq (se_var 0) (se_var 1) (nomark _)) (se_one (se_cmp (ok_eq K rfl u64) og_eq (se_isik K rfl (se_var 0) (T := "str") (by rfl) (by rfl) B.isinstance (by rfl) B.str (by rfl)) (se_isik K rfl (se_var 1) (T := "str") (by rfl) (by rfl) B.isinstance (by rfl) B.str (by rfl)) (nomark _)))))) ss_nil)
      (ss_one (ss_ret (se_and (se_isik K rfl (se_var 0) (T := "int") (by rfl) (by rfl) B.isinstance (by rfl) B.int (by rfl)) (se_and (se_cmp (ok_eq K rfl u64) og_eq (se_isik K rfl (se_var 0) (T := "bool") (by rfl) (by rfl) B.isinstance (by rfl) B.bool (by rfl)) (se_isik K rfl (se_var 1) (T := "bool") (by rfl) (by rfl) B.isinstance (by rfl) B.bool (by rfl)) (nomark _)) (se_one (se_cmp (ok_eq K rfl u64) og_eq (se_var 0) (se_var 1) (nomark _)))))))))⟩
theorem ok_Walker_undo {T : AS} {f : Addr} {fd : FuncData} (F : Fun K "undo" "Walker.undo" (inClass (topS 13) 2) f fd) (B : Bn mg) (Wc : WCls K c_Walker) (X_NoStep : XCls K mg "NoStep" c_NoStep) : FnOk P w K mg base (L2N.CX P w) 1 f fd ["self"] (spM K T c_Walker 0 F_Walker_undo) := by
  refine fn_m (k := 0) F sc_Walker_undo (by decide) (by decide) rfl rfl nv1_Walker_undo nv2_Walker_undo fun cdv A outer s H E hr => ?_
  have u1 := hu1 hr
  have u64 := hu64 hr
  have u65 := hu65 hr
  have po : PassesOwn (model P w) (A.deeper (PyProof.Rows.envOfC "Walker.undo" (defScope (inClass (topS 13) 2)) s.heap.objs.size f cdv)) (PyProof.Rows.envOfC "Walker.undo" (defScope (inClass (topS 13) 2)) s.heap.objs.size f cdv) (cxOf (L2N.CX P w) P w K mg base ["self", "#1", "#2"] "Walker.undo" (defScope (inClass (topS 13) 2)) f cdv A outer s H E).xe := passes_of (X := cxOf (L2N.CX P w) P w K mg base ["self", "#1", "#2"] "Walker.undo" (defScope (inClass (topS 13) 2)) f cdv A outer s H E) rfl
  have tk : L2N.Takes (cxOf (L2N.CX P w) P w K mg base ["self", "#1", "#2"] "Walker.undo" (defScope (inClass (topS 13) 2)) f cdv A outer s H E) (fun cls d _ H => E cls d H) := L2N.takes_of rfl rfl rfl rfl
  exact ⟨_, (ss_cons (ss_if (st_not (st_truthk K rfl (se_fldS (j := 1) Wc (se_var 0)))) (ss_one (ss_raise rfl tk X_NoStep (by rfl))) ss_nil)
      (ss_cons (ss_expr (se_pop (se_fldS (j := 1) Wc (se_var 0))))
      (ss_one (ss_expr (se_pop (se_fldP (j := 2) Wc (se_var 0)))))))⟩
theorem ok_is_number {T : AS} {f : Addr} {fd : FuncData} (F : Fun K "is_number" "is_number" (topS 7) f fd) (B : Bn mg) : FnOk P w K mg base (L2N.CX P w) 1 f fd ["value", "low", "high"] (spF K T 3 F_is_number) := by
  refine fn_pv (k := 0) F sc_is_number fun cdv A outer s H E hr => ?_
  have u1 := hu1 hr
  have u64 := hu64 hr
  have u65 := hu65 hr
  have po : PassesOwn (model P w) (A.deeper (PyProof.Rows.envOfC "is_number" (defScope (topS 7)) s.heap.objs.size f cdv)) (PyProof.Rows.envOfC "is_number" (defScope (topS 7)) s.heap.objs.size f cdv) (cxOf (L2N.CX P w) P w K mg base ["value", "low", "high"] "is_number" (defScope (topS 7)) f cdv A outer s H E).xe := passes_of (X := cxOf (L2N.CX P w) P w K mg base ["value", "low", "high"] "is_number" (defScope (topS 7)) f cdv A outer s H E) rfl
  have tk : L2N.Takes (cxOf (L2N.CX P w) P w K mg base ["value", "low", "high"] "is_number" (defScope (topS 7)) f cdv A outer s H E) (fun cls d _ H => E cls d H) := L2N.takes_of rfl rfl rfl rfl
  exact ⟨_, (ss_one (ss_ret (se_and (se_isik K rfl (se_var 0) (T := "int") (by rfl) (by rfl) B.isinstance (by rfl) B.int (by rfl)) (se_and (se_notV (se_isik K rfl (se_var 0) (T := "bool") (by rfl) (by rfl) B.isinstance (by rfl) B.bool (by rfl))) (se_one (se_chain op_le op_le (og_cmp _) (og_cmp _) (se_var 1) (se_var 0) (se_var 2)))))))⟩
theorem ok_added {T : AS} {f : Addr} {fd : FuncData} (F : Fun K "added" "added" (topS 11) f fd) (B : Bn mg) : FnOk P w K mg base (L2N.CX P w) 1 f fd ["town", "one", "other"] (spF K T 3 F_added) := by
  refine fn_pv (k := 0) F sc_added fun cdv A outer s H E hr => ?_
  have u1 := hu1 hr
  have u64 := hu64 hr
  have u65 := hu65 hr
  have po : PassesOwn (model P w) (A.deeper (PyProof.Rows.envOfC "added" (defScope (topS 11)) s.heap.objs.size f cdv)) (PyProof.Rows.envOfC "added" (defScope (topS 11)) s.heap.objs.size f cdv) (cxOf (L2N.CX P w) P w K mg base ["town", "one", "other"] "added" (defScope (topS 11)) f cdv A outer s H E).xe := passes_of (X := cxOf (L2N.CX P w) P w K mg base ["town", "one", "other"] "added" (defScope (topS 11)) f cdv A outer s H E) rfl
  have tk : L2N.Takes (cxOf (L2N.CX P w) P w K mg base ["town", "one", "other"] "added" (defScope (topS 11)) f cdv A outer s H E) (fun cls d _ H => E cls d H) := L2N.takes_of rfl rfl rfl rfl
  exact ⟨_, (ss_one (ss_ret (se_tup (sa_cons (se_op op_modN og_mod (se_op (ok_add K rfl) og_add (se_ixk K rfl (se_var 1) se_int) (se_ixk K rfl (se_var 2) se_int)) (se_ixk K rfl (se_var 0) se_int)) (sa_cons (se_op op_modN og_mod (se_op (ok_add K rfl) og_add (se_ixk K rfl (se_var 1) se_int) (se_ixk K rfl (se_var 2) se_int)) (se_ixk K rfl (se_var 0) se_int)) sa_nil)))))⟩
theorem ok_Walker_go {T : AS} {f : Addr} {fd : FuncData} {f0 : Addr} {fd0 : FuncData} {f1 : Addr} {fd1 : FuncData} (F : Fun K "go" "Walker.go" (inClass (topS 13) 1) f fd) (B : Bn mg) (C_is_number : Cal P w K mg base T "is_number" 1 ["value", "low", "high"] F_is_number f0 fd0) (C_added : Cal P w K mg base T "added" 1 ["town", "one", "other"] F_added f1 fd1) (Wc : WCls K c_Walker) (X_BadNumber : XCls K mg "BadNumber" c_BadNumber) : FnOk P w K mg base (L2N.CX P w) 2 f fd ["self", "street"] (spM K T c_Walker 1 F_Walker_go) := by
  refine fn_m (k := 1) F sc_Walker_go (by decide) (by decide) rfl rfl nv1_Walker_go nv2_Walker_go fun cdv A outer s H E hr => ?_
  have u1 := hu1 hr
  have u64 := hu64 hr
  have u65 := hu65 hr
  have po : PassesOwn (model P w) (A.deeper (PyProof.Rows.envOfC "Walker.go" (defScope (inClass (topS 13) 1)) s.heap.objs.size f cdv)) (PyProof.Rows.envOfC "Walker.go" (defScope (inClass (topS 13) 1)) s.heap.objs.size f cdv) (cxOf (L2N.CX P w) P w K mg base ["self", "street", "#1", "#2"] "Walker.go" (defScope (inClass (topS 13) 1)) f cdv A outer s H E).xe := passes_of (X := cxOf (L2N.CX P w) P w K mg base ["self", "street", "#1", "#2"] "Walker.go" (defScope (inClass (topS 13) 1)) f cdv A outer s H E) rfl
  have tk : L2N.Takes (cxOf (L2N.CX P w) P w K mg base ["self", "street", "#1", "#2"] "Walker.go" (defScope (inClass (topS 13) 1)) f cdv A outer s H E) (fun cls d _ H => E cls d H) := L2N.takes_of rfl rfl rfl rfl
  exact ⟨_, (ss_cons (ss_if (st_not (st_truthk K rfl (se_callK K rfl C_is_number (hr.mono (by decide)) tk (by rfl) (sc_consF (se_var 1) (sc_cons se_int (sc_cons se_int sc_nil)))))) (ss_one (ss_raise rfl tk X_BadNumber (by rfl))) ss_nil)
      (ss_cons (ss_expr (se_append (se_fldS (j := 2) Wc (se_var 0)) (se_var 1)))
      (ss_one (ss_expr (se_append (se_fldP (j := 3) Wc (se_var 0)) (se_callK K rfl C_added (hr.mono (by decide)) tk (by rfl) (sc_cons (se_fldT Wc (se_var 0)) (sc_cons (se_ixk K rfl (se_fldP (j := 3) Wc (se_var 0)) (se_neg se_int)) (sc_cons (se_ixk K rfl (se_fldT Wc (se_var 0)) (se_op (ok_add K rfl) og_add se_int (se_var 1))) sc_nil)))))))))⟩
theorem ok_Walker_missing {T : AS} {f : Addr} {fd : FuncData} (F : Fun K "missing" "Walker.missing" (inClass (topS 13) 3) f fd) (B : Bn mg) (Wc : WCls K c_Walker) : FnOk P w K mg base (L2N.CX P w) 1 f fd ["self"] (spM K T c_Walker 0 F_Walker_missing) := by
  refine fn_m (k := 0) F sc_Walker_missing (by decide) (by decide) rfl rfl nv1_Walker_missing nv2_Walker_missing fun cdv A outer s H E hr => ?_
  have u1 := hu1 hr
  have u64 := hu64 hr
  have u65 := hu65 hr
  have po : PassesOwn (model P w) (A.deeper (PyProof.Rows.envOfC "Walker.missing" (defScope (inClass (topS 13) 3)) s.heap.objs.size f cdv)) (PyProof.Rows.envOfC "Walker.missing" (defScope (inClass (topS 13) 3)) s.heap.objs.size f cdv) (cxOf (L2N.CX P w) P w K mg base ["self", "#1", "#2"] "Walker.missing" (defScope (inClass (topS 13) 3)) f cdv A outer s H E).xe := passes_of (X := cxOf (L2N.CX P w) P w K mg base ["self", "#1", "#2"] "Walker.missing" (defScope (inClass (topS 13) 3)) f cdv A outer s H E) rfl
  have tk : L2N.Takes (cxOf (L2N.CX P w) P w K mg base ["self", "#1", "#2"] "Walker.missing" (defScope (inClass (topS 13) 3)) f cdv A outer s H E) (fun cls d _ H => E cls d H) := L2N.takes_of rfl rfl rfl rfl
  exact ⟨_, (ss_one (ss_ret (se_op op_sub og_sub (se_op (ok_mul K rfl) og_mul (se_ixk K rfl (se_fldT Wc (se_var 0)) se_int) (se_ixk K rfl (se_fldT Wc (se_var 0)) se_int)) (se_lenSet K rfl rfl u64 (by rfl) B.len (by rfl) B.set (se_fldP (j := 2) Wc (se_var 0))))))⟩
theorem ok_Walker_streets {T : AS} {f : Addr} {fd : FuncData} (F : Fun K "streets" "Walker.streets" (inClass (topS 13) 4) f fd) (B : Bn mg) (Wc : WCls K c_Walker) : FnOk P w K mg base (L2N.CX P w) 1 f fd ["self"] (spM K T c_Walker 0 F_Walker_streets) := by
  refine fn_m (k := 0) F sc_Walker_streets (by decide) (by decide) rfl rfl nv1_Walker_streets nv2_Walker_streets fun cdv A outer s H E hr => ?_
  have u1 := hu1 hr
  have u64 := hu64 hr
  have u65 := hu65 hr
  have po : PassesOwn (model P w) (A.deeper (PyProof.Rows.envOfC "Walker.streets" (defScope (inClass (topS 13) 4)) s.heap.objs.size f cdv)) (PyProof.Rows.envOfC "Walker.streets" (defScope (inClass (topS 13) 4)) s.heap.objs.size f cdv) (cxOf (L2N.CX P w) P w K mg base ["self", "#1", "#2"] "Walker.streets" (defScope (inClass (topS 13) 4)) f cdv A outer s H E).xe := passes_of (X := cxOf (L2N.CX P w) P w K mg base ["self", "#1", "#2"] "Walker.streets" (defScope (inClass (topS 13) 4)) f cdv A outer s H E) rfl
  have tk : L2N.Takes (cxOf (L2N.CX P w) P w K mg base ["self", "#1", "#2"] "Walker.streets" (defScope (inClass (topS 13) 4)) f cdv A outer s H E) (fun cls d _ H => E cls d H) := L2N.takes_of rfl rfl rfl rfl
  exact ⟨_, (ss_one (ss_ret (se_ct (ck_tuple K rfl) (cgk_tuple K) (by rfl) B.tuple (by rfl) (sr_cons (se_fldS (j := 1) Wc (se_var 0)) sr_nil))))⟩
theorem ok_Walker_path {T : AS} {f : Addr} {fd : FuncData} (F : Fun K "path" "Walker.path" (inClass (topS 13) 5) f fd) (B : Bn mg) (Wc : WCls K c_Walker) : FnOk P w K mg base (L2N.CX P w) 1 f fd ["self"] (spM K T c_Walker 0 F_Walker_path) := by
  refine fn_m (k := 0) F sc_Walker_path (by decide) (by decide) rfl rfl nv1_Walker_path nv2_Walker_path fun cdv A outer s H E hr => ?_
  have u1 := hu1 hr
  have u64 := hu64 hr
  have u65 := hu65 hr
  have po : PassesOwn (model P w) (A.deeper (PyProof.Rows.envOfC "Walker.path" (defScope (inClass (topS 13) 5)) s.heap.objs.size f cdv)) (PyProof.Rows.envOfC "Walker.path" (defScope (inClass (topS 13) 5)) s.heap.objs.size f cdv) (cxOf (L2N.CX P w) P w K mg base ["self", "#1", "#2"] "Walker.path" (defScope (inClass (topS 13) 5)) f cdv A outer s H E).xe := passes_of (X := cxOf (L2N.CX P w) P w K mg base ["self", "#1", "#2"] "Walker.path" (defScope (inClass (topS 13) 5)) f cdv A outer s H E) rfl
  have tk : L2N.Takes (cxOf (L2N.CX P w) P w K mg base ["self", "#1", "#2"] "Walker.path" (defScope (inClass (topS 13) 5)) f cdv A outer s H E) (fun cls d _ H => E cls d H) := L2N.takes_of rfl rfl rfl rfl
  exact ⟨_, (ss_one (ss_ret (se_ct (ck_tuple K rfl) (cgk_tuple K) (by rfl) B.tuple (by rfl) (sr_cons (se_fldP (j := 2) Wc (se_var 0)) sr_nil))))⟩
theorem ok_is_spot {T : AS} {f : Addr} {fd : FuncData} {f0 : Addr} {fd0 : FuncData} (F : Fun K "is_spot" "is_spot" (topS 8) f fd) (B : Bn mg) (C_is_number : Cal P w K mg base T "is_number" 1 ["value", "low", "high"] F_is_number f0 fd0) : FnOk P w K mg base (L2N.CX P w) 2 f fd ["width", "height", "value"] (spF K T 3 F_is_spot) := by
  refine fn_pv (k := 1) F sc_is_spot fun cdv A outer s H E hr => ?_
  have u1 := hu1 hr
  have u64 := hu64 hr
  have u65 := hu65 hr
  have po : PassesOwn (model P w) (A.deeper (PyProof.Rows.envOfC "is_spot" (defScope (topS 8)) s.heap.objs.size f cdv)) (PyProof.Rows.envOfC "is_spot" (defScope (topS 8)) s.heap.objs.size f cdv) (cxOf (L2N.CX P w) P w K mg base ["width", "height", "value"] "is_spot" (defScope (topS 8)) f cdv A outer s H E).xe := passes_of (X := cxOf (L2N.CX P w) P w K mg base ["width", "height", "value"] "is_spot" (defScope (topS 8)) f cdv A outer s H E) rfl
  have tk : L2N.Takes (cxOf (L2N.CX P w) P w K mg base ["width", "height", "value"] "is_spot" (defScope (topS 8)) f cdv A outer s H E) (fun cls d _ H => E cls d H) := L2N.takes_of rfl rfl rfl rfl
  exact ⟨_, (ss_cons (ss_if (SW.st (sw_or (st_not (st_truthk K rfl (se_isik K rfl (se_var 2) (T := "tuple") (by rfl) (by rfl) B.isinstance (by rfl) B.tuple (by rfl)))) (sw_or1 (st_cmp (ok_ne K rfl u64) og_ne (se_cb (ck_len K rfl) cg_len (by rfl) B.len PySem.boot_len (sr_cons (se_var 2) sr_nil)) se_int (nomark _))))) (ss_one (ss_ret se_bl)) ss_nil)
      (ss_one (ss_ret (se_and (se_callK K rfl C_is_number (hr.mono (by decide)) tk (by rfl) (sc_cons (se_ixk K rfl (se_var 2) se_int) (sc_cons se_int (sc_cons (se_op op_sub og_sub (se_var 0) se_int) sc_nil)))) (se_one (se_callK K rfl C_is_number (hr.mono (by decide)) tk (by rfl) (sc_cons (se_ixk K rfl (se_var 2) se_int) (sc_cons se_int (sc_cons (se_op op_sub og_sub (se_var 1) se_int) sc_nil)))))))))⟩
theorem ok_wrong_town {T : AS} {f : Addr} {fd : FuncData} {f0 : Addr} {fd0 : FuncData} {f1 : Addr} {fd1 : FuncData} {t_MOST_SIDE : Tok} (F : Fun K "wrong_town" "wrong_town" (topS 9) f fd) (B : Bn mg) (C_is_number : Cal P w K mg base T "is_number" 1 ["value", "low", "high"] F_is_number f0 fd0) (C_is_spot : Cal P w K mg base T "is_spot" 2 ["width", "height", "value"] F_is_spot f1 fd1) (m_MOST_SIDE : mg "MOST_SIDE" = some (.int 12 t_MOST_SIDE)) : FnOk P w K mg base (L2N.CX P w) 3 f fd ["value"] (spF K T 1 F_wrong_town) := by
  refine fn_pv (k := 2) F sc_wrong_town fun cdv A outer s H E hr => ?_
  have u1 := hu1 hr
  have u64 := hu64 hr
  have u65 := hu65 hr
  have po : PassesOwn (model P w) (A.deeper (PyProof.Rows.envOfC "wrong_town" (defScope (topS 9)) s.heap.objs.size f cdv)) (PyProof.Rows.envOfC "wrong_town" (defScope (topS 9)) s.heap.objs.size f cdv) (cxOf (L2N.CX P w) P w K mg base ["value", "width", "height", "first", "second"] "wrong_town" (defScope (topS 9)) f cdv A outer s H E).xe := passes_of (X := cxOf (L2N.CX P w) P w K mg base ["value", "width", "height", "first", "second"] "wrong_town" (defScope (topS 9)) f cdv A outer s H E) rfl
  have tk : L2N.Takes (cxOf (L2N.CX P w) P w K mg base ["value", "width", "height", "first", "second"] "wrong_town" (defScope (topS 9)) f cdv A outer s H E) (fun cls d _ H => E cls d H) := L2N.takes_of rfl rfl rfl rfl
  exact ⟨_, (ss_cons (ss_if (SW.st (sw_or (st_not (st_truthk K rfl (se_isik K rfl (se_var 0) (T := "tuple") (by rfl) (by rfl) B.isinstance (by rfl) B.tuple (by rfl)))) (sw_or1 (st_cmp (ok_ne K rfl u64) og_ne (se_cb (ck_len K rfl) cg_len (by rfl) B.len PySem.boot_len (sr_cons (se_var 0) sr_nil)) se_int (nomark _))))) (ss_one (ss_ret se_str)) ss_nil)
      (ss_cons (ss_asg (se_var 0) (sg_tupk K rfl (n := 4) rfl (sgs_cons (sg_name (i := 1) sc_wrong_town.nd rfl (by first | exact .inl rfl | exact .inr rfl)) (sgs_cons (sg_name (i := 2) sc_wrong_town.nd rfl (by first | exact .inl rfl | exact .inr rfl)) (sgs_cons (sg_name (i := 3) sc_wrong_town.nd rfl (by first | exact .inl rfl | exact .inr rfl)) (sgs_cons (sg_name (i := 4) sc_wrong_town.nd rfl (by first | exact .inl rfl | exact .inr rfl)) sgs_nil))))))
      (ss_cons (ss_if (SW.st (sw_or (st_not (st_truthk K rfl (se_callK K rfl C_is_number (hr.mono (by decide)) tk (by rfl) (sc_consF (se_var 1) (sc_cons se_int (sc_consF (se_globI (by rfl) m_MOST_SIDE) sc_nil)))))) (sw_or (st_not (st_truthk K rfl (se_callK K rfl C_is_number (hr.mono (by decide)) tk (by rfl) (sc_consF (se_var 2) (sc_cons se_int (sc_consF (se_globI (by rfl) m_MOST_SIDE) sc_nil)))))) (sw_or1 (st_cmp op_lt (og_cmp _) (se_op (ok_mul K rfl) og_mul (se_var 1) (se_var 2)) se_int (nomark _)))))) (ss_one (ss_ret se_str)) ss_nil)
      (ss_cons (ss_if (SW.st (sw_or (st_not (st_truthk K rfl (se_callK K rfl C_is_spot (hr.mono (by decide)) tk (by rfl) (sc_consF (se_var 1) (sc_consF (se_var 2) (sc_consF (se_var 3) sc_nil)))))) (sw_or (st_not (st_truthk K rfl (se_callK K rfl C_is_spot (hr.mono (by decide)) tk (by rfl) (sc_consF (se_var 1) (sc_consF (se_var 2) (sc_consF (se_var 4) sc_nil)))))) (sw_or1 (st_cmp (ok_eq K rfl u64) og_eq (se_var 3) (se_var 4) (nomark _)))))) (ss_one (ss_ret se_str)) ss_nil)
      (ss_one (ss_ret se_non))))))⟩
theorem ok_need_town {T : AS} {f : Addr} {fd : FuncData} {f0 : Addr} {fd0 : FuncData} {xi_BadTown : Addr} {xd_BadTown : FuncData} (F : Fun K "need_town" "need_town" (topS 10) f fd) (B : Bn mg) (C_wrong_town : Cal P w K mg base T "wrong_town" 3 ["value"] F_wrong_town f0 fd0) (D_BadTown : XFld P w K mg base "BadTown" c_BadTown "part" 1 xi_BadTown xd_BadTown) : FnOk P w K mg base (L2N.CX P w) 4 f fd ["value"] (spF K T 1 F_need_town) := by
  refine fn_pv (k := 3) F sc_need_town fun cdv A outer s H E hr => ?_
  have u1 := hu1 hr
  have u64 := hu64 hr
  have u65 := hu65 hr
  have po : PassesOwn (model P w) (A.deeper (PyProof.Rows.envOfC "need_town" (defScope (topS 10)) s.heap.objs.size f cdv)) (PyProof.Rows.envOfC "need_town" (defScope (topS 10)) s.heap.objs.size f cdv) (cxOf (L2N.CX P w) P w K mg base ["value", "word"] "need_town" (defScope (topS 10)) f cdv A outer s H E).xe := passes_of (X := cxOf (L2N.CX P w) P w K mg base ["value", "word"] "need_town" (defScope (topS 10)) f cdv A outer s H E) rfl
  have tk : L2N.Takes (cxOf (L2N.CX P w) P w K mg base ["value", "word"] "need_town" (defScope (topS 10)) f cdv A outer s H E) (fun cls d _ H => E cls d H) := L2N.takes_of rfl rfl rfl rfl
  exact ⟨_, (ss_cons (ss_set (i := 1) sc_need_town.nd rfl (by first | exact .inl rfl | exact .inr rfl) (se_callK K rfl C_wrong_town (hr.mono (by decide)) tk (by rfl) (sc_consF (se_var 0) sc_nil)))
      (ss_one (ss_if (st_cmp op_isNotA og_isNot (se_var 1) se_non (nomark _)) (ss_one (ss_raiseX rfl tk D_BadTown (hr.mono (by decide)) (by rfl) (sa_cons (se_var 1) sa_nil))) ss_nil)))⟩
theorem ok_Walker___init__ {T : AS} {f : Addr} {fd : FuncData} {f0 : Addr} {fd0 : FuncData} (F : Fun K "__init__" "Walker.__init__" (inClass (topS 13) 0) f fd) (B : Bn mg) (C_need_town : Cal P w K mg base T "need_town" 4 ["value"] F_need_town f0 fd0) (Wc : WCls K c_Walker) : FnOk P w K mg base (L2N.CX P w) 5 f fd ["self", "town"] (spI K T c_Walker F_need_town) := by
  obtain ⟨oc, od, kV, doc, pm, an, cdv, ct, osl, rfl, lk, hcd⟩ := F.ex
  refine fn_of (k := 4) lk hcd sc_Walker___init__ spI_len fun A outer s H vs Q E hr hsp => ?_
  have u1 := hu1 hr
  have u64 := hu64 hr
  have u65 := hu65 hr
  have po : PassesOwn (model P w) (A.deeper (PyProof.Rows.envOfC "Walker.__init__" (defScope (inClass (topS 13) 0)) s.heap.objs.size f cdv)) (PyProof.Rows.envOfC "Walker.__init__" (defScope (inClass (topS 13) 0)) s.heap.objs.size f cdv) (cxOf (L2N.CX P w) P w K mg base ["self", "town"] "Walker.__init__" (defScope (inClass (topS 13) 0)) f cdv A outer s H E).xe := passes_of (X := cxOf (L2N.CX P w) P w K mg base ["self", "town"] "Walker.__init__" (defScope (inClass (topS 13) 0)) f cdv A outer s H E) rfl
  have tk : L2N.Takes (cxOf (L2N.CX P w) P w K mg base ["self", "town"] "Walker.__init__" (defScope (inClass (topS 13) 0)) f cdv A outer s H E) (fun cls d _ H => E cls d H) := L2N.takes_of rfl rfl rfl rfl

  exact init_go (X := (cxOf (L2N.CX P w) P w K mg base ["self", "town"] "Walker.__init__" (defScope (inClass (topS 13) 0)) f cdv A outer s H E)) (W := ⟨fun cls d _ H => E cls d H, T⟩) rfl (se_callK K rfl C_need_town (hr.mono (by decide)) tk (by rfl) (sc_consF (se_var 1) sc_nil)) Wc (fun _ _ _ _ h => h) hsp rfl rfl (by first | exact Or.inl rfl | exact Or.inr (Or.inl rfl) | exact Or.inr (Or.inr rfl)) (by first | exact Or.inl rfl | exact Or.inr (Or.inl rfl) | exact Or.inr (Or.inr rfl)) rfl rfl rfl rfl
theorem ok_law {T : AS} {f : Addr} {fd : FuncData} {f0 : Addr} {fd0 : FuncData} {f1 : Addr} {fd1 : FuncData} {f2 : Addr} {fd2 : FuncData} {f3 : Addr} {fd3 : FuncData} {f4 : Addr} {fd4 : FuncData} {f5 : Addr} {fd5 : FuncData} {m0 : Addr} {md0 : FuncData} {m1 : Addr} {md1 : FuncData} {m2 : Addr} {md2 : FuncData} {pp0 pf0 : Addr} {pd0 : FuncData} {pp1 pf1 : Addr} {pd1 : FuncData} {mk : Addr} {mkd : FuncData} (F : Fun K "law" "law" (topS 21) f fd) (B : Bn mg) (C__law_town : Cal P w K mg base T "_law_town" 3 ["_law_row", "_law_side", "_law_most"] F_law_town f0 fd0) (C__law_taken : Cal P w K mg base T "_law_taken" 1 ["_law_row", "_law_many"] F_law_taken f1 fd1) (C__law_pick : Cal P w K mg base T "_law_pick" 2 ["_law_row", "_law_things"] F_law_pick f2 fd2) (C__law_led : Cal P w K mg base T "_law_led" 1 ["_law_town_here", "_law_place", "_law_step"] F_law_led f3 fd3) (C__law_crossings : Cal P w K mg base T "_law_crossings" 1 ["_law_town_here"] F_law_crossings f4 fd4) (C__law_alike : Cal P w K mg base T "_law_alike" 7 ["_law_found", "_law_due"] (F_law_alike 6) f5 fd5) (Wc : WCls K c_Walker) (M_Walker_undo : CalM P w K mg base T c_Walker "undo" 1 ["self"] 0 F_Walker_undo m0 md0) (M_Walker_go : CalM P w K mg base T c_Walker "go" 2 ["self", "street"] 1 F_Walker_go m1 md1) (M_Walker_missing : CalM P w K mg base T c_Walker "missing" 1 ["self"] 0 F_Walker_missing m2 md2) (P_Walker_streets : CalP P w K mg base T c_Walker "streets" 1 ["self"] F_Walker_streets pp0 pf0 pd0) (P_Walker_path : CalP P w K mg base T c_Walker "path" 1 ["self"] F_Walker_path pp1 pf1 pd1) (MK : CalI P w K mg base T c_Walker "Walker" 5 F_need_town mk mkd) (X_NoStep : XCls K mg "NoStep" c_NoStep) (X_BadNumber : XCls K mg "BadNumber" c_BadNumber) (N_BadTown : XNm K mg "BadTown" c_BadTown) {Fn : FN} (hG : ∀ ss, ss.length = 1 → Fn ss ≠ .bad → ∀ o, g_law (ss ++ List.replicate (15 - ss.length) .no) o → outFn o = Fn ss) : FnOk P w K mg base (L2N.CX P w) 8 f fd ["_law_script"] (spF K T 1 Fn) := by
  refine fn_pvD (k := 7) F sc_law hG fun cdv A outer s H E hr => ?_
  have u1 := hu1 hr
  have u64 := hu64 hr
  have u65 := hu65 hr
  have po : PassesOwn (model P w) (A.deeper (PyProof.Rows.envOfC "law" (defScope (topS 21)) s.heap.objs.size f cdv)) (PyProof.Rows.envOfC "law" (defScope (topS 21)) s.heap.objs.size f cdv) (cxOf (L2N.CX P w) P w K mg base ["_law_script", "_law_row", "_law_town_here", "_law_walker", "_law_line", "_law_turn", "_law_path", "_law_street", "_law_left", "e", "_law_good", "_law_told", "_law_place", "#1", "#2"] "law" (defScope (topS 21)) f cdv A outer s H E).xe := passes_of (X := cxOf (L2N.CX P w) P w K mg base ["_law_script", "_law_row", "_law_town_here", "_law_walker", "_law_line", "_law_turn", "_law_path", "_law_street", "_law_left", "e", "_law_good", "_law_told", "_law_place", "#1", "#2"] "law" (defScope (topS 21)) f cdv A outer s H E) rfl
  have tk : L2N.Takes (cxOf (L2N.CX P w) P w K mg base ["_law_script", "_law_row", "_law_town_here", "_law_walker", "_law_line", "_law_turn", "_law_path", "_law_street", "_law_left", "e", "_law_good", "_law_told", "_law_place", "#1", "#2"] "law" (defScope (topS 21)) f cdv A outer s H E) (fun cls d _ H => E cls d H) := L2N.takes_of rfl rfl rfl rfl
  exact ⟨_, (sd_cons (ss_set (i := 1) sc_law.nd rfl (by first | exact .inl rfl | exact .inr rfl) (se_lst (sa_cons (se_var 0) (sa_cons se_int (sa_cons se_int (sa_cons se_int sa_nil))))))
      (sd_cons (ss_set (i := 2) sc_law.nd rfl (by first | exact .inl rfl | exact .inr rfl) (se_callK K rfl C__law_town (hr.mono (by decide)) tk (by rfl) (sc_cons (se_var 1) (sc_cons se_int (sc_cons se_int sc_nil)))))
      (sd_consD (sd_mkPar (i := 3) (l := 4) (j := 13) K rfl MK.mks MK.ok (hr.mono (by decide)) MK.bi (by rfl) MK.mg rfl (sa_cons (se_var 2) sa_nil) sc_law.nd rfl rfl (by decide) rfl rfl rfl rfl nv1_law nv2_law (by rfl))
      (sd_of (ss_cons (ss_for po rfl (si_range1 (by rfl) B.range (sr_cons (se_callK K rfl C__law_taken (hr.mono (by decide)) tk (by rfl) (sc_cons (se_var 1) (sc_cons se_int sc_nil))) sr_nil)) (sg_name (i := 5) sc_law.nd rfl (by first | exact .inl rfl | exact .inr rfl)) (ss_cons (ss_if (st_cmp (ok_eq K rfl u64) og_eq (se_callK K rfl C__law_taken (hr.mono (by decide)) tk (by rfl) (sc_cons (se_var 1) (sc_cons se_int sc_nil))) se_int (nomark _)) (ss_cons (ss_tryAs (i := 9) rfl rfl sc_law.nd rfl rfl X_NoStep.nm (by rfl) (by decide) tk (fun w pn xe tk po => (ss_one (ss_set (i := 11) sc_law.nd rfl (by first | exact .inl rfl | exact .inr rfl) (se_meth0 (j := 13) K rfl Wc M_Walker_undo.me M_Walker_undo.ok (hr.mono (by decide)) M_Walker_undo.bi tk ⟨by decide +kernel, by decide +kernel, by decide +kernel⟩ (se_var 3))))) (fun a oe pn hc => (ss_one (ss_set (i := 11) sc_law.nd rfl (by first | exact .inl rfl | exact .inr rfl) se_str))))
      (ss_cons (ss_if (st_cmp (ok_ne K rfl u64) og_ne (se_var 11) (se_if (st_cmp (ok_ne K rfl u64) og_ne (se_var 4) (se_tup sa_nil) (nomark _)) se_non se_str) (nomark _)) (ss_one (ss_ret se_bl)) ss_nil)
      (ss_one (ss_set (i := 4) sc_law.nd rfl (by first | exact .inl rfl | exact .inr rfl) (se_slk K rfl (se_var 4) spo_none (spo_some (se_neg se_int))))))) (ss_cons (ss_set (i := 7) sc_law.nd rfl (by first | exact .inl rfl | exact .inr rfl) (se_callK K rfl C__law_pick (hr.mono (by decide)) tk (by rfl) (sc_cons (se_var 1) (sc_cons (se_lst (sa_cons se_int (sa_cons se_int (sa_cons se_int (sa_cons se_int (sa_cons se_int (sa_cons se_int (sa_cons se_non (sa_cons se_int (sa_cons se_int (sa_cons se_bl (sa_cons se_str sa_nil)))))))))))) sc_nil))))
      (ss_cons (ss_set (i := 10) sc_law.nd rfl (by first | exact .inl rfl | exact .inr rfl) (se_and (se_cmp (ok_in K rfl u65) og_in (se_var 7) (se_lst (sa_cons se_int (sa_cons se_int sa_nil))) (by rfl)) (se_one (se_notV (se_isik K rfl (se_var 7) (T := "bool") (by rfl) (by rfl) B.isinstance (by rfl) B.bool (by rfl))))))
      (ss_cons (ss_tryAs (i := 9) rfl rfl sc_law.nd rfl rfl X_BadNumber.nm (by rfl) (by decide) tk (fun w pn xe tk po => (ss_one (ss_set (i := 11) sc_law.nd rfl (by first | exact .inl rfl | exact .inr rfl) (se_meth (j := 13) K rfl Wc M_Walker_go.me M_Walker_go.ok (hr.mono (by decide)) M_Walker_go.bi tk ⟨by decide +kernel, by decide +kernel, by decide +kernel⟩ (se_var 3) (sa_cons (se_var 7) sa_nil) rfl len1)))) (fun a oe pn hc => (ss_one (ss_set (i := 11) sc_law.nd rfl (by first | exact .inl rfl | exact .inr rfl) se_str))))
      (ss_cons (ss_if (st_cmp (ok_ne K rfl u64) og_ne (se_var 11) (se_if (st_truthk K rfl (se_var 10)) se_non se_str) (nomark _)) (ss_one (ss_ret se_bl)) ss_nil)
      (ss_one (ss_set (i := 4) sc_law.nd rfl (by first | exact .inl rfl | exact .inr rfl) (se_if (st_truthk K rfl (se_var 10)) (se_op (ok_add K rfl) og_add (se_var 4) (se_tup (sa_cons (se_var 7) sa_nil))) (se_var 4)))))))))
      (ss_cons (ss_set (i := 6) sc_law.nd rfl (by first | exact .inl rfl | exact .inr rfl) (se_lst (sa_cons (se_tup (sa_cons se_int (sa_cons se_int sa_nil))) sa_nil)))
      (ss_cons (ss_for po rfl (si_seqk K rfl (se_var 4)) (sg_name (i := 7) sc_law.nd rfl (by first | exact .inl rfl | exact .inr rfl)) (ss_one (ss_expr (se_append (se_var 6) (se_callK K rfl C__law_led (hr.mono (by decide)) tk (by rfl) (sc_consF (se_var 2) (sc_cons (se_ixk K rfl (se_var 6) (se_neg se_int)) (sc_cons (se_ixk K rfl (se_var 2) (se_op (ok_add K rfl) og_add se_int (se_var 7))) sc_nil))))))))
      (ss_cons (ss_setLc (own := [("_law_place", 12)]) (i := 8) rfl sc_law.nd rfl rfl (sw_true rfl rfl rfl (by decide +kernel)) (si_seqk K rfl (se_callK K rfl C__law_crossings (hr.mono (by decide)) tk (by rfl) (sc_consF (se_var 2) sc_nil))) (blkOk_by (N := ["_law_script", "_law_row", "_law_town_here", "_law_walker", "_law_line", "_law_turn", "_law_path", "_law_street", "_law_left", "e", "_law_good", "_law_told", "_law_place", "#1", "#2"]) (sc := defScope (topS 21)) (by decide +kernel)) ⟨fun _ _ _ _ _ => (sg_name (i := 12) sc_law.nd rfl (by first | exact .inl rfl | exact .inr rfl)), fun _ _ _ _ _ => (sts_one (st_cmp (ok_notIn K rfl u65) og_notIn (se_var 12) (se_var 6) (by rfl))), fun _ _ _ _ _ => (se_var 12)⟩ (by decide))
      (ss_one (ss_if (st_not (st_truthk K rfl (se_callK K rfl C__law_alike (hr.mono (by decide)) tk (by rfl) (sc_cons (se_lst (sa_cons (se_prop (j := 13) K rfl Wc P_Walker_streets.pr P_Walker_streets.ok (hr.mono (by decide)) P_Walker_streets.bi (se_var 3)) (sa_cons (se_prop (j := 13) K rfl Wc P_Walker_path.pr P_Walker_path.ok (hr.mono (by decide)) P_Walker_path.bi (se_var 3)) (sa_cons (se_meth0 (j := 13) K rfl Wc M_Walker_missing.me M_Walker_missing.ok (hr.mono (by decide)) M_Walker_missing.bi tk ⟨by decide +kernel, by decide +kernel, by decide +kernel⟩ (se_var 3)) sa_nil)))) (sc_cons (se_lst (sa_cons (se_var 4) (sa_cons (se_ct (ck_tuple K rfl) (cgk_tuple K) (by rfl) B.tuple (by rfl) (sr_cons (se_var 6) sr_nil)) (sa_cons (se_cb (ck_len K rfl) cg_len (by rfl) B.len PySem.boot_len (sr_cons (se_var 8) sr_nil)) sa_nil)))) sc_nil))))) (ss_one (ss_ret se_bl)) ss_nil)))))))
      (ss_cons (ss_tryAs (i := 9) rfl rfl sc_law.nd rfl rfl N_BadTown (by rfl) (by decide) tk (fun w pn xe tk po => (ss_one (ss_makeX K rfl MK.mks MK.ok (hr.mono (by decide)) MK.bi tk (by rfl) MK.mg (sa_cons (se_callK K rfl C__law_pick (hr.mono (by decide)) tk (by rfl) (sc_cons (se_var 1) (sc_cons (se_lst (sa_cons se_non (sa_cons (se_tup sa_nil) (sa_cons (se_tup (sa_cons se_int (sa_cons se_int (sa_cons (se_tup (sa_cons se_int (sa_cons se_int sa_nil))) (sa_cons (se_tup (sa_cons se_int (sa_cons se_int sa_nil))) sa_nil))))) (sa_cons (se_tup (sa_cons se_int (sa_cons se_int (sa_cons (se_tup (sa_cons se_int (sa_cons se_int sa_nil))) (sa_cons (se_tup (sa_cons se_int (sa_cons se_int sa_nil))) sa_nil))))) (sa_cons (se_lst (sa_cons se_int (sa_cons se_int (sa_cons (se_tup (sa_cons se_int (sa_cons se_int sa_nil))) (sa_cons (se_tup (sa_cons se_int (sa_cons se_int sa_nil))) sa_nil))))) sa_nil)))))) sc_nil))) sa_nil)))) (fun a oe pn hc => (ss_one (ss_ret se_bl))))
      (ss_one (ss_ret se_bl))))))))⟩
end
theorem all_mk {l : PySem.W.OpenLaw} {w : World} {K : PySem.W.Frag} {h : Heap} {mg : Str → Option Value} {fa f0 f1 f2 f3 f4 f5 f6 f7 f8 f9 f10 f11 f12 f13 f14 f15 f16 f17 : Addr} (X : K.In h) (G : h.Ns mainGlobals mg) (hfa : mg "law" = some (.ref fa))
    {od0 an0 od1 an1 od2 an2 od3 an3 od4 an4 od5 an5 od6 an6 od7 an7 od8 an8 od9 an9 od10 an10 od11 an11 od12 an12 od13 an13 od14 an14 od15 an15 od16 an16 od17 an17 : Option Addr} {sl0 sl1 sl2 sl3 sl4 sl5 sl6 sl7 sl8 sl9 sl10 sl11 sl12 sl13 sl14 sl15 sl16 sl17 : Array (Option Value)} {oc0 kV0 dc0 pm0 cd0 ct0 oc1 kV1 dc1 pm1 cd1 ct1 oc2 kV2 dc2 pm2 cd2 ct2 oc3 kV3 dc3 pm3 cd3 ct3 oc4 kV4 dc4 pm4 cd4 ct4 oc5 kV5 dc5 pm5 cd5 ct5 oc6 kV6 dc6 pm6 cd6 ct6 oc7 kV7 dc7 pm7 cd7 ct7 oc8 kV8 dc8 pm8 cd8 ct8 oc9 kV9 dc9 pm9 cd9 ct9 oc10 kV10 dc10 pm10 cd10 ct10 oc11 kV11 dc11 pm11 cd11 ct11 oc12 kV12 dc12 pm12 cd12 ct12 oc13 kV13 dc13 pm13 cd13 ct13 oc14 kV14 dc14 pm14 cd14 ct14 oc15 kV15 dc15 pm15 cd15 ct15 oc16 kV16 dc16 pm16 cd16 ct16 oc17 kV17 dc17 pm17 cd17 ct17 : Value} {t_MOST_SIDE : Tok}
    {xnm_BadTown xq_BadTown : Str} {xN_BadTown xi_BadTown xcd_BadTown xcc_BadTown : Addr} {xbs_BadTown xbm_BadTown xsu_BadTown : List Value} {xsn_BadTown : List Str} {xab_BadTown : Bool} {xcol_BadTown : Option Bool} {xdd_BadTown xan_BadTown xod_BadTown xcdd_BadTown xcld_BadTown : Option Addr} {xk0_BadTown xk1_BadTown xk2_BadTown xk3_BadTown xk5_BadTown : Option Value} {xoc_BadTown xkV_BadTown xdo_BadTown xpm_BadTown xct_BadTown xccl_BadTown xcl_BadTown : Value} {xsl_BadTown xccs_BadTown xcsl_BadTown : Array (Option Value)} {xvs_BadTown : Array Value} {xfile_BadTown : Str} {xtf_BadTown : Tok}
    {pp11 pp12 : Addr} {rst11 rst12 : List Value}
    (a0 : PySem.W.nsIn K mainGlobals "_law_taken" = some (some (.ref f0))) (l0 : K.lookup f0 = some ⟨oc0, od0, .func (PySem.W.fnOf "_law_taken" "_law_taken" (defArgs (topS 15)) (defBody (topS 15)) (defScope (topS 15)) .none kV0 dc0 pm0 an0 cd0 ct0), sl0⟩) (c0 : PySem.W.codeIn K cd0 "_law_taken" = true) (k0 : PySem.W.keepIn K (.ref f0) = true)
    (a1 : PySem.W.nsIn K mainGlobals "_law_crossings" = some (some (.ref f1))) (l1 : K.lookup f1 = some ⟨oc1, od1, .func (PySem.W.fnOf "_law_crossings" "_law_crossings" (defArgs (topS 19)) (defBody (topS 19)) (defScope (topS 19)) .none kV1 dc1 pm1 an1 cd1 ct1), sl1⟩) (c1 : PySem.W.codeIn K cd1 "_law_crossings" = true) (k1 : PySem.W.keepIn K (.ref f1) = true)
    (a2 : PySem.W.nsIn K mainGlobals "_law_pick" = some (some (.ref f2))) (l2 : K.lookup f2 = some ⟨oc2, od2, .func (PySem.W.fnOf "_law_pick" "_law_pick" (defArgs (topS 16)) (defBody (topS 16)) (defScope (topS 16)) .none kV2 dc2 pm2 an2 cd2 ct2), sl2⟩) (c2 : PySem.W.codeIn K cd2 "_law_pick" = true) (k2 : PySem.W.keepIn K (.ref f2) = true)
    (a3 : PySem.W.nsIn K mainGlobals "_law_town" = some (some (.ref f3))) (l3 : K.lookup f3 = some ⟨oc3, od3, .func (PySem.W.fnOf "_law_town" "_law_town" (defArgs (topS 18)) (defBody (topS 18)) (defScope (topS 18)) .none kV3 dc3 pm3 an3 cd3 ct3), sl3⟩) (c3 : PySem.W.codeIn K cd3 "_law_town" = true) (k3 : PySem.W.keepIn K (.ref f3) = true)
    (a4 : PySem.W.nsIn K mainGlobals "_law_led" = some (some (.ref f4))) (l4 : K.lookup f4 = some ⟨oc4, od4, .func (PySem.W.fnOf "_law_led" "_law_led" (defArgs (topS 20)) (defBody (topS 20)) (defScope (topS 20)) .none kV4 dc4 pm4 an4 cd4 ct4), sl4⟩) (c4 : PySem.W.codeIn K cd4 "_law_led" = true) (k4 : PySem.W.keepIn K (.ref f4) = true)
    (a5 : PySem.W.nsIn K mainGlobals "_law_alike" = some (some (.ref f5))) (l5 : K.lookup f5 = some ⟨oc5, od5, .func (PySem.W.fnOf "_law_alike" "_law_alike" (defArgs (topS 17)) (defBody (topS 17)) (defScope (topS 17)) .none kV5 dc5 pm5 an5 cd5 ct5), sl5⟩) (c5 : PySem.W.codeIn K cd5 "_law_alike" = true) (k5 : PySem.W.keepIn K (.ref f5) = true)
    (a6 : PySem.W.findIn K (.ref c_Walker) "undo" = some (some (.ref f6))) (i6 : PySem.W.isFn K (.ref f6) = true)
    (l6 : K.lookup f6 = some ⟨oc6, od6, .func (PySem.W.fnOf "undo" "Walker.undo" (defArgs (inClass (topS 13) 2)) (defBody (inClass (topS 13) 2)) (defScope (inClass (topS 13) 2)) .none kV6 dc6 pm6 an6 cd6 ct6), sl6⟩) (c6 : PySem.W.codeIn K cd6 "Walker.undo" = true) (k6 : PySem.W.keepIn K (.ref f6) = true)
    (a7 : PySem.W.nsIn K mainGlobals "is_number" = some (some (.ref f7))) (l7 : K.lookup f7 = some ⟨oc7, od7, .func (PySem.W.fnOf "is_number" "is_number" (defArgs (topS 7)) (defBody (topS 7)) (defScope (topS 7)) .none kV7 dc7 pm7 an7 cd7 ct7), sl7⟩) (c7 : PySem.W.codeIn K cd7 "is_number" = true) (k7 : PySem.W.keepIn K (.ref f7) = true)
    (a8 : PySem.W.nsIn K mainGlobals "added" = some (some (.ref f8))) (l8 : K.lookup f8 = some ⟨oc8, od8, .func (PySem.W.fnOf "added" "added" (defArgs (topS 11)) (defBody (topS 11)) (defScope (topS 11)) .none kV8 dc8 pm8 an8 cd8 ct8), sl8⟩) (c8 : PySem.W.codeIn K cd8 "added" = true) (k8 : PySem.W.keepIn K (.ref f8) = true)
    (a9 : PySem.W.findIn K (.ref c_Walker) "go" = some (some (.ref f9))) (i9 : PySem.W.isFn K (.ref f9) = true)
    (l9 : K.lookup f9 = some ⟨oc9, od9, .func (PySem.W.fnOf "go" "Walker.go" (defArgs (inClass (topS 13) 1)) (defBody (inClass (topS 13) 1)) (defScope (inClass (topS 13) 1)) .none kV9 dc9 pm9 an9 cd9 ct9), sl9⟩) (c9 : PySem.W.codeIn K cd9 "Walker.go" = true) (k9 : PySem.W.keepIn K (.ref f9) = true)
    (a10 : PySem.W.findIn K (.ref c_Walker) "missing" = some (some (.ref f10))) (i10 : PySem.W.isFn K (.ref f10) = true)
    (l10 : K.lookup f10 = some ⟨oc10, od10, .func (PySem.W.fnOf "missing" "Walker.missing" (defArgs (inClass (topS 13) 3)) (defBody (inClass (topS 13) 3)) (defScope (inClass (topS 13) 3)) .none kV10 dc10 pm10 an10 cd10 ct10), sl10⟩) (c10 : PySem.W.codeIn K cd10 "Walker.missing" = true) (k10 : PySem.W.keepIn K (.ref f10) = true)
    (a11 : PySem.W.findIn K (.ref c_Walker) "streets" = some (some (.ref pp11))) (pg11 : PySem.W.specialIn K (.ref pp11) "__get__" = some (some (.builtin "property.__get__"))) (pt11 : PySem.W.takesIn K (.ref pp11) = some true) (pr11 : PySem.W.recIn K pp11 "property" = some (.ref f11 :: rst11))
    (l11 : K.lookup f11 = some ⟨oc11, od11, .func (PySem.W.fnOf "streets" "Walker.streets" (defArgs (inClass (topS 13) 4)) (defBody (inClass (topS 13) 4)) (defScope (inClass (topS 13) 4)) .none kV11 dc11 pm11 an11 cd11 ct11), sl11⟩) (c11 : PySem.W.codeIn K cd11 "Walker.streets" = true) (k11 : PySem.W.keepIn K (.ref f11) = true)
    (a12 : PySem.W.findIn K (.ref c_Walker) "path" = some (some (.ref pp12))) (pg12 : PySem.W.specialIn K (.ref pp12) "__get__" = some (some (.builtin "property.__get__"))) (pt12 : PySem.W.takesIn K (.ref pp12) = some true) (pr12 : PySem.W.recIn K pp12 "property" = some (.ref f12 :: rst12))
    (l12 : K.lookup f12 = some ⟨oc12, od12, .func (PySem.W.fnOf "path" "Walker.path" (defArgs (inClass (topS 13) 5)) (defBody (inClass (topS 13) 5)) (defScope (inClass (topS 13) 5)) .none kV12 dc12 pm12 an12 cd12 ct12), sl12⟩) (c12 : PySem.W.codeIn K cd12 "Walker.path" = true) (k12 : PySem.W.keepIn K (.ref f12) = true)
    (a13 : PySem.W.nsIn K mainGlobals "is_spot" = some (some (.ref f13))) (l13 : K.lookup f13 = some ⟨oc13, od13, .func (PySem.W.fnOf "is_spot" "is_spot" (defArgs (topS 8)) (defBody (topS 8)) (defScope (topS 8)) .none kV13 dc13 pm13 an13 cd13 ct13), sl13⟩) (c13 : PySem.W.codeIn K cd13 "is_spot" = true) (k13 : PySem.W.keepIn K (.ref f13) = true)
    (a14 : PySem.W.nsIn K mainGlobals "wrong_town" = some (some (.ref f14))) (l14 : K.lookup f14 = some ⟨oc14, od14, .func (PySem.W.fnOf "wrong_town" "wrong_town" (defArgs (topS 9)) (defBody (topS 9)) (defScope (topS 9)) .none kV14 dc14 pm14 an14 cd14 ct14), sl14⟩) (c14 : PySem.W.codeIn K cd14 "wrong_town" = true) (k14 : PySem.W.keepIn K (.ref f14) = true)
    (a15 : PySem.W.nsIn K mainGlobals "need_town" = some (some (.ref f15))) (l15 : K.lookup f15 = some ⟨oc15, od15, .func (PySem.W.fnOf "need_town" "need_town" (defArgs (topS 10)) (defBody (topS 10)) (defScope (topS 10)) .none kV15 dc15 pm15 an15 cd15 ct15), sl15⟩) (c15 : PySem.W.codeIn K cd15 "need_town" = true) (k15 : PySem.W.keepIn K (.ref f15) = true)
    (a16 : PySem.W.findIn K (.ref c_Walker) "__init__" = some (some (.ref f16))) (i16 : PySem.W.isFn K (.ref f16) = true)
    (l16 : K.lookup f16 = some ⟨oc16, od16, .func (PySem.W.fnOf "__init__" "Walker.__init__" (defArgs (inClass (topS 13) 0)) (defBody (inClass (topS 13) 0)) (defScope (inClass (topS 13) 0)) .none kV16 dc16 pm16 an16 cd16 ct16), sl16⟩) (c16 : PySem.W.codeIn K cd16 "Walker.__init__" = true) (k16 : PySem.W.keepIn K (.ref f16) = true)
    (a17 : PySem.W.nsIn K mainGlobals "law" = some (some (.ref f17))) (l17 : K.lookup f17 = some ⟨oc17, od17, .func (PySem.W.fnOf "law" "law" (defArgs (topS 21)) (defBody (topS 21)) (defScope (topS 21)) .none kV17 dc17 pm17 an17 cd17 ct17), sl17⟩) (c17 : PySem.W.codeIn K cd17 "law" = true) (k17 : PySem.W.keepIn K (.ref f17) = true)
    (z_int : PySem.W.nsIn K mainGlobals "int" = some none)
    (z_len : PySem.W.nsIn K mainGlobals "len" = some none)
    (z_range : PySem.W.nsIn K mainGlobals "range" = some none)
    (z_min : PySem.W.nsIn K mainGlobals "min" = some none)
    (z_isinstance : PySem.W.nsIn K mainGlobals "isinstance" = some none)
    (z_tuple : PySem.W.nsIn K mainGlobals "tuple" = some none)
    (z_list : PySem.W.nsIn K mainGlobals "list" = some none)
    (z_str : PySem.W.nsIn K mainGlobals "str" = some none)
    (z_bool : PySem.W.nsIn K mainGlobals "bool" = some none)
    (z_set : PySem.W.nsIn K mainGlobals "set" = some none)
    (g_MOST_SIDE : PySem.W.nsIn K mainGlobals "MOST_SIDE" = some (some (.int 12 t_MOST_SIDE)))
    (xa_NoStep : PySem.W.nsIn K mainGlobals "NoStep" = some (some (.ref c_NoStep))) (xk_NoStep : PySem.W.keepIn K (.ref c_NoStep) = true) (xe_NoStep : PySem.W.excIn K c_NoStep [.type "ValueError", .type "Exception", .type "BaseException", .type "object"] "ValueError.__new__" = true) (xs_NoStep : PySem.W.subIn K (.ref c_NoStep) (.type "BaseException") = some true) (xt_NoStep : PySem.W.typeIn K (.ref c_NoStep) = some (.type "type")) (xm_NoStep : PySem.W.exmOne K (.ref c_NoStep) (.ref c_NoStep) = some true)
    (xa_BadNumber : PySem.W.nsIn K mainGlobals "BadNumber" = some (some (.ref c_BadNumber))) (xk_BadNumber : PySem.W.keepIn K (.ref c_BadNumber) = true) (xe_BadNumber : PySem.W.excIn K c_BadNumber [.type "ValueError", .type "Exception", .type "BaseException", .type "object"] "ValueError.__new__" = true) (xs_BadNumber : PySem.W.subIn K (.ref c_BadNumber) (.type "BaseException") = some true) (xt_BadNumber : PySem.W.typeIn K (.ref c_BadNumber) = some (.type "type")) (xm_BadNumber : PySem.W.exmOne K (.ref c_BadNumber) (.ref c_BadNumber) = some true)
    (na_BadTown : PySem.W.nsIn K mainGlobals "BadTown" = some (some (.ref c_BadTown)))
    (nm_BadTown : PySem.W.exmOne K (.ref c_BadTown) (.ref c_BadTown) = some true)
    (o1_BadTown : K.lookup c_BadTown = some (excClassObj xnm_BadTown xq_BadTown c_BadTown xN_BadTown xbs_BadTown xbm_BadTown true xsn_BadTown xsu_BadTown xab_BadTown xcol_BadTown xdd_BadTown xk0_BadTown xk1_BadTown xk2_BadTown xk3_BadTown xk5_BadTown "ValueError.__new__")) (o2_BadTown : PySem.HandSPX.refsVE xbm_BadTown = true)
    (o3_BadTown : PySem.W.findIn K (.ref c_BadTown) "__setattr__" = some (some (.builtin "object.__setattr__"))) (o4_BadTown : PySem.W.subIn K (.ref c_BadTown) (.type "BaseException") = some true) (o5_BadTown : PySem.W.typeIn K (.ref c_BadTown) = some (.type "type")) (o6_BadTown : PySem.W.keepIn K (.ref c_BadTown) = true)
    (p1_BadTown : PySem.W.findIn K (.ref c_BadTown) "__init__" = some (some (.ref xi_BadTown))) (p2_BadTown : PySem.W.typeIn K (.ref xi_BadTown) = some (.type "function")) (p3_BadTown : K.lookup xi_BadTown = some ⟨xoc_BadTown, xod_BadTown, .func (PySem.W.ksFn "__init__" "BadTown.__init__" (defArgs (inClass (topS 2) 0)) (defBody (inClass (topS 2) 0)) (defScope (inClass (topS 2) 0)) .none xkV_BadTown xdo_BadTown xpm_BadTown xan_BadTown (.ref xcd_BadTown) xct_BadTown xcc_BadTown), xsl_BadTown⟩) (p4_BadTown : PySem.W.codeIn K (.ref xcd_BadTown) "BadTown.__init__" = true)
    (q1_BadTown : K.lookup xcd_BadTown = some ⟨xccl_BadTown, xcdd_BadTown, .fields xvs_BadTown, xccs_BadTown⟩) (q2_BadTown : xvs_BadTown[2]? = some (.str xfile_BadTown xtf_BadTown)) (q3_BadTown : ((l.prog.main.file : Str) == xfile_BadTown) = true) (q4_BadTown : (l.prog.main.scope.names.lookup ("super" : Str)).isSome = false)
    (q5_BadTown : K.lookup xcc_BadTown = some ⟨xcl_BadTown, xcld_BadTown, .cell (some (.ref c_BadTown)), xcsl_BadTown⟩) (q6_BadTown : PySem.W.mroIn K c_BadTown (.ref c_BadTown) = some true) (q7_BadTown : PySem.W.nsIn K cStatics "thirdparty.any" = some none) (q8_BadTown : PySem.W.ks_superIn K c_BadTown c_BadTown "__init__" = some (some (.builtin "ValueError.__init__")))
    (q9_BadTown : PySem.W.subIn K (.ref c_BadTown) (.type "ValueError") = some true) (qa_BadTown : PySem.W.findIn K (.ref c_BadTown) "part" = some none) (qb_BadTown : PySem.W.nsIn K mainGlobals "super" = some none)
    (wA : PySem.W.nsIn K mainGlobals "Walker" = some (some (.ref c_Walker))) (wG : PySem.W.plainGet K c_Walker Str.empty = true) (wH : PySem.W.hasDictIn K c_Walker = true) (wP : PySem.W.plainOver K c_Walker = true) (wS : PySem.W.findIn K (.ref c_Walker) "__setattr__" = some (some (.builtin "object.__setattr__"))) (wM : PySem.W.makesIn K c_Walker = true) (wK : PySem.W.keepIn K (.ref c_Walker) = true) (w1 : PySem.W.findIn K (.ref c_Walker) "_town" = some none) (w2 : PySem.W.findIn K (.ref c_Walker) "_streets" = some none) (w3 : PySem.W.findIn K (.ref c_Walker) "_path" = some none)
    (law : LawAll) :
    ∃ fd : FuncData, (∀ (s : Shared) (v : Value), BindsTo s fd ⟨[v], []⟩ [("_law_script", v)]) ∧ ∀ base : Heap, K.In base → base.Ns mainGlobals mg → FnOk l.prog w K mg base (L2N.CX l.prog w) 8 fa fd ["_law_script"] (spF K (fun _ => False) 1 F_law) := by
  have e := hfa.symm.trans (PySem.W.mg_of X G a17)
  cases e
  have B : Bn mg := ⟨PySem.W.mg_none_of X G z_int, PySem.W.mg_none_of X G z_len, PySem.W.mg_none_of X G z_range, PySem.W.mg_none_of X G z_min, PySem.W.mg_none_of X G z_isinstance, PySem.W.mg_none_of X G z_tuple, PySem.W.mg_none_of X G z_list, PySem.W.mg_none_of X G z_str, PySem.W.mg_none_of X G z_bool, PySem.W.mg_none_of X G z_set⟩
  have F0 := fun_mk (st := topS 15) l0 c0 k0
  have b0 := F0.binds (ps := ["_law_row", "_law_many"]) fun _ _ _ _ _ _ us hl => match us, hl with | [_, _], _ => rfl
  have F1 := fun_mk (st := topS 19) l1 c1 k1
  have b1 := F1.binds (ps := ["_law_town_here"]) fun _ _ _ _ _ _ us hl => match us, hl with | [_], _ => rfl
  have F2 := fun_mk (st := topS 16) l2 c2 k2
  have b2 := F2.binds (ps := ["_law_row", "_law_things"]) fun _ _ _ _ _ _ us hl => match us, hl with | [_, _], _ => rfl
  have F3 := fun_mk (st := topS 18) l3 c3 k3
  have b3 := F3.binds (ps := ["_law_row", "_law_side", "_law_most"]) fun _ _ _ _ _ _ us hl => match us, hl with | [_, _, _], _ => rfl
  have F4 := fun_mk (st := topS 20) l4 c4 k4
  have b4 := F4.binds (ps := ["_law_town_here", "_law_place", "_law_step"]) fun _ _ _ _ _ _ us hl => match us, hl with | [_, _, _], _ => rfl
  have F5 := fun_mk (st := topS 17) l5 c5 k5
  have b5 := F5.binds (ps := ["_law_found", "_law_due"]) fun _ _ _ _ _ _ us hl => match us, hl with | [_, _], _ => rfl
  have F6 := fun_mk (st := inClass (topS 13) 2) l6 c6 k6
  have b6 := F6.binds (ps := ["self"]) fun _ _ _ _ _ _ us hl => match us, hl with | [_], _ => rfl
  have F7 := fun_mk (st := topS 7) l7 c7 k7
  have b7 := F7.binds (ps := ["value", "low", "high"]) fun _ _ _ _ _ _ us hl => match us, hl with | [_, _, _], _ => rfl
  have F8 := fun_mk (st := topS 11) l8 c8 k8
  have b8 := F8.binds (ps := ["town", "one", "other"]) fun _ _ _ _ _ _ us hl => match us, hl with | [_, _, _], _ => rfl
  have F9 := fun_mk (st := inClass (topS 13) 1) l9 c9 k9
  have b9 := F9.binds (ps := ["self", "street"]) fun _ _ _ _ _ _ us hl => match us, hl with | [_, _], _ => rfl
  have F10 := fun_mk (st := inClass (topS 13) 3) l10 c10 k10
  have b10 := F10.binds (ps := ["self"]) fun _ _ _ _ _ _ us hl => match us, hl with | [_], _ => rfl
  have F11 := fun_mk (st := inClass (topS 13) 4) l11 c11 k11
  have b11 := F11.binds (ps := ["self"]) fun _ _ _ _ _ _ us hl => match us, hl with | [_], _ => rfl
  have F12 := fun_mk (st := inClass (topS 13) 5) l12 c12 k12
  have b12 := F12.binds (ps := ["self"]) fun _ _ _ _ _ _ us hl => match us, hl with | [_], _ => rfl
  have F13 := fun_mk (st := topS 8) l13 c13 k13
  have b13 := F13.binds (ps := ["width", "height", "value"]) fun _ _ _ _ _ _ us hl => match us, hl with | [_, _, _], _ => rfl
  have F14 := fun_mk (st := topS 9) l14 c14 k14
  have b14 := F14.binds (ps := ["value"]) fun _ _ _ _ _ _ us hl => match us, hl with | [_], _ => rfl
  have F15 := fun_mk (st := topS 10) l15 c15 k15
  have b15 := F15.binds (ps := ["value"]) fun _ _ _ _ _ _ us hl => match us, hl with | [_], _ => rfl
  have F16 := fun_mk (st := inClass (topS 13) 0) l16 c16 k16
  have b16 := F16.binds (ps := ["self", "town"]) fun _ _ _ _ _ _ us hl => match us, hl with | [_, _], _ => rfl
  have F17 := fun_mk (st := topS 21) l17 c17 k17
  have N_BadTown : XNm K mg "BadTown" c_BadTown := ⟨PySem.W.mg_of X G na_BadTown, nm_BadTown⟩
  have T_BadTown : OexC K c_BadTown := ⟨⟨_, _, _, _, _, _, _, _, _, _, _, _, _, _, _, o1_BadTown, o2_BadTown⟩, o3_BadTown, o4_BadTown, o5_BadTown, o6_BadTown⟩
  have U_BadTown : SupC l.prog K c_BadTown xcd_BadTown xcc_BadTown (defScope (inClass (topS 2) 0)) (defArgs (inClass (topS 2) 0)) "part" := ⟨T_BadTown, rfl, rfl, rfl, by decide +kernel, rfl, rfl, rfl, rfl, ⟨_, rfl, rfl⟩, ⟨_, _, _, _, _, _, q1_BadTown, q2_BadTown, q3_BadTown⟩, q4_BadTown, ⟨_, _, _, q5_BadTown⟩, q6_BadTown, q7_BadTown, q8_BadTown, q9_BadTown, qa_BadTown, by decide +kernel, by decide +kernel⟩
  have Wc : WCls K c_Walker := ⟨⟨wG, wH, wP, wS⟩, w1, w2, w3⟩
  have X_NoStep : XCls K mg "NoStep" c_NoStep := ⟨PySem.W.mg_of X G xa_NoStep, xk_NoStep, xe_NoStep, xs_NoStep, xt_NoStep, xm_NoStep⟩
  have X_BadNumber : XCls K mg "BadNumber" c_BadNumber := ⟨PySem.W.mg_of X G xa_BadNumber, xk_BadNumber, xe_BadNumber, xs_BadNumber, xt_BadNumber, xm_BadNumber⟩
  refine ⟨PySem.W.fnOf "law" "law" (defArgs (topS 21)) (defBody (topS 21)) (defScope (topS 21)) .none kV17 dc17 pm17 an17 cd17 ct17, fun s v => .of_eq rfl, fun base _ _ => ?_⟩
  have D_BadTown : XFld l.prog w K mg base "BadTown" c_BadTown "part" 1 xi_BadTown _ := ⟨T_BadTown, p1_BadTown, p2_BadTown, fn_sup (k := 0) p3_BadTown p4_BadTown rfl U_BadTown (PySem.W.mg_none_of X G qb_BadTown) (fun _ => rfl) (fun _ => rfl) (fun _ => rfl), .all fun us hl => match us, hl with | [_, _], _ => rfl, PySem.W.mg_of X G na_BadTown⟩
  have C__law_taken : Cal l.prog w K mg base (fun _ => False) "_law_taken" 1 ["_law_row", "_law_many"] F_law_taken f0 _ := ⟨ok_law_taken F0 B, PySem.W.mg_of X G a0, k0, b0⟩
  have C__law_crossings : Cal l.prog w K mg base (fun _ => False) "_law_crossings" 1 ["_law_town_here"] F_law_crossings f1 _ := ⟨ok_law_crossings F1 B, PySem.W.mg_of X G a1, k1, b1⟩
  have C__law_pick : Cal l.prog w K mg base (fun _ => False) "_law_pick" 2 ["_law_row", "_law_things"] F_law_pick f2 _ := ⟨ok_law_pick F2 B C__law_taken, PySem.W.mg_of X G a2, k2, b2⟩
  have C__law_town : Cal l.prog w K mg base (fun _ => False) "_law_town" 3 ["_law_row", "_law_side", "_law_most"] F_law_town f3 _ := ⟨ok_law_town F3 B C__law_taken C__law_crossings C__law_pick, PySem.W.mg_of X G a3, k3, b3⟩
  have C__law_led : Cal l.prog w K mg base (fun _ => False) "_law_led" 1 ["_law_town_here", "_law_place", "_law_step"] F_law_led f4 _ := ⟨ok_law_led F4 B, PySem.W.mg_of X G a4, k4, b4⟩
  have C__law_alike : Cal l.prog w K mg base (fun _ => False) "_law_alike" 7 ["_law_found", "_law_due"] (F_law_alike 6) f5 _ := ⟨ok_law_alike F5 B (PySem.W.mg_of X G a5) b5 6, PySem.W.mg_of X G a5, k5, b5⟩
  have M_Walker_undo : CalM l.prog w K mg base (fun _ => False) c_Walker "undo" 1 ["self"] 0 F_Walker_undo f6 _ := ⟨ok_Walker_undo F6 B Wc X_NoStep, ⟨a6, i6, k6⟩, b6⟩
  have C_is_number : Cal l.prog w K mg base (fun _ => False) "is_number" 1 ["value", "low", "high"] F_is_number f7 _ := ⟨ok_is_number F7 B, PySem.W.mg_of X G a7, k7, b7⟩
  have C_added : Cal l.prog w K mg base (fun _ => False) "added" 1 ["town", "one", "other"] F_added f8 _ := ⟨ok_added F8 B, PySem.W.mg_of X G a8, k8, b8⟩
  have M_Walker_go : CalM l.prog w K mg base (fun _ => False) c_Walker "go" 2 ["self", "street"] 1 F_Walker_go f9 _ := ⟨ok_Walker_go F9 B C_is_number C_added Wc X_BadNumber, ⟨a9, i9, k9⟩, b9⟩
  have M_Walker_missing : CalM l.prog w K mg base (fun _ => False) c_Walker "missing" 1 ["self"] 0 F_Walker_missing f10 _ := ⟨ok_Walker_missing F10 B Wc, ⟨a10, i10, k10⟩, b10⟩
  have P_Walker_streets : CalP l.prog w K mg base (fun _ => False) c_Walker "streets" 1 ["self"] F_Walker_streets pp11 f11 _ := ⟨ok_Walker_streets F11 B Wc, ⟨a11, pg11, pt11, rst11, pr11⟩, b11⟩
  have P_Walker_path : CalP l.prog w K mg base (fun _ => False) c_Walker "path" 1 ["self"] F_Walker_path pp12 f12 _ := ⟨ok_Walker_path F12 B Wc, ⟨a12, pg12, pt12, rst12, pr12⟩, b12⟩
  have C_is_spot : Cal l.prog w K mg base (fun _ => False) "is_spot" 2 ["width", "height", "value"] F_is_spot f13 _ := ⟨ok_is_spot F13 B C_is_number, PySem.W.mg_of X G a13, k13, b13⟩
  have C_wrong_town : Cal l.prog w K mg base (fun _ => False) "wrong_town" 3 ["value"] F_wrong_town f14 _ := ⟨ok_wrong_town F14 B C_is_number C_is_spot (PySem.W.mg_of X G g_MOST_SIDE), PySem.W.mg_of X G a14, k14, b14⟩
  have C_need_town : Cal l.prog w K mg base (fun _ => False) "need_town" 4 ["value"] F_need_town f15 _ := ⟨ok_need_town F15 B C_wrong_town D_BadTown, PySem.W.mg_of X G a15, k15, b15⟩
  have MK : CalI l.prog w K mg base (fun _ => False) c_Walker "Walker" 5 F_need_town f16 _ := ⟨ok_Walker___init__ F16 B C_need_town Wc, ⟨wM, a16, i16, wK⟩, b16, PySem.W.mg_of X G wA⟩
  exact ok_law F17 B C__law_town C__law_taken C__law_pick C__law_led C__law_crossings C__law_alike Wc M_Walker_undo M_Walker_go M_Walker_missing P_Walker_streets P_Walker_path MK X_NoStep X_BadNumber N_BadTown (law_hG law)
end Pw
set_option maxRecDepth 100000
namespace Pw
open PySem PySem.Spec L2 Pv
theorem added_eq (w h x y u v : Int) (A B : PyData) (hw : w ≠ 0) (hh : h ≠ 0) :
    F_added [.val (.tuple [.int w, .int h, A, B]), .val (.tuple [.int x, .int y]), .val (.tuple [.int u, .int v])] = .ok (.val (.tuple [.int ((x + u).fmod w), .int ((y + v).fmod h)])) none := by
  simp [F_added, g_added, hw, hh]
/-- the script's row -/
structure Rw where
  i : Nat
  s : Int
  k : Int
def rwD (ns : List Int) (r : Rw) : MO := .lst [.list (ns.map .int), .int r.i, .int r.s, .int r.k]
theorem fmod_in (z many : Int) (h : 1 ≤ many) : 0 ≤ z.fmod many ∧ z.fmod many < many := ⟨Int.fmod_nonneg_of_pos _ (by omega), Int.fmod_lt_of_pos _ (by omega)⟩
theorem taken_row (ns : List Int) (r : Rw) (many : Int) (hm : 1 ≤ many) (hm2 : many < 100000) (hl : ns.length ≤ 63) :
    ∃ z r', F_law_taken [.lent (rwD ns r), .val (.int many)] = .ok (.val (.int z)) (some (rwD ns r')) ∧ 0 ≤ z ∧ z < many := by
  have hm0 : many ≠ 0 := by omega
  have ha : many.natAbs < 1073741824 := by omega
  obtain ⟨i, s, k⟩ := r
  unfold rwD
  by_cases h1 : 0 < k
  · refine ⟨k.fmod many, ⟨i, s, k.fdiv many⟩, ?_, fmod_in _ _ hm⟩
    simp [F_law_taken, g_law_taken, hm0, ha, h1]
  · by_cases h2 : ns.length < i + 1
    · refine ⟨(((s * 48271 + 11).fmod 2147483647).fdiv 7).fmod many, ⟨i + 1, (s * 48271 + 11).fmod 2147483647, k⟩, ?_, fmod_in _ _ hm⟩
      have h3 : (ns.length : Int) < (i : Int) + 1 := by omega
      simp [F_law_taken, g_law_taken, hm0, ha, h1, h3]
    · have h3 : ¬ (ns.length : Int) < (i : Int) + 1 := by omega
      have hi : i < ns.length := by omega
      have e : (ns.map PyData.int)[i]? = some (.int ns[i]) := by rw [List.getElem?_map, List.getElem?_eq_getElem hi]; rfl
      have ea : (i : Int) + 1 - 1 = (i : Nat) := by omega
      by_cases h4 : (10 : Int) ^ 18 ≤ ns[i]
      · refine ⟨ns[i].fmod many, ⟨i + 1, (s * 48271 + ns[i] + 11).fmod 2147483647, ns[i].fdiv many⟩, ?_, fmod_in _ _ hm⟩
        have h4' : (1000000000000000000 : Int) ≤ ns[i] := by simpa using h4
        simp [F_law_taken, g_law_taken, hm0, ha, h1, h3, ea, atI_nat', e, h4']
      · refine ⟨ns[i].fmod many, ⟨i + 1, (s * 48271 + ns[i] + 11).fmod 2147483647, k⟩, ?_, fmod_in _ _ hm⟩
        have h4' : ¬ (1000000000000000000 : Int) ≤ ns[i] := by simpa using h4
        simp [F_law_taken, g_law_taken, hm0, ha, h1, h3, ea, atI_nat', e, h4']
end Pw
set_option maxRecDepth 100000
namespace Pw
open PySem PySem.Spec L2 Pv
abbrev P2 := Int × Int
def pE (p : P2) : PyData := .tuple [.int p.1, .int p.2]
def crs (w h : Nat) : List P2 := (List.range w).flatMap fun x : Nat => (List.range h).map fun y : Nat => ((x : Int), (y : Int))
theorem rangeD_map (n : Nat) : rangeD 0 n = (List.range n).map fun i => PyData.int (i : Nat) := by
  unfold rangeD
  apply List.map_congr_left
  intro a _
  simp
theorem crs_length (w h : Nat) : (crs w h).length = w * h := by
  unfold crs
  induction w with
  | zero => simp
  | succ n ih =>
    rw [List.range_succ, List.flatMap_append, List.length_append, ih]
    simp
    rw [Nat.succ_mul]
theorem filt_true {α : Type} (l : List α) : (l.filter fun _ => true) = l := List.filter_eq_self.mpr (by simp)
end Pw
set_option maxRecDepth 100000
namespace Pw
open PySem PySem.Spec L2 Pv
section
variable {p q a b : P2} {w h : Nat} {T : String}
def tE (w h : Nat) (a b : P2) : PyData := .tuple [.int w, .int h, pE a, pE b]
def ad (w h : Nat) (p q : P2) : P2 := ((p.1 + q.1) % w, (p.2 + q.2) % h)
def sb (w h : Nat) (p q : P2) : P2 := ((p.1 - q.1) % w, (p.2 - q.2) % h)
@[simp] theorem gIx_p0 : gIx (pE p) (.int 0) = some (.val (.int p.1)) := rfl
@[simp] theorem gIx_p1 : gIx (pE p) (.int 1) = some (.val (.int p.2)) := rfl
@[simp] theorem gIx_t0 : gIx (tE w h a b) (.int 0) = some (.val (.int w)) := rfl
@[simp] theorem gIx_t1 : gIx (tE w h a b) (.int 1) = some (.val (.int h)) := rfl
@[simp] theorem gIx_t2 : gIx (tE w h a b) (.int 2) = some (.val (pE a)) := rfl
@[simp] theorem gIx_t3 : gIx (tE w h a b) (.int 3) = some (.val (pE b)) := rfl
@[simp] theorem isi_pE : isiD (pE p) T = ("tuple" == T || (T == "int" && "tuple" == "bool")) := rfl
@[simp] theorem isi_tE : isiD (tE w h a b) T = ("tuple" == T || (T == "int" && "tuple" == "bool")) := rfl
@[simp] theorem len_pE : gLen [pE p] = some (.val (.int 2)) := rfl
@[simp] theorem len_tE : gLen [tE w h a b] = some (.val (.int 4)) := rfl
@[simp] theorem isN_pE : isNoneD (pE p) = false := rfl
theorem eqv_pE (p q : P2) : PyData.eqv (pE p) (pE q) = decide (p = q) := by
  obtain ⟨p1, p2⟩ := p
  obtain ⟨q1, q2⟩ := q
  simp only [pE, PyData.eqv, PyData.eqvAll]
  by_cases h1 : p1 = q1 <;> by_cases h2 : p2 = q2 <;> simp [h1, h2]
theorem shp_pE (p : P2) : SeqAt.shaped (pE p) = true := rfl
@[simp] theorem eqD_pE : eqD? (pE p) (pE q) = some (decide (p = q)) := by
  unfold eqD?
  rw [shp_pE, shp_pE, eqv_pE]
  rfl
@[simp] theorem gEq_pE : gEq (pE p) (pE q) = some (.val (.bool (decide (p = q)))) := by unfold gEq; rw [eqD_pE]; rfl
@[simp] theorem gNe_pE : gNe (pE p) (pE q) = some (.val (.bool (!decide (p = q)))) := by unfold gNe; rw [eqD_pE]; rfl
@[simp] theorem eqD_ii {x y : Int} : eqD? (.int x) (.int y) = some (decide (x = y)) := by
  unfold eqD?
  rw [show SeqAt.shaped (.int x) = true from rfl, show SeqAt.shaped (.int y) = true from rfl]
  simp [PyData.eqv]
  by_cases h : x = y <;> simp [h]
@[simp] theorem gEq_ii {x y : Int} : gEq (.int x) (.int y) = some (.val (.bool (decide (x = y)))) := by unfold gEq; rw [eqD_ii]; rfl
@[simp] theorem gNe_ii {x y : Int} : gNe (.int x) (.int y) = some (.val (.bool (!decide (x = y)))) := by unfold gNe; rw [eqD_ii]; rfl
@[simp] theorem eqD_bb {x y : Bool} : eqD? (.bool x) (.bool y) = some (decide (x = y)) := by
  unfold eqD?
  rw [show SeqAt.shaped (.bool x) = true from rfl, show SeqAt.shaped (.bool y) = true from rfl]
  cases x <;> cases y <;> rfl
@[simp] theorem gEq_bb {x y : Bool} : gEq (.bool x) (.bool y) = some (.val (.bool (decide (x = y)))) := by unfold gEq; rw [eqD_bb]; rfl
@[simp] theorem gNe_bb {x y : Bool} : gNe (.bool x) (.bool y) = some (.val (.bool (!decide (x = y)))) := by unfold gNe; rw [eqD_bb]; rfl
/-- tuple [x, y] is a point -/
theorem tup_pE (x y : Int) : PyData.tuple [.int x, .int y] = pE (x, y) := rfl
theorem fm (x : Int) (n : Nat) : x.fmod n = x % n := Int.fmod_eq_emod_of_nonneg _ (by omega)
variable (hw : 0 < w) (hh : 0 < h)
include hw hh
theorem F_added_eq : F_added [.val (tE w h a b), .val (pE p), .val (pE q)] = .ok (.val (pE (ad w h p q))) none := by
  have h1 : (w : Int) ≠ 0 := by omega
  have h2 : (h : Int) ≠ 0 := by omega
  have h3 : w ≠ 0 := by omega
  have h4 : h ≠ 0 := by omega
  simp [F_added, g_added, h1, h2, h3, h4, fm, tup_pE, ad]
theorem F_led_eq : F_law_led [.val (tE w h a b), .val (pE p), .val (pE q)] = .ok (.val (pE (ad w h p q))) none := by
  have h1 : (w : Int) ≠ 0 := by omega
  have h2 : (h : Int) ≠ 0 := by omega
  have h3 : w ≠ 0 := by omega
  have h4 : h ≠ 0 := by omega
  simp [F_law_led, g_law_led, h1, h2, h3, h4, fm, tup_pE, ad]
omit hw hh
theorem F_is_number_eq (x lo hi : Int) : F_is_number [.val (.int x), .val (.int lo), .val (.int hi)] = .ok (.val (.bool (decide (lo ≤ x ∧ x ≤ hi)))) none := by
  by_cases h1 : lo ≤ x <;> simp [F_is_number, g_is_number, h1]
theorem F_is_spot_eq : F_is_spot [.val (.int w), .val (.int h), .val (pE p)] = .ok (.val (.bool (decide ((0 ≤ p.1 ∧ p.1 ≤ w - 1) ∧ 0 ≤ p.2 ∧ p.2 ≤ h - 1)))) none := by
  by_cases h1 : 0 ≤ p.1 ∧ p.1 ≤ (w : Int) - 1 <;> simp [F_is_spot, g_is_spot, F_is_number_eq, h1]
structure TOk (w h : Nat) (a b : P2) : Prop where
  w1 : 1 ≤ w
  h1 : 1 ≤ h
  w2 : w ≤ 12
  h2 : h ≤ 12
  wh : 2 ≤ w * h
  a1 : 0 ≤ a.1 ∧ a.1 < w
  a2 : 0 ≤ a.2 ∧ a.2 < h
  b1 : 0 ≤ b.1 ∧ b.1 < w
  b2 : 0 ≤ b.2 ∧ b.2 < h
  ne : a ≠ b
@[simp] theorem gtTup_tE {n : Nat} {gs : GsF} {ρ : Rho} : gtTup n gs (tE w h a b) ρ = (if 4 = n then gs [.int w, .int h, pE a, pE b] ρ else none) := rfl
theorem F_wrong_town_eq (t : TOk w h a b) : F_wrong_town [.val (tE w h a b)] = .ok (.val .none) none := by
  obtain ⟨w1, h1, w2, h2, wh, a1, a2, b1, b2, ne⟩ := t
  have e1 : (1 : Int) ≤ w := by omega
  have e2 : (1 : Int) ≤ h := by omega
  have e3 : (w : Int) ≤ 12 := by omega
  have e4 : (h : Int) ≤ 12 := by omega
  have e5 : ¬ (w : Int) * h < 2 := by
    have : ((w * h : Nat) : Int) = (w : Int) * h := by simp
    omega
  have s1 := sm_nat w (by omega)
  have e6 : a.1 ≤ (w : Int) - 1 := by omega
  have e7 : a.2 ≤ (h : Int) - 1 := by omega
  have e8 : b.1 ≤ (w : Int) - 1 := by omega
  have e9 : b.2 ≤ (h : Int) - 1 := by omega
  have f1 : 1 ≤ w := w1
  simp [F_wrong_town, g_wrong_town, F_is_number_eq, F_is_spot_eq, e1, e2, e3, e4, e5, s1, e6, e7, e8, e9, a1.1, a2.1, b1.1, b2.1, ne, w1, w2, h1, h2]
theorem F_need_town_eq (t : TOk w h a b) : F_need_town [.val (tE w h a b)] = .ok (.val .none) none := by
  simp [F_need_town, g_need_town, F_wrong_town_eq t]
end
end Pw
set_option maxRecDepth 100000
namespace Pw
open PySem PySem.Spec L2 Pv
section
variable {p q a b : P2} {w h : Nat}
def crsX (n : Nat) (h : Nat) : List P2 := (List.range n).flatMap fun x : Nat => (List.range h).map fun y : Nat => ((x : Int), (y : Int))
theorem crsX_succ (n h : Nat) : crsX (n + 1) h = crsX n h ++ (List.range h).map fun y : Nat => ((n : Int), (y : Int)) := by
  unfold crsX
  rw [List.range_succ, List.flatMap_append]
  simp
def tW (w h : Nat) : PyData := .tuple [.int w, .int h]
/-- the two that begin a town -/
structure Wh (T : PyData) (w h : Nat) : Prop where
  i0 : gIx T (.int 0) = some (.val (.int w))
  i1 : gIx T (.int 1) = some (.val (.int h))
theorem wh_tE : Wh (tE w h a b) w h := ⟨rfl, rfl⟩
theorem wh_tW : Wh (tW w h) w h := ⟨rfl, rfl⟩
theorem F_crossings_eq {T : PyData} (t : Wh T w h) (hw : w ≤ 200) (hh : h ≤ 200) : F_law_crossings [.val T] = .ok (.own (.lst ((crs w h).map pE))) none := by
  have r1 := okR_nat w (by omega)
  have r2 := okR_nat h (by omega)
  have key2 : ∀ i : Nat, lcL (gtName 3) fYes (fTup (fCons (fVar 2) (fCons (fVar 3) fNil))) [3] ((List.range h).map fun i : Nat => PyData.int i) [.val T, .own (.lst ((crsX i h).map pE)), .val (.int i), .no] = .ok ((List.range h).map fun y : Nat => pE ((i : Int), (y : Int))) [.val T, .own (.lst ((crsX i h).map pE)), .val (.int i), .no] := by
    intro i
    have z := lcL_pure (tg := gtName 3) (tt := fYes) (el := fTup (fCons (fVar 2) (fCons (fVar 3) fNil))) (vs := [3]) (ρ := [.val T, .own (.lst ((crsX i h).map pE)), .val (.int i), .no]) (fun i : Nat => PyData.int i) (fun y => [.val T, .own (.lst ((crsX i h).map pE)), .val (.int i), .val (.int y)]) (fun _ => true) (fun y : Nat => pE ((i : Int), (y : Int))) (List.range h) (by
      intro y _
      exact ⟨by simp, rfl, fun _ => by simp [pE], by simp⟩)
    rw [filt_true] at z
    exact z
  have hl : ∀ i ≤ w, (crsX i h).length ≤ 40000 := by
    intro i hi
    have e := crs_length i h
    have := Nat.mul_le_mul (Nat.le_trans hi hw) hh
    have e2 : (crsX i h).length = i * h := e
    omega
  have key := forL_idx (tg := gtName 2) (body := gSet 1 (fOp gAdd (fVar 1) (fLc (fIRng1 (rCons (fOp gIx (fVar 0) (fC (.int 1))) rNil)) (gtName 3) fYes (fTup (fCons (fVar 2) (fCons (fVar 3) fNil))) [3])))
    ((List.range w).map fun i : Nat => PyData.int i) (fun i => [.val T, .own (.lst ((crsX i h).map pE)), lv ((List.range w).map fun i : Nat => PyData.int i) i, .no]) (by
      intro i hi
      have hi' : i < w := by simpa using hi
      have l1 := hl i (by omega)
      refine ⟨[.val T, .own (.lst ((crsX i h).map pE)), .val (.int i), .no], by simp, .inl ?_⟩
      rw [lv_succ hi]
      simp [t.i1, r2, rangeD_map, key2, crsX_succ, Function.comp_def]
      have : h ≤ 16777216 := by omega
      have : (crsX i h).length + h ≤ 16777216 := by omega
      simp [*])
  simp only [List.length_map, List.length_range] at key
  have e0 : lv ((List.range w).map fun i : Nat => PyData.int i) 0 = .no := rfl
  have e1 : crsX 0 h = [] := rfl
  simp only [e0, e1, List.map_nil] at key
  have hz : isLent (lv ((List.range w).map fun i : Nat => PyData.int i) w) = false := isL_lv
  simp [F_law_crossings, g_law_crossings, t.i0, r1, rangeD_map, key]
  rfl
theorem F_pick_eq (ns : List Int) (hl : ns.length ≤ 63) (r : Rw) (ds : List PyData) (h0 : ds ≠ []) (h1 : ds.length < 100000) :
    ∃ (d : PyData) (r' : Rw), F_law_pick [.lent (rwD ns r), .val (.list ds)] = .ok (.val d) (some (rwD ns r')) ∧ d ∈ ds := by
  have hp : 0 < ds.length := List.length_pos_iff.mpr h0
  obtain ⟨z, r', e, z1, z2⟩ := taken_row ns r ds.length (by omega) (by omega) hl
  obtain ⟨k, rfl⟩ := Int.eq_ofNat_of_zero_le z1
  have hk : k < ds.length := by omega
  refine ⟨ds[k], r', ?_, List.getElem_mem hk⟩
  simp [F_law_pick, g_law_pick, e, atI_nat', hk]
end
end Pw
set_option maxRecDepth 100000
namespace Pw
open PySem PySem.Spec L2 Pv
section
variable {p q a b : P2} {w h : Nat}
theorem mem_crs {p : P2} {w h : Nat} : p ∈ crs w h ↔ (0 ≤ p.1 ∧ p.1 < w) ∧ 0 ≤ p.2 ∧ p.2 < h := by
  unfold crs
  simp only [List.mem_flatMap, List.mem_map, List.mem_range]
  constructor
  · rintro ⟨x, hx, y, hy, rfl⟩
    simp
    omega
  · rintro ⟨⟨h1, h2⟩, h3, h4⟩
    obtain ⟨p1, p2⟩ := p
    simp only at h1 h2 h3 h4
    refine ⟨p1.toNat, by omega, p2.toNat, by omega, ?_⟩
    rw [Int.toNat_of_nonneg h1, Int.toNat_of_nonneg h3]
theorem other_crs (hw : 0 < w) (hh : 0 < h) (hwh : 2 ≤ w * h) (a : P2) : (crs w h).filter (fun p => !decide (p = a)) ≠ [] := by
  have key : ∃ p, p ∈ crs w h ∧ p ≠ a := by
    by_cases ha : a = (0, 0)
    · by_cases h2 : 2 ≤ w
      · exact ⟨(1, 0), mem_crs.mpr (by simp; omega), by rw [ha]; simp⟩
      · have : w = 1 := by omega
        subst this
        exact ⟨(0, 1), mem_crs.mpr (by simp; omega), by rw [ha]; simp⟩
    · exact ⟨(0, 0), mem_crs.mpr (by simp; omega), fun z => ha z.symm⟩
  obtain ⟨p, h1, h2⟩ := key
  intro z
  have : p ∈ (crs w h).filter (fun p => !decide (p = a)) := List.mem_filter.mpr ⟨h1, by simpa using h2⟩
  rw [z] at this
  cases this
theorem F_town_eq (ns : List Int) (hl : ns.length ≤ 63) (r : Rw) (side most : Nat) (s1 : 2 ≤ side) (s2 : side ≤ 12) (m1 : 2 ≤ most) (m2 : most ≤ 144) :
    ∃ (w h : Nat) (a b : P2) (r' : Rw), F_law_town [.lent (rwD ns r), .val (.int side), .val (.int most)] = .ok (.val (tE w h a b)) (some (rwD ns r')) ∧ TOk w h a b ∧ w * h ≤ most := by
  obtain ⟨M1, hM1⟩ : ∃ M, M = min side most := ⟨_, rfl⟩
  have em : (if most < side then (most : Int) else side) = (M1 : Int) := by split <;> omega
  obtain ⟨z1, r1, e1, z1a, z1b⟩ := taken_row ns r M1 (by omega) (by omega) hl
  obtain ⟨k1, rfl⟩ := Int.eq_ofNat_of_zero_le z1a
  obtain ⟨W, hW⟩ : ∃ W, W = k1 + 1 := ⟨_, rfl⟩
  have ew : (1 : Int) + (k1 : Nat) = (W : Int) := by omega
  have hw1 : W ≤ M1 := by omega
  obtain ⟨D, hD⟩ : ∃ D, D = most / W := ⟨_, rfl⟩
  have hd : 1 ≤ D := by rw [hD]; exact Nat.div_pos (by omega) (by omega)
  have hd2 : D ≤ most := by rw [hD]; exact Nat.div_le_self _ _
  have efd : (most : Int).fdiv (W : Int) = (D : Int) := by
    rw [hD, Int.fdiv_eq_ediv_of_nonneg _ (by omega)]
    simp
  obtain ⟨M2, hM2⟩ : ∃ M, M = min side D := ⟨_, rfl⟩
  have em2 : (if D < side then (D : Int) else (side : Int)) = (M2 : Int) := by split <;> omega
  obtain ⟨z2, r2, e2, z2a, z2b⟩ := taken_row ns r1 M2 (by omega) (by omega) hl
  obtain ⟨k2, rfl⟩ := Int.eq_ofNat_of_zero_le z2a
  obtain ⟨h, hH⟩ : ∃ h, h = k2 + 1 := ⟨_, rfl⟩
  have eh : (1 : Int) + (k2 : Nat) = (h : Int) := by omega
  have hh1 : h ≤ D := by omega
  have hmul : W * h ≤ most := Nat.le_trans (Nat.mul_le_mul_left _ hh1) (by rw [hD]; exact Nat.mul_div_le _ _)
  obtain ⟨w, hwd⟩ : ∃ w : Nat, w = if W * h < 2 then 2 else W := ⟨_, rfl⟩
  have wf : 1 ≤ w ∧ w ≤ 12 ∧ 2 ≤ w * h ∧ w * h ≤ most := by
    rw [hwd]
    by_cases q : W * h < 2
    · rw [if_pos q]
      have hk1 : W ≤ W * h := Nat.le_mul_of_pos_right _ (by omega)
      have hk2 : h ≤ W * h := Nat.le_mul_of_pos_left _ (by omega)
      omega
    · rw [if_neg q]
      omega
  obtain ⟨w1, w2, w3, w4⟩ := wf
  have ewi : ∀ ρ : Rho, (if (W : Int) * (h : Int) < 2 then Out.ok (R.val (PyData.int 2)) ρ else Out.ok (R.val (PyData.int W)) ρ) = .ok (.val (.int w)) ρ := by
    intro ρ
    rw [hwd]
    have e : (W : Int) * (h : Int) = ((W * h : Nat) : Int) := by simp
    rw [e]
    by_cases q : W * h < 2
    · rw [if_pos q, if_pos (by omega)]; rfl
    · rw [if_neg q, if_neg (by omega)]
  have s64 := sm_nat W (by omega)
  have hh12 : h ≤ 12 := by omega
  have ecr := F_crossings_eq (T := tW w h) wh_tW (by omega) (by omega)
  have cl : (crs w h).length = w * h := crs_length _ _
  obtain ⟨d1, r3, e3, d1m⟩ := F_pick_eq ns hl r2 ((crs w h).map pE) (by
    intro z
    have := congrArg List.length z
    simp [cl] at this
    omega) (by rw [List.length_map, cl]; omega)
  obtain ⟨a, ha, rfl⟩ := List.mem_map.mp d1m
  have hne := other_crs (w := w) (h := h) (by omega) (by omega) w3 a
  obtain ⟨d2, r4, e4, d2m⟩ := F_pick_eq ns hl r3 (((crs w h).filter (fun p => !decide (p = a))).map pE) (by
    intro z
    exact hne (List.map_eq_nil_iff.mp z)) (by
    rw [List.length_map]
    have := List.length_filter_le (fun p => !decide (p = a)) (crs w h)
    omega)
  obtain ⟨b, hb, rfl⟩ := List.mem_map.mp d2m
  obtain ⟨hb1, hb2⟩ := List.mem_filter.mp hb
  have key : lcL (gtName 7) (fB (fOp gNe (fVar 7) (fVar 6))) (fVar 7) [7] ((crs w h).map pE)
      [.lent (rwD ns r3), .val (.int side), .val (.int most), .val (.int w), .val (.int h), .val (.list ((crs w h).map pE)), .val (pE a), .no] =
      .ok (((crs w h).filter (fun p => !decide (p = a))).map pE) [.lent (rwD ns r3), .val (.int side), .val (.int most), .val (.int w), .val (.int h), .val (.list ((crs w h).map pE)), .val (pE a), .no] :=
    lcL_pure pE (fun p => [.lent (rwD ns r3), .val (.int side), .val (.int most), .val (.int w), .val (.int h), .val (.list ((crs w h).map pE)), .val (pE a), .val (pE p)]) (fun p => !decide (p = a)) pE (crs w h) (by
      intro p _
      exact ⟨by simp, by simp, fun _ => by simp, by simp⟩)
  refine ⟨w, h, a, b, r4, ?_, ⟨w1, by omega, w2, hh12, w3, (mem_crs.mp ha).1, (mem_crs.mp ha).2, (mem_crs.mp hb1).1, (mem_crs.mp hb1).2, fun z => by rw [z] at hb2; simp at hb2⟩, w4⟩
  have lw : (crs w h).length ≤ 16777216 := by omega
  have hk0 : ¬ (W : Int) = 0 := by omega
  have hk1 : ¬ W = 0 := by omega
  have ha0 : (W : Int).natAbs < 1073741824 := by omega
  have ha1 : W < 1073741824 := by omega
  have etw : PyData.tuple [.int (w : Int), .int (h : Int)] = tW w h := rfl
  simp [F_law_town, g_law_town, em, e1, ew, hk0, hk1, ha0, ha1, efd, em2, e2, eh, s64, ewi, etw, ecr, e3, key, lw, e4]
  rfl
end
end Pw
set_option maxRecDepth 100000
namespace Pw
open PySem PySem.Spec L2 Pv
section
variable {p q r g a b : P2} {w h : Nat} {i j k : Nat}
/-- k times p -/
def ml (w h k : Nat) (p : P2) : P2 := ((k * p.1) % w, (k * p.2) % h)
def inR (w h : Nat) (p : P2) : Prop := (0 ≤ p.1 ∧ p.1 < w) ∧ 0 ≤ p.2 ∧ p.2 < h
theorem ml_zero : ml w h 0 p = (0, 0) := by simp [ml]
theorem ml_one (hp : inR w h p) : ml w h 1 p = p := by
  obtain ⟨h1, h2⟩ := hp
  simp [ml, Int.emod_eq_of_lt h1.1 h1.2, Int.emod_eq_of_lt h2.1 h2.2]
theorem ad_zero (hp : inR w h p) : ad w h p (0, 0) = p := by
  obtain ⟨h1, h2⟩ := hp
  simp [ad, Int.emod_eq_of_lt h1.1 h1.2, Int.emod_eq_of_lt h2.1 h2.2]
theorem zero_ad (hp : inR w h p) : ad w h (0, 0) p = p := by
  obtain ⟨h1, h2⟩ := hp
  simp [ad, Int.emod_eq_of_lt h1.1 h1.2, Int.emod_eq_of_lt h2.1 h2.2]
theorem inR_ad (hw : 0 < w) (hh : 0 < h) : inR w h (ad w h p q) := ⟨⟨Int.emod_nonneg _ (by omega), Int.emod_lt_of_pos _ (by omega)⟩, Int.emod_nonneg _ (by omega), Int.emod_lt_of_pos _ (by omega)⟩
theorem inR_sb (hw : 0 < w) (hh : 0 < h) : inR w h (sb w h p q) := ⟨⟨Int.emod_nonneg _ (by omega), Int.emod_lt_of_pos _ (by omega)⟩, Int.emod_nonneg _ (by omega), Int.emod_lt_of_pos _ (by omega)⟩
theorem inR_ml (hw : 0 < w) (hh : 0 < h) : inR w h (ml w h k p) := ⟨⟨Int.emod_nonneg _ (by omega), Int.emod_lt_of_pos _ (by omega)⟩, Int.emod_nonneg _ (by omega), Int.emod_lt_of_pos _ (by omega)⟩
theorem ad_assoc : ad w h (ad w h p q) r = ad w h p (ad w h q r) := by
  simp [ad, Int.add_assoc]
theorem ad_comm : ad w h p q = ad w h q p := by
  simp [ad, Int.add_comm]
theorem ad_ml_one : ad w h (ml w h k p) p = ml w h (k + 1) p := by
  simp [ad, ml, Int.add_mul]
theorem ad_ml : ad w h (ml w h i p) (ml w h j p) = ml w h (i + j) p := by
  simp [ad, ml, Int.add_mul, Int.add_emod]
/-- what is added can be taken off -/
theorem ad_cancel (hp : inR w h p) (hq : inR w h q) (e : ad w h r p = ad w h r q) : p = q := by
  obtain ⟨p1, p2⟩ := p
  obtain ⟨q1, q2⟩ := q
  obtain ⟨⟨a1, a2⟩, a3, a4⟩ := hp
  obtain ⟨⟨b1, b2⟩, b3, b4⟩ := hq
  simp only [ad, Prod.mk.injEq] at e a1 a2 a3 a4 b1 b2 b3 b4 ⊢
  obtain ⟨e1, e2⟩ := e
  have f1 := Int.emod_emod_of_dvd (r.1 + p1) (Int.dvd_refl (w : Int))
  have c1 : (p1 - q1) % (w : Int) = 0 := by
    have : ((r.1 + p1) - (r.1 + q1)) % (w : Int) = 0 := Int.emod_eq_emod_iff_emod_sub_eq_zero.mp e1
    have e : (r.1 + p1) - (r.1 + q1) = p1 - q1 := by omega
    rwa [e] at this
  have c2 : (p2 - q2) % (h : Int) = 0 := by
    have : ((r.2 + p2) - (r.2 + q2)) % (h : Int) = 0 := Int.emod_eq_emod_iff_emod_sub_eq_zero.mp e2
    have e : (r.2 + p2) - (r.2 + q2) = p2 - q2 := by omega
    rwa [e] at this
  constructor
  · have := Int.emod_eq_emod_iff_emod_sub_eq_zero.mpr c1
    rwa [Int.emod_eq_of_lt a1 a2, Int.emod_eq_of_lt b1 b2] at this
  · have := Int.emod_eq_emod_iff_emod_sub_eq_zero.mpr c2
    rwa [Int.emod_eq_of_lt a3 a4, Int.emod_eq_of_lt b3 b4] at this
/-- d is the order of p -/
structure Od (w h : Nat) (p : P2) (d : Nat) : Prop where
  pos : 1 ≤ d
  le : d ≤ w * h
  z : ml w h d p = (0, 0)
  nz : ∀ k, 1 ≤ k → k < d → ml w h k p ≠ (0, 0)
theorem od_ex (hw : 0 < w) (hh : 0 < h) (p : P2) : ∃ d, Od w h p d := by
  have hpos : 0 < w * h := Nat.mul_pos hw hh
  have hz : ml w h (w * h) p = (0, 0) := by
    simp only [ml, Prod.mk.injEq]
    constructor
    · rw [show ((w * h : Nat) : Int) * p.1 = (w : Int) * ((h : Int) * p.1) by rw [Int.natCast_mul, Int.mul_assoc]]
      exact Int.mul_emod_right _ _
    · rw [show ((w * h : Nat) : Int) * p.2 = (h : Int) * ((w : Int) * p.2) by rw [Int.natCast_mul, Int.mul_comm (w : Int), Int.mul_assoc]]
      exact Int.mul_emod_right _ _
  obtain ⟨k, k1, k2, k3⟩ := least (p := fun n => ml w h (n + 1) p = (0, 0)) (w * h - 1) (by
    show ml w h (w * h - 1 + 1) p = (0, 0)
    rw [Nat.sub_add_cancel hpos]; exact hz)
  refine ⟨k + 1, by omega, by omega, k2, fun j hj1 hj2 e => ?_⟩
  exact k3 (j - 1) (by omega) (by rw [Nat.sub_add_cancel hj1]; exact e)
theorem Od.per {d : Nat} (o : Od w h p d) (hw : 0 < w) (hh : 0 < h) : ml w h (k + d) p = ml w h k p := by
  rw [← ad_ml, o.z, ad_zero (inR_ml hw hh)]
theorem Od.perm {d : Nat} (o : Od w h p d) (hw : 0 < w) (hh : 0 < h) : ∀ m, ml w h (k + m * d) p = ml w h k p
  | 0 => by rw [Nat.zero_mul, Nat.add_zero]
  | m + 1 => by rw [Nat.succ_mul, ← Nat.add_assoc, o.per hw hh, o.perm hw hh m]
theorem Od.md {d : Nat} (o : Od w h p d) (hw : 0 < w) (hh : 0 < h) (n : Nat) : ml w h n p = ml w h (n % d) p := by
  have e : n = n % d + n / d * d := by rw [Nat.mul_comm]; exact (Nat.mod_add_div n d).symm
  have := o.perm (k := n % d) hw hh (n / d)
  rw [← e] at this
  exact this
theorem Od.inj {d : Nat} (o : Od w h p d) (hw : 0 < w) (hh : 0 < h) (hi : i < d) (hj : j < d) (e : ml w h i p = ml w h j p) : i = j := by
  have key : ∀ i j, i < j → j < d → ml w h i p = ml w h j p → False := by
    intro i j h1 h2 e
    have e2 : ad w h (ml w h i p) (0, 0) = ad w h (ml w h i p) (ml w h (j - i) p) := by
      rw [ad_ml, ad_zero (inR_ml hw hh), e]
      congr 1
      omega
    have := ad_cancel (w := w) (h := h) (r := ml w h i p) (p := (0, 0)) (q := ml w h (j - i) p) ⟨by simp; omega, by simp; omega⟩ (inR_ml hw hh) e2
    exact o.nz (j - i) (by omega) (by omega) this.symm
  rcases Nat.lt_trichotomy i j with q | q | q
  · exact (key i j q hj e).elim
  · exact q
  · exact (key j i q hi e.symm).elim
/-- the crossings that p leads to from q -/
def cos (w h : Nat) (g q : P2) (d : Nat) : List P2 := (List.range d).map fun k => ad w h q (ml w h k g)
theorem mem_cos {d : Nat} : r ∈ cos w h g q d ↔ ∃ k < d, ad w h q (ml w h k g) = r := by
  simp [cos]
theorem cos_nodup {d : Nat} (o : Od w h g d) (hw : 0 < w) (hh : 0 < h) : (cos w h g q d).Nodup := by
  unfold cos
  rw [List.Nodup, List.pairwise_map]
  refine List.Pairwise.imp_of_mem ?_ List.nodup_range
  intro i j hi hj hne e
  rw [List.mem_range] at hi hj
  exact hne (o.inj hw hh hi hj (ad_cancel (inR_ml hw hh) (inR_ml hw hh) e))
theorem cos_self {d : Nat} (o : Od w h g d) (hq : inR w h q) : q ∈ cos w h g q d := mem_cos.mpr ⟨0, o.pos, by rw [ml_zero, ad_zero hq]⟩
theorem cos_perm {d : Nat} (o : Od w h g d) (hw : 0 < w) (hh : 0 < h) (hr : r ∈ cos w h g q d) : (cos w h g r d).Perm (cos w h g q d) := by
  refine (List.perm_ext_iff_of_nodup (cos_nodup o hw hh) (cos_nodup o hw hh)).mpr fun x => ?_
  obtain ⟨i, hi, rfl⟩ := mem_cos.mp hr
  have hd := o.pos
  constructor
  · intro hx
    obtain ⟨k, hk, rfl⟩ := mem_cos.mp hx
    refine mem_cos.mpr ⟨(i + k) % d, Nat.mod_lt _ (by omega), ?_⟩
    rw [← o.md hw hh, ad_assoc, ad_ml]
  · intro hx
    obtain ⟨k, hk, rfl⟩ := mem_cos.mp hx
    refine mem_cos.mpr ⟨(k + (d - i)) % d, Nat.mod_lt _ (by omega), ?_⟩
    rw [← o.md hw hh, ad_assoc, ad_ml, show i + (k + (d - i)) = k + d by omega, o.per hw hh]
end
end Pw
set_option maxRecDepth 100000
namespace Pw
open PySem PySem.Spec L2 Pv
section
variable {p q r g a b : P2} {w h : Nat} {i j k : Nat}
theorem ml_range_len {d : Nat} : ((List.range d).map fun k => pE (ml w h k p)).length = d := by simp
theorem rng_succ {d : Nat} : ((List.range (d + 1)).map fun k => pE (ml w h k p)) = ((List.range d).map fun k => pE (ml w h k p)) ++ [pE (ml w h d p)] := by
  rw [List.range_succ, List.map_append]
  rfl
theorem p00 : PyData.tuple [.int 0, .int 0] = pE (0, 0) := rfl
/-! ### sorted -/
def leP (p q : P2) : Bool := decide (p.1 < q.1 ∨ (p.1 = q.1 ∧ p.2 ≤ q.2))
def insP (p : P2) : List P2 → List P2
  | [] => [p]
  | q :: l => if leP p q then p :: q :: l else q :: insP p l
def sortP : List P2 → List P2
  | [] => []
  | p :: l => insP p (sortP l)
theorem lt_pE (p q : P2) : PySem.W.dataLt (pE q) (pE p) = !leP p q := by
  unfold pE leP
  rw [PySem.W.dataLt_ii]
  by_cases h : p.1 < q.1 ∨ (p.1 = q.1 ∧ p.2 ≤ q.2)
  · have h' : ¬ (q.1 < p.1 ∨ (q.1 = p.1 ∧ q.2 < p.2)) := by omega
    simp [h, h']
  · have h' : q.1 < p.1 ∨ (q.1 = p.1 ∧ q.2 < p.2) := by omega
    simp [h, h']
theorem ins_pE (p : P2) : ∀ l : List P2, insD (pE p) (l.map pE) = (insP p l).map pE
  | [] => rfl
  | q :: l => by
    rw [List.map_cons]
    unfold insD insP
    rw [lt_pE]
    cases h : leP p q with
    | true => simp
    | false => simp [ins_pE p l]
theorem sort_pE : ∀ l : List P2, isortD (l.map pE) = (sortP l).map pE
  | [] => rfl
  | p :: l => by
    rw [List.map_cons]
    unfold isortD sortP
    rw [sort_pE l, ins_pE]
theorem insP_perm (p : P2) : ∀ l : List P2, (insP p l).Perm (p :: l)
  | [] => .refl _
  | q :: l => by
    unfold insP
    split
    · exact .refl _
    · exact ((insP_perm p l).cons q).trans (.swap p q l)
theorem sortP_perm : ∀ l : List P2, (sortP l).Perm l
  | [] => .refl _
  | p :: l => (insP_perm p _).trans ((sortP_perm l).cons p)
theorem leP_total (p q : P2) : leP p q = true ∨ leP q p = true := by
  unfold leP
  simp only [decide_eq_true_eq]
  omega
theorem leP_trans {p q r : P2} (h1 : leP p q = true) (h2 : leP q r = true) : leP p r = true := by
  unfold leP at *
  simp only [decide_eq_true_eq] at *
  omega
theorem leP_anti {p q : P2} (h1 : leP p q = true) (h2 : leP q p = true) : p = q := by
  obtain ⟨p1, p2⟩ := p
  obtain ⟨q1, q2⟩ := q
  unfold leP at *
  simp only [decide_eq_true_eq, Prod.mk.injEq] at *
  omega
theorem insP_sorted (p : P2) : ∀ {l : List P2}, l.Pairwise (fun a b => leP a b = true) → (insP p l).Pairwise (fun a b => leP a b = true)
  | [], _ => by simp [insP]
  | q :: l, h => by
    rw [List.pairwise_cons] at h
    unfold insP
    cases e : leP p q with
    | true =>
      rw [if_pos rfl]
      refine List.pairwise_cons.mpr ⟨fun x hx => ?_, List.pairwise_cons.mpr h⟩
      rcases List.mem_cons.mp hx with z | z
      · rw [z]; exact e
      · exact leP_trans e (h.1 x z)
    | false =>
      rw [if_neg (by simp)]
      have e2 : leP q p = true := by
        rcases leP_total p q with z | z
        · rw [e] at z; cases z
        · exact z
      refine List.pairwise_cons.mpr ⟨fun x hx => ?_, insP_sorted p h.2⟩
      have hx' := (insP_perm p l).mem_iff.mp hx
      rcases List.mem_cons.mp hx' with z | z
      · rw [z]; exact e2
      · exact h.1 x z
theorem sortP_sorted : ∀ l : List P2, (sortP l).Pairwise (fun a b => leP a b = true)
  | [] => .nil
  | p :: l => insP_sorted p (sortP_sorted l)
theorem sortP_eq {l m : List P2} (h : l.Perm m) : sortP l = sortP m :=
  List.Perm.eq_of_pairwise (le := fun a b => leP a b = true) (fun a b _ _ h1 h2 => leP_anti h1 h2) (sortP_sorted l) (sortP_sorted m) ((sortP_perm l).trans (h.trans (sortP_perm m).symm))
theorem canLay_pE : ∀ l : List P2, PyData.canLayAll0 (l.map pE) = true
  | [] => rfl
  | p :: l => by
    show (PyData.canLay0 (pE p) && PyData.canLayAll0 (l.map pE)) = true
    rw [canLay_pE l]
    rfl
theorem sortOk_pE (l : List P2) (hl : l.length ≤ 100000) : sortOk (l.map pE) = true := by
  unfold sortOk alikesD
  rw [canLay_pE]
  have h1 : (l.map pE).all tup1 = true := by simp [pE, tup1]
  have h2 : ((l.map pE).all fun x => (l.map pE).all fun y => PySem.W.alike x y) = true := by
    simp [pE, PySem.W.alike, PySem.W.alikeAll]
  have h3 : ((l.map pE).all fun d => decide (d.depth ≤ 60)) = true := by
    simp [pE, PyData.depth, PyData.depthAll]
  rw [h1, h2, h3]
  simp
  omega
theorem depth_pE : ∀ l : List P2, PyData.depthAll (l.map pE) ≤ 1
  | [] => by simp [PyData.depthAll]
  | p :: l => by
    have := depth_pE l
    simp only [List.map_cons, pE, PyData.depthAll, PyData.depth]
    simp
    omega
end
end Pw
set_option maxRecDepth 100000
namespace Pw
open PySem PySem.Spec L2 Pv
theorem lentM_ns {s : Slot} {ρ : Rho} (hs : isLent s = false) : lentM (s :: ρ) = lentM ρ := by
  cases s with
  | lent m => cases hs
  | _ => rfl
section
variable {p q r g a b : P2} {w h : Nat} {i j k : Nat}
theorem shp_lpE (l : List P2) : SeqAt.shaped (.list (l.map pE)) = true := by
  unfold SeqAt.shaped
  have h1 : PyData.canLay0 (.list (l.map pE)) = true := canLay_pE l
  have h2 := depth_pE l
  rw [h1]
  simp [PyData.depth]
  omega
theorem in_pE (p : P2) (l : List P2) : in? (pE p) (.list (l.map pE)) = some (decide (p ∈ l)) := by
  show (if SeqAt.shaped (pE p) && SeqAt.shaped (.list (l.map pE)) then some ((l.map pE).any fun z => PyData.eqv z (pE p)) else none) = _
  rw [shp_pE, shp_lpE]
  simp only [Bool.and_self, if_true, Option.some.injEq]
  rw [List.any_map]
  rw [Bool.eq_iff_iff]
  simp [eqv_pE]
@[simp] theorem gNotIn_pE (p : P2) (l : List P2) : gNotIn (pE p) (.list (l.map pE)) = some (.val (.bool (!decide (p ∈ l)))) := by
  unfold gNotIn
  rw [in_pE]
  rfl
@[simp] theorem gIn_pE (p : P2) (l : List P2) : gIn (pE p) (.list (l.map pE)) = some (.val (.bool (decide (p ∈ l)))) := by
  unfold gIn
  rw [in_pE]
  rfl
def lE (l : List P2) : PyData := .tuple (l.map pE)
theorem eqvAll_pE : ∀ l m : List P2, PyData.eqvAll (l.map pE) (m.map pE) = decide (l = m)
  | [], [] => by simp [PyData.eqvAll]
  | [], _ :: _ => by simp [PyData.eqvAll]
  | _ :: _, [] => by simp [PyData.eqvAll]
  | p :: l, q :: m => by
    simp only [List.map_cons, PyData.eqvAll, eqv_pE, eqvAll_pE l m, List.cons.injEq]
    by_cases h1 : p = q <;> by_cases h2 : l = m <;> simp [h1, h2]
theorem eqv_lE (l m : List P2) : PyData.eqv (lE l) (lE m) = decide (l = m) := by
  unfold lE
  rw [PyData.eqv]
  exact eqvAll_pE l m
theorem shp_lE (l : List P2) : SeqAt.shaped (lE l) = true := by
  unfold SeqAt.shaped
  have h1 : PyData.canLay0 (lE l) = true := canLay_pE l
  have h2 := depth_pE l
  rw [h1]
  simp [lE, PyData.depth]
  omega
theorem canLay_lE : ∀ L : List (List P2), PyData.canLayAll0 (L.map lE) = true
  | [] => rfl
  | l :: L => by
    show (PyData.canLay0 (lE l) && PyData.canLayAll0 (L.map lE)) = true
    rw [canLay_lE L, show PyData.canLay0 (lE l) = true from canLay_pE l]
    rfl
theorem depth_lE : ∀ L : List (List P2), PyData.depthAll (L.map lE) ≤ 2
  | [] => by simp [PyData.depthAll]
  | l :: L => by
    have h1 := depth_lE L
    have h2 := depth_pE l
    simp only [List.map_cons, PyData.depthAll]
    simp only [lE, PyData.depth]
    omega
theorem in_lE (l : List P2) (L : List (List P2)) : in? (lE l) (.list (L.map lE)) = some (decide (l ∈ L)) := by
  have hs : SeqAt.shaped (.list (L.map lE)) = true := by
    unfold SeqAt.shaped
    have h1 : PyData.canLay0 (.list (L.map lE)) = true := canLay_lE L
    have h2 := depth_lE L
    rw [h1]
    simp [PyData.depth]
    omega
  show (if SeqAt.shaped (lE l) && SeqAt.shaped (.list (L.map lE)) then some ((L.map lE).any fun z => PyData.eqv z (lE l)) else none) = _
  rw [shp_lE, hs]
  simp only [Bool.and_self, if_true, Option.some.injEq]
  rw [List.any_map]
  rw [Bool.eq_iff_iff]
  simp [eqv_lE]
@[simp] theorem gNotIn_lE (l : List P2) (L : List (List P2)) : gNotIn (lE l) (.list (L.map lE)) = some (.val (.bool (!decide (l ∈ L)))) := by
  unfold gNotIn
  rw [in_lE]
  rfl
theorem cos_length {d : Nat} : (cos w h g q d).length = d := by simp [cos]
theorem cos_map {d : Nat} : (cos w h g q d).map pE = (List.range d).map fun k => pE (ad w h q (ml w h k g)) := by simp [cos]
theorem cos_succ {d : Nat} : cos w h g q (d + 1) = cos w h g q d ++ [ad w h q (ml w h d g)] := by
  unfold cos
  rw [List.range_succ, List.map_append]
  rfl
/-- lots, one by one from the front -/
def lotsA (w h : Nat) (g : P2) (d : Nat) : Nat → List P2 → List (List P2) → List (List P2)
  | 0, _, found => found
  | _ + 1, [], found => found
  | n + 1, q :: l, found => lotsA w h g d n ((q :: l).filter fun r => !decide (r ∈ cos w h g q d)) (found ++ [sortP (cos w h g q d)])
theorem lots_inner (hw : 0 < w) (hh : 0 < h) (hq : inR w h q) {d : Nat} (o : Od w h g d) (hd : d < 999) (L F : Slot) (c : Slot) :
    gWhile (fB (fOp gNotIn (fVar 4) (fVar 5))) (gSeq (gExpr (fAppend (fVar 5) (fVar 4))) (gSet 4 (fCall F_added (cConsF (fVar 0) (cConsF (fVar 4) (cConsF (fVar 1) rNil))))))
      [.val (tE w h a b), .val (pE g), L, F, .val (pE q), .own (.lst []), c] = .nx [.val (tE w h a b), .val (pE g), L, F, .val (pE q), .own (.lst ((cos w h g q d).map pE)), c] := by
  rw [gWhile_eq]
  have key := whileL_count (t := fB (fOp gNotIn (fVar 4) (fVar 5))) (body := gSeq (gExpr (fAppend (fVar 5) (fVar 4))) (gSet 4 (fCall F_added (cConsF (fVar 0) (cConsF (fVar 4) (cConsF (fVar 1) rNil))))))
    (fun k => [.val (tE w h a b), .val (pE g), L, F, .val (pE (ad w h q (ml w h k g))), .own (.lst ((cos w h g q k).map pE)), c]) d (ρe := [.val (tE w h a b), .val (pE g), L, F, .val (pE q), .own (.lst ((cos w h g q d).map pE)), c]) (by
      intro k hk
      have nm : ¬ ad w h q (ml w h k g) ∈ cos w h g q k := fun z => by
        obtain ⟨j, hj, e⟩ := mem_cos.mp z
        have := o.inj hw hh (by omega) hk (ad_cancel (inR_ml hw hh) (inR_ml hw hh) e)
        omega
      have l1 : (cos w h g q k).length < 16777216 := by rw [cos_length]; omega
      refine ⟨_, by simp [nm]; rfl, ?_⟩
      simp [F_added_eq hw hh, ad_assoc, ad_ml_one, cos_succ, l1]) (by
      have hin : q ∈ cos w h g q d := cos_self o hq
      simp [o.z, ad_zero hq, hin]) (fu := 1000) (by omega)
  rw [ml_zero, ad_zero hq] at key
  exact key
theorem lots_loop (hw : 0 < w) (hh : 0 < h) {d : Nat} (o : Od w h g d) (hd : d < 999) : ∀ (n : Nat) (left : List P2) (found : List (List P2)) (s4 s5 : Slot), left.length < n → (∀ q ∈ left, inR w h q) → left.length + found.length < 10000 → isLent s4 = false → isLent s5 = false →
    ∃ s4' s5', isLent s4' = false ∧ isLent s5' = false ∧ whileL (fT (fVar 2)) (gSeq (gPar2 4 5 (oCons (fOp gIx (fVar 2) (fC (.int 0))) (oCons (fLst fNil) rNil)))
    (gSeq (gWhile (fB (fOp gNotIn (fVar 4) (fVar 5))) (gSeq (gExpr (fAppend (fVar 5) (fVar 4)))
    (gSet 4 (fCall F_added (cConsF (fVar 0) (cConsF (fVar 4) (cConsF (fVar 1) rNil)))))))
    (gSeq (gExpr (fAppend (fVar 3) (fCB gTuple (rCons (fCB gSorted (rCons (fVar 5) rNil)) rNil))))
    (gSet 2 (fLc (fISeq (fVar 2)) (gtName 6) (fB (fOp gNotIn (fVar 6) (fVar 5))) (fVar 6) [6]))))) n
      [.val (tE w h a b), .val (pE g), .own (.lst (left.map pE)), .own (.lst (found.map lE)), s4, s5, .no] = .nx [.val (tE w h a b), .val (pE g), .own (.lst []), .own (.lst ((lotsA w h g d n left found).map lE)), s4', s5', .no]
  | 0, left, _, _, _, hl, _, _, _, _ => by omega
  | n + 1, [], found, s4, s5, _, _, _, h4, h5 => ⟨s4, s5, h4, h5, whileL_stop (by simp [lotsA])⟩
  | n + 1, q :: l, found, s4, s5, hl, hR, hz, h4, h5 => by
    have hq := hR q List.mem_cons_self
    rw [List.length_cons] at hl hz
    have hin : q ∈ cos w h g q d := cos_self o hq
    have hflen : (l.filter fun r => !decide (r ∈ cos w h g q d)).length ≤ l.length := List.length_filter_le _ _
    have efil : ((q :: l).filter fun r => !decide (r ∈ cos w h g q d)) = l.filter fun r => !decide (r ∈ cos w h g q d) := by
      rw [List.filter_cons_of_neg]
      simp [hin]
    obtain ⟨s4', s5', g4, g5, e⟩ := lots_loop hw hh o hd n (l.filter fun r => !decide (r ∈ cos w h g q d)) (found ++ [sortP (cos w h g q d)]) (.val (pE q)) (.own (.lst ((cos w h g q d).map pE))) (by omega) (fun r hr => hR r (List.mem_cons_of_mem _ (List.mem_filter.mp hr).1)) (by rw [List.length_append, List.length_singleton]; omega) rfl rfl
    refine ⟨s4', s5', g4, g5, ?_⟩
    have inner := lots_inner (a := a) (b := b) (q := q) hw hh hq o hd (.own (.lst ((q :: l).map pE))) (.own (.lst (found.map lE))) .no
    have so := sortOk_pE (cos w h g q d) (by rw [cos_length]; omega)
    have lf : found.length < 16777216 := by omega
    have ll : l.length + 1 ≤ 16777216 := by omega
    have comp : lcL (gtName 6) (fB (fOp gNotIn (fVar 6) (fVar 5))) (fVar 6) [6] ((q :: l).map pE)
        [.val (tE w h a b), .val (pE g), .val (.list ((q :: l).map pE)), .own (.lst (found.map lE ++ [lE (sortP (cos w h g q d))])), .val (pE q), .own (.lst ((cos w h g q d).map pE)), .no] =
        .ok (((q :: l).filter fun r => !decide (r ∈ cos w h g q d)).map pE) [.val (tE w h a b), .val (pE g), .val (.list ((q :: l).map pE)), .own (.lst (found.map lE ++ [lE (sortP (cos w h g q d))])), .val (pE q), .own (.lst ((cos w h g q d).map pE)), .no] :=
      lcL_pure pE (fun r => [.val (tE w h a b), .val (pE g), .val (.list ((q :: l).map pE)), .own (.lst (found.map lE ++ [lE (sortP (cos w h g q d))])), .val (pE q), .own (.lst ((cos w h g q d).map pE)), .val (pE r)]) (fun r => !decide (r ∈ cos w h g q d)) pE (q :: l) (by
        intro r _
        exact ⟨by simp, by simp, fun _ => by simp, by simp⟩)
    rw [whileL_step (ρ1 := [.val (tE w h a b), .val (pE g), .own (.lst ((q :: l).map pE)), .own (.lst (found.map lE)), s4, s5, .no]) (ρ2 := [.val (tE w h a b), .val (pE g), .own (.lst ((l.filter fun r => !decide (r ∈ cos w h g q d)).map pE)), .own (.lst ((found ++ [sortP (cos w h g q d)]).map lE)), .val (pE q), .own (.lst ((cos w h g q d).map pE)), .no]) (by simp) ?_]
    · rw [e]
      show _ = SO.nx [_, _, _, .own (.lst ((lotsA w h g d (n + 1) (q :: l) found).map lE)), _, _, _]
      rw [show lotsA w h g d (n + 1) (q :: l) found = lotsA w h g d n ((q :: l).filter fun r => !decide (r ∈ cos w h g q d)) (found ++ [sortP (cos w h g q d)]) from rfl, efil]
    · rw [efil] at comp
      rw [List.map_cons] at inner comp
      have elE : PyData.tuple ((sortP (cos w h g q d)).map pE) = lE (sortP (cos w h g q d)) := rfl
      simp [h4, h5, inner, so, sort_pE, lf, ll, elE, comp]
end
end Pw
set_option maxRecDepth 100000
namespace Pw
open PySem PySem.Spec L2 Pv
section
variable {p q r g a b : P2} {w h : Nat} {i j k : Nat}
theorem inR_crs (hp : p ∈ crs w h) : inR w h p := mem_crs.mp hp
theorem TOk.wh144 (t : TOk w h a b) : w * h ≤ 144 := Nat.mul_le_mul t.w2 t.h2
/-! ### the law's own -/
def stepB (w h : Nat) (g : P2) (d : Nat) (found : List (List P2)) (q : P2) : List (List P2) := if sortP (cos w h g q d) ∈ found then found else found ++ [sortP (cos w h g q d)]
theorem stepB_len {d : Nat} (found : List (List P2)) : (stepB w h g d found q).length ≤ found.length + 1 := by
  unfold stepB
  split
  · omega
  · simp
theorem lawlots_body (hw : 0 < w) (hh : 0 < h) {d : Nat} (o : Od w h g d) (hd : d < 999) (rs : Slot) (hrs : rs = .own (.lst ((List.range d).map fun k => pE (ml w h k g))) ∨ rs = .val (.list ((List.range d).map fun k => pE (ml w h k g)))) (found : List (List P2)) (hf : found.length < 10000) (s4 : Slot) (h4 : isLent s4 = false) (q : P2) :
    (gSeq (gSet 4 (fCB gTuple (rCons (fCB gSorted (rCons (fLc (fISeq (fVar 1)) (gtName 5) fYes (fCall F_law_led (cConsF (fVar 0) (cConsF (fVar 3) (cConsF (fVar 5) rNil)))) [5]) rNil)) rNil)))
    (gIf (fB (fOp gNotIn (fVar 4) (fVar 2))) (gExpr (fAppend (fVar 2) (fVar 4))) gSkip)) [.val (tE w h a b), rs, .own (.lst (found.map lE)), .val (pE q), s4, .no] =
      .nx [.val (tE w h a b), .val (.list ((List.range d).map fun k => pE (ml w h k g))), .own (.lst ((stepB w h g d found q).map lE)), .val (pE q), .val (lE (sortP (cos w h g q d))), .no] := by
  have comp : lcL (gtName 5) fYes (fCall F_law_led (cConsF (fVar 0) (cConsF (fVar 3) (cConsF (fVar 5) rNil)))) [5] ((List.range d).map fun k => pE (ml w h k g))
      [.val (tE w h a b), .val (.list ((List.range d).map fun k => pE (ml w h k g))), .own (.lst (found.map lE)), .val (pE q), s4, .no] = .ok ((cos w h g q d).map pE)
      [.val (tE w h a b), .val (.list ((List.range d).map fun k => pE (ml w h k g))), .own (.lst (found.map lE)), .val (pE q), s4, .no] := by
    have z := lcL_pure (tg := gtName 5) (tt := fYes) (el := fCall F_law_led (cConsF (fVar 0) (cConsF (fVar 3) (cConsF (fVar 5) rNil)))) (vs := [5]) (ρ := [.val (tE w h a b), .val (.list ((List.range d).map fun k => pE (ml w h k g))), .own (.lst (found.map lE)), .val (pE q), s4, .no]) (fun k => pE (ml w h k g)) (fun k => [.val (tE w h a b), .val (.list ((List.range d).map fun k => pE (ml w h k g))), .own (.lst (found.map lE)), .val (pE q), s4, .val (pE (ml w h k g))]) (fun _ => true) (fun k => pE (ad w h q (ml w h k g))) (List.range d) (by
      intro k _
      exact ⟨by simp, rfl, fun _ => by simp [F_led_eq hw hh], by simp⟩)
    rw [filt_true, ← cos_map] at z
    exact z
  have so := sortOk_pE (cos w h g q d) (by rw [cos_length]; omega)
  have elE : PyData.tuple ((sortP (cos w h g q d)).map pE) = lE (sortP (cos w h g q d)) := rfl
  have ld : d ≤ 16777216 := by omega
  have lf : found.length < 16777216 := by omega
  rcases hrs with rfl | rfl
  · by_cases hm : sortP (cos w h g q d) ∈ found
    · simp [comp, so, sort_pE, elE, ld, h4, hm, stepB]
    · simp [comp, so, sort_pE, elE, ld, h4, hm, stepB, lf]
  · by_cases hm : sortP (cos w h g q d) ∈ found
    · simp [comp, so, sort_pE, elE, ld, h4, hm, stepB]
    · simp [comp, so, sort_pE, elE, ld, h4, hm, stepB, lf]
def fB_ (w h : Nat) (g : P2) (d : Nat) (l : List P2) : List (List P2) := l.foldl (stepB w h g d) []
theorem fB_len {d : Nat} : ∀ (l : List P2), (fB_ w h g d l).length ≤ l.length := by
  have key : ∀ (l : List P2) (f : List (List P2)), (l.foldl (stepB w h g d) f).length ≤ f.length + l.length := by
    intro l
    induction l with
    | nil => intro f; simp
    | cons q l ih =>
      intro f
      have h1 := ih (stepB w h g d f q)
      have h2 := stepB_len (w := w) (h := h) (g := g) (q := q) (d := d) f
      rw [List.foldl_cons, List.length_cons]
      omega
  intro l
  have := key l []
  show (l.foldl (stepB w h g d) []).length ≤ _
  simpa using this
end
end Pw
set_option maxRecDepth 100000
namespace Pw
open PySem PySem.Spec L2 Pv
section
variable {p q r g a b : P2} {w h : Nat} {i j k : Nat}
theorem same_cos (hw : 0 < w) (hh : 0 < h) {d : Nat} (o : Od w h g d) (hr : inR w h r) : r ∈ cos w h g q d ↔ sortP (cos w h g r d) = sortP (cos w h g q d) := by
  constructor
  · intro z
    exact sortP_eq (cos_perm o hw hh z)
  · intro e
    have h1 : r ∈ sortP (cos w h g r d) := (sortP_perm _).mem_iff.mpr (cos_self o hr)
    rw [e] at h1
    exact (sortP_perm _).mem_iff.mp h1
theorem lotsA_eq (hw : 0 < w) (hh : 0 < h) {d : Nat} (o : Od w h g d) : ∀ (rest : List P2) (found : List (List P2)) (n : Nat), rest.length ≤ n → (∀ q ∈ rest, inR w h q) →
    lotsA w h g d n (rest.filter fun r => !decide (sortP (cos w h g r d) ∈ found)) found = rest.foldl (stepB w h g d) found
  | [], found, n, _, _ => by cases n <;> rfl
  | q :: rest, found, n, hn, hR => by
    have hR' : ∀ q ∈ rest, inR w h q := fun x hx => hR x (List.mem_cons_of_mem _ hx)
    rw [List.length_cons] at hn
    by_cases hm : sortP (cos w h g q d) ∈ found
    · rw [List.filter_cons_of_neg (by simp [hm]), List.foldl_cons, show stepB w h g d found q = found by unfold stepB; rw [if_pos hm]]
      exact lotsA_eq hw hh o rest found n (by omega) hR'
    · rw [List.filter_cons_of_pos (by simp [hm]), List.foldl_cons, show stepB w h g d found q = found ++ [sortP (cos w h g q d)] by unfold stepB; rw [if_neg hm]]
      obtain ⟨n', rfl⟩ : ∃ n', n = n' + 1 := ⟨n - 1, by omega⟩
      show lotsA w h g d n' ((q :: rest.filter fun r => !decide (sortP (cos w h g r d) ∈ found)).filter fun r => !decide (r ∈ cos w h g q d)) (found ++ [sortP (cos w h g q d)]) = _
      have hin : q ∈ cos w h g q d := cos_self o (hR q List.mem_cons_self)
      rw [List.filter_cons_of_neg (by simp [hin]), List.filter_filter]
      rw [← lotsA_eq hw hh o rest (found ++ [sortP (cos w h g q d)]) n' (by omega) hR']
      congr 1
      apply List.filter_congr
      intro r hr
      have hc := same_cos (q := q) hw hh o (hR' r hr)
      rw [Bool.eq_iff_iff]
      simp [hc]
      constructor
      · rintro ⟨h1, h2⟩; exact ⟨h2, h1⟩
      · rintro ⟨h1, h2⟩; exact ⟨h2, h1⟩
theorem lots_same (hw : 0 < w) (hh : 0 < h) {d : Nat} (o : Od w h g d) (hl : (crs w h).length ≤ 1000) : lotsA w h g d 1000 (crs w h) [] = fB_ w h g d (crs w h) := by
  have := lotsA_eq hw hh o (crs w h) [] 1000 hl fun q hq => inR_crs hq
  simp only [List.not_mem_nil, decide_false, Bool.not_false, filt_true] at this
  exact this
/-! ### alike -/
def alD : Nat → PyData → Bool
  | _, .none => true
  | _, .bool _ => true
  | _, .int _ => true
  | _, .str _ => false
  | _, .dict _ => false
  | 0, .tuple _ => false
  | 0, .list _ => false
  | n + 1, .tuple ds => decide (ds.length ≤ 100000) && ds.all (alD n)
  | n + 1, .list ds => decide (ds.length ≤ 100000) && ds.all (alD n)
@[simp] theorem eqD_0 : eqD? (.list []) (.list []) = some true := rfl
@[simp] theorem gEq_0 : gEq (.list []) (.list []) = some (.val (.bool true)) := rfl
theorem alike_seq (Fr : FN) (d : PyData) (ds : List PyData) (hd : d = .list ds ∨ d = .tuple ds) (hl : ds.length ≤ 100000) (hf : ∀ x ∈ ds, Fr [.val x, .val x] = .ok (.val (.bool true)) none) : fnF 3 (g_law_alike Fr) [.val d, .val d] = .ok (.val (.bool true)) none := by
  have ok := okR_nat ds.length (by omega)
  have ll : ds.length ≤ 16777216 := by omega
  have comp : lcL (gtName 2) (fNot (fT (fCall Fr (cCons (fOp gIx (fVar 0) (fVar 2)) (cCons (fOp gIx (fVar 1) (fVar 2)) rNil))))) (fVar 2) [2] ((List.range ds.length).map fun i : Nat => PyData.int i) [.val d, .val d, .no] = .ok [] [.val d, .val d, .no] := by
    have z := lcL_pure (tg := gtName 2) (tt := fNot (fT (fCall Fr (cCons (fOp gIx (fVar 0) (fVar 2)) (cCons (fOp gIx (fVar 1) (fVar 2)) rNil))))) (el := fVar 2) (vs := [2]) (ρ := [.val d, .val d, .no]) (fun i : Nat => PyData.int i) (fun i => [.val d, .val d, .val (.int i)]) (fun _ => false) (fun i => PyData.int i) (List.range ds.length) (by
      intro i hi
      rw [List.mem_range] at hi
      have e : gIx d (.int i) = some (.val ds[i]) := by
        rcases hd with rfl | rfl
        · simp [atI_nat', hi]
        · simp [atI_nat', hi]
      exact ⟨by simp, by simp [e, hf ds[i] (List.getElem_mem hi)], (fun z => by cases z), by simp⟩)
    rw [z]
    simp
  rcases hd with rfl | rfl
  · simp [g_law_alike, ok, rangeD_map, comp, ll]
  · simp [g_law_alike, ok, rangeD_map, comp, ll]
@[simp] theorem gEq_n : gEq .none .none = some (.val (.bool true)) := rfl
theorem alike_refl : ∀ (n : Nat) (d : PyData), alD n d = true → F_law_alike (n + 1) [.val d, .val d] = .ok (.val (.bool true)) none
  | n, .none, _ => by
    show fnF 3 (g_law_alike (F_law_alike n)) _ = _
    simp [g_law_alike]
  | n, .bool c, _ => by
    show fnF 3 (g_law_alike (F_law_alike n)) _ = _
    simp [g_law_alike]
  | n, .int c, _ => by
    show fnF 3 (g_law_alike (F_law_alike n)) _ = _
    simp [g_law_alike]
  | n, .str c, h => by cases n <;> cases h
  | n, .dict _, h => by cases n <;> cases h
  | 0, .tuple _, h => by cases h
  | 0, .list _, h => by cases h
  | n + 1, .tuple ds, h => by
    simp only [alD, Bool.and_eq_true, decide_eq_true_eq, List.all_eq_true] at h
    exact alike_seq (F_law_alike (n + 1)) _ ds (.inr rfl) h.1 fun x hx => alike_refl n x (h.2 x hx)
  | n + 1, .list ds, h => by
    simp only [alD, Bool.and_eq_true, decide_eq_true_eq, List.all_eq_true] at h
    exact alike_seq (F_law_alike (n + 1)) _ ds (.inl rfl) h.1 fun x hx => alike_refl n x (h.2 x hx)
end
end Pw
set_option maxRecDepth 100000
namespace Pw
open PySem PySem.Spec L2 Pv
section
variable {p q r g a b : P2} {w h : Nat} {i j k : Nat}
/-- one crossing more -/
def add1 (st : List P2 × List P2) (t : P2) : List P2 × List P2 := if t ∈ st.1 then st else (st.1 ++ [t], st.2 ++ [t])
structure Bw where
  f : List P2
  l : List P2
  s3 : Slot
  s4 : Slot
  s5 : Slot
def lastP (l : List P2) : P2 := l.getLast?.getD (0, 0)
def stepW (w h : Nat) (a b : P2) (x : Bw) : Bw :=
  let p := lastP x.l
  let y := add1 (add1 (x.f, x.l.dropLast) (ad w h p a)) (ad w h p b)
  ⟨y.1, y.2, .val (pE p), .val (pE b), .val (pE (ad w h p b))⟩
structure PW (w h : Nat) (x : Bw) : Prop where
  nd : x.f.Nodup
  inr : ∀ q ∈ x.f, q ∈ crs w h
  n3 : isLent x.s3 = false
  n4 : isLent x.s4 = false
  n5 : isLent x.s5 = false
  ll : x.l.length ≤ 1000
theorem add1_ok (hw : 0 < w) (hh : 0 < h) {st : List P2 × List P2} {t : P2} (ht : inR w h t) (h1 : st.1.Nodup) (h2 : ∀ q ∈ st.1, q ∈ crs w h) : (add1 st t).1.Nodup ∧ (∀ q ∈ (add1 st t).1, q ∈ crs w h) ∧ (add1 st t).2.length + st.1.length = st.2.length + (add1 st t).1.length ∧ st.1.length ≤ (add1 st t).1.length := by
  unfold add1
  by_cases hm : t ∈ st.1
  · rw [if_pos hm]
    exact ⟨h1, h2, rfl, Nat.le_refl _⟩
  · rw [if_neg hm]
    refine ⟨?_, fun q hq => ?_, ?_, ?_⟩
    · refine List.nodup_append.mpr ⟨h1, by simp, fun x hx y hy e => ?_⟩
      rw [List.mem_singleton] at hy
      subst hy e
      exact hm hx
    · rcases List.mem_append.mp hq with hq | hq
      · exact h2 q hq
      · rw [List.mem_singleton] at hq
        subst hq
        exact mem_crs.mpr ht
    · simp; omega
    · simp
def mW (w h : Nat) (x : Bw) : Nat := 2 * (w * h - x.f.length) + x.l.length
theorem stepW_ok (hw : 0 < w) (hh : 0 < h) (h144 : w * h ≤ 144) {x : Bw} (hx : PW w h x) (hl : x.l ≠ []) (hb : x.l.length ≤ x.f.length) : PW w h (stepW w h a b x) ∧ mW w h (stepW w h a b x) < mW w h x ∧ (stepW w h a b x).l.length ≤ (stepW w h a b x).f.length := by
  obtain ⟨a1, a2, a3, a4⟩ := add1_ok hw hh (st := (x.f, x.l.dropLast)) (t := ad w h (lastP x.l) a) (inR_ad hw hh) hx.nd hx.inr
  obtain ⟨b1, b2, b3, b4⟩ := add1_ok hw hh (st := add1 (x.f, x.l.dropLast) (ad w h (lastP x.l) a)) (t := ad w h (lastP x.l) b) (inR_ad hw hh) a1 a2
  have hlp : 0 < x.l.length := List.length_pos_iff.mpr hl
  have l1 : (stepW w h a b x).f.length ≤ w * h := by rw [← crs_length]; exact nodup_len b1 b2
  have l0 : x.f.length ≤ w * h := by rw [← crs_length]; exact nodup_len hx.nd hx.inr
  have ed : x.l.dropLast.length = x.l.length - 1 := List.length_dropLast
  simp only at a3 a4
  rw [ed] at a3
  have e1 : (stepW w h a b x).f = (add1 (add1 (x.f, x.l.dropLast) (ad w h (lastP x.l) a)) (ad w h (lastP x.l) b)).1 := rfl
  have e2 : (stepW w h a b x).l = (add1 (add1 (x.f, x.l.dropLast) (ad w h (lastP x.l) a)) (ad w h (lastP x.l) b)).2 := rfl
  rw [e1] at l1
  refine ⟨⟨b1, b2, rfl, rfl, rfl, ?_⟩, ?_, ?_⟩
  · rw [e2]; omega
  · unfold mW
    rw [e1, e2]
    omega
  · rw [e1, e2]; omega
@[simp] theorem gSl_tE : gSl (tE w h a b) (some 2) none = some (.val (.tuple [pE a, pE b])) := rfl
@[simp] theorem forL_nil {tg : GF} {body : SF} {ρ : Rho} : forL tg body [] ρ = .nx ρ := rfl
theorem forL_one {tg : GF} {body : SF} {d : PyData} {ds : List PyData} {ρ ρ1 ρ2 : Rho} (h1 : tg d ρ = some ρ1) (h2 : body ρ1 = .nx ρ2) : forL tg body (d :: ds) ρ = forL tg body ds ρ2 := by
  show (match tg d ρ with | none => _ | some ρ1 => _) = _
  simp only [h1, h2]
theorem last_pE {l : List P2} (hl : l ≠ []) : (l.map pE)[(l.map pE).length - 1]? = some (pE (lastP l)) := by
  rw [List.length_map, List.getElem?_map, ← List.getLast?_eq_getElem?]
  unfold lastP
  rw [List.getLast?_eq_getLast hl]
  rfl
theorem gNe_empty (l : List P2) : gNe (.list (l.map pE)) (.list []) = some (.val (.bool (!l.isEmpty))) := by
  unfold gNe eqD?
  rw [shp_lpE, show SeqAt.shaped (.list []) = true from rfl]
  cases l <;> rfl
/-! the law's own search -/
def lawInner : SF := gSeq (gSet 5 (fCall F_law_led (cConsF (fVar 0) (cConsF (fVar 3) (cConsF (fVar 4) rNil)))))
    (gIf (fB (fOp gNotIn (fVar 5) (fVar 1))) (gSeq (gExpr (fAppend (fVar 1) (fVar 5)))
    (gExpr (fAppend (fVar 2) (fVar 5)))) gSkip)
theorem lawInner_eq (hw : 0 < w) (hh : 0 < h) (st : List P2 × List P2) (s : P2) (s5 : Slot) (h5 : isLent s5 = false) (l1 : st.1.length ≤ 10000) (l2 : st.2.length ≤ 10000) :
    lawInner [.val (tE w h a b), .own (.lst (st.1.map pE)), .own (.lst (st.2.map pE)), .val (pE p), .val (pE s), s5] =
      .nx [.val (tE w h a b), .own (.lst ((add1 st (ad w h p s)).1.map pE)), .own (.lst ((add1 st (ad w h p s)).2.map pE)), .val (pE p), .val (pE s), .val (pE (ad w h p s))] := by
  have m1 : st.1.length < 16777216 := by omega
  have m2 : st.2.length < 16777216 := by omega
  by_cases hm : ad w h p s ∈ st.1
  · simp [lawInner, F_led_eq hw hh, h5, hm, add1]
  · simp [lawInner, F_led_eq hw hh, h5, hm, add1, m1, m2]
def RW1 (w h : Nat) (a b : P2) (x : Bw) : Rho := [.val (tE w h a b), .own (.lst (x.f.map pE)), .own (.lst (x.l.map pE)), x.s3, x.s4, x.s5]
def PB (w h : Nat) (x : Bw) : Prop := PW w h x ∧ x.l.length ≤ x.f.length
theorem len_le (hx : PW w h x) (h144 : w * h ≤ 144) : x.f.length ≤ 144 := by
  have := nodup_len hx.nd hx.inr
  rw [crs_length] at this
  omega
theorem law_body (hw : 0 < w) (hh : 0 < h) (h144 : w * h ≤ 144) {x : Bw} (hx : PB w h x) (hl : x.l ≠ []) :
    (gSeq (gSet 3 (fPop (fVar 2))) (gFor (fISeq (fSl (fVar 0) (fPart (fC (.int 2))) fNoPart)) (gtName 4) lawInner)) (RW1 w h a b x) = .nx (RW1 w h a b (stepW w h a b x)) := by
  have lf := len_le hx.1 h144
  have h3 := hx.1.n3
  have h4 := hx.1.n4
  have h5 := hx.1.n5
  have lp := last_pE hl
  have hb := hx.2
  have ed : x.l.dropLast.length = x.l.length - 1 := List.length_dropLast
  obtain ⟨a1, a2, a3, a4⟩ := add1_ok hw hh (st := (x.f, x.l.dropLast)) (t := ad w h (lastP x.l) a) (inR_ad hw hh) hx.1.nd hx.1.inr
  have lf2 : (add1 (x.f, x.l.dropLast) (ad w h (lastP x.l) a)).1.length ≤ 144 := by
    have := nodup_len a1 a2
    rw [crs_length] at this
    omega
  simp only at a3 a4
  have i1 := lawInner_eq (a := a) (b := b) (p := lastP x.l) hw hh (x.f, x.l.dropLast) a x.s5 h5 (by simp only; omega) (by simp only; omega)
  have i2 := lawInner_eq (a := a) (b := b) (p := lastP x.l) hw hh (add1 (x.f, x.l.dropLast) (ad w h (lastP x.l) a)) b (.val (pE (ad w h (lastP x.l) a))) rfl (by omega) (by omega)
  have ep : (gSet 3 (fPop (fVar 2))) (RW1 w h a b x) = .nx [.val (tE w h a b), .own (.lst (x.f.map pE)), .own (.lst (x.l.dropLast.map pE)), .val (pE (lastP x.l)), x.s4, x.s5] := by
    unfold RW1
    simp only [s_gSet, s_fPop]
    simp only [s_fVar, List.getElem?_cons_succ, List.getElem?_cons_zero, s_bind1, s_mo1, s_popD, lp]
    simp [h3]
  have e4 : forL (gtName 4) lawInner [pE a, pE b] [.val (tE w h a b), .own (.lst (x.f.map pE)), .own (.lst (x.l.dropLast.map pE)), .val (pE (lastP x.l)), x.s4, x.s5] = .nx (RW1 w h a b (stepW w h a b x)) := by
    rw [forL_one (ρ1 := [.val (tE w h a b), .own (.lst (x.f.map pE)), .own (.lst (x.l.dropLast.map pE)), .val (pE (lastP x.l)), .val (pE a), x.s5]) (by simp [h4]) i1]
    rw [forL_one (ρ1 := [.val (tE w h a b), .own (.lst ((add1 (x.f, x.l.dropLast) (ad w h (lastP x.l) a)).1.map pE)), .own (.lst ((add1 (x.f, x.l.dropLast) (ad w h (lastP x.l) a)).2.map pE)), .val (pE (lastP x.l)), .val (pE b), .val (pE (ad w h (lastP x.l) a))]) (by simp) i2]
    rfl
  simp only [s_gSeq, ep]
  simp only [List.map_dropLast] at e4
  simp [e4]
def x0 : Bw := ⟨[(0, 0)], [(0, 0)], .no, .no, .no⟩
theorem x0_ok (hw : 0 < w) (hh : 0 < h) : PB w h x0 := by
  refine ⟨⟨by simp [x0], fun q hq => ?_, rfl, rfl, rfl, by simp [x0]⟩, by simp [x0]⟩
  have : q = (0, 0) := by simpa [x0] using hq
  subst this
  exact mem_crs.mpr (by simp; omega)
end
end Pw
set_option maxRecDepth 100000
namespace Pw
open PySem PySem.Spec L2 Pv
section
variable {p q r g a b : P2} {w h : Nat} {i j k : Nat}
def kE (p : P2) : List Key := [.inl p.1, .inl p.2]
def kT (p : P2) : List Key × PyData := (kE p, .bool true)
theorem keys_pE (p : P2) : keysOf [.int p.1, .int p.2] = some (kE p) := rfl
theorem dTd_eq (f : List P2) : dTd (f.map kT) = (.none, .bool true) :: f.map fun p => (pE p, PyData.bool true) := by
  unfold dTd
  rw [List.map_map]
  rfl
theorem dlook_pE (q : P2) : ∀ f : List P2, (dlook (f.map fun p => (pE p, PyData.bool true)) (pE q)).isSome = decide (q ∈ f)
  | [] => by simp [dlook]
  | p :: f => by
    have ih := dlook_pE q f
    unfold dlook at ih ⊢
    rw [List.map_cons, List.find?_cons]
    simp only [eqv_pE]
    by_cases e : p = q
    · simp [e]
    · simp only [decide_eq_false e]
      rw [ih]
      have e' : ¬ q = p := fun z => e z.symm
      simp [e']
@[simp] theorem gNotIn_kT (q : P2) (f : List P2) : gNotIn (pE q) (.dict (dTd (f.map kT))) = some (.val (.bool (!decide (q ∈ f)))) := by
  have h1 : in? (pE q) (.dict (dTd (f.map kT))) = some (decide (q ∈ f)) := by
    rw [dTd_eq]
    unfold in?
    dsimp only
    have h2 : dget? ((.none, .bool true) :: f.map fun p => (pE p, PyData.bool true)) (pE q) = some (dlook (f.map fun p => (pE p, PyData.bool true)) (pE q)) := rfl
    rw [h2]
    simp [dlook_pE]
  unfold gNotIn
  rw [h1]
  rfl
theorem kE_inj {p q : P2} (h : kE p = kE q) : p = q := by
  obtain ⟨p1, p2⟩ := p
  obtain ⟨q1, q2⟩ := q
  simp [kE] at h
  simp [h]
theorem put_kT {f : List P2} (hq : q ∉ f) : putKD (f.map kT) (kE q) (.bool true) = (f ++ [q]).map kT := by
  unfold putKD
  have : ((f.map kT).any fun p => decide (p.1 = kE q)) = false := by
    rw [List.any_eq_false]
    intro x hx
    obtain ⟨p, hp, rfl⟩ := List.mem_map.mp hx
    intro z
    have := kE_inj (of_decide_eq_true z)
    exact hq (by rw [← this]; exact hp)
  rw [this]
  simp [kT]
theorem setK_pE {s : Slot} {ρ : Rho} {f : List P2} (hq : q ∉ f) (hl : f.length < 16777216) : setK j s (pE q) (.bool true) ρ (.dT (f.map kT)) = some (ρ.set j (s.put (.dT ((f ++ [q]).map kT)))) := by
  show (match keysOf [.int q.1, .int q.2] with
    | some ks => if (f.map kT).length < 16777216 then some (ρ.set j (s.put (.dT (putKD (f.map kT) ks (.bool true))))) else none
    | none => none) = _
  rw [keys_pE]
  simp only [List.length_map, if_pos hl, put_kT hq]
def rchInner : SF := gSeq (gSet 5 (fCall F_added (cConsF (fVar 0) (cConsF (fVar 3) (cConsF (fVar 4) rNil)))))
    (gIf (fB (fOp gNotIn (fVar 5) (fVar 1))) (gSeq (gSetK (fVar 1) (fVar 5) (fC (.bool true)))
    (gExpr (fAppend (fVar 2) (fVar 5)))) gSkip)
theorem rchInner_eq (hw : 0 < w) (hh : 0 < h) (st : List P2 × List P2) (s : P2) (s5 : Slot) (h5 : isLent s5 = false) (l1 : st.1.length ≤ 10000) (l2 : st.2.length ≤ 10000) :
    rchInner [.val (tE w h a b), .own (.dT (st.1.map kT)), .own (.lst (st.2.map pE)), .val (pE p), .val (pE s), s5] =
      .nx [.val (tE w h a b), .own (.dT ((add1 st (ad w h p s)).1.map kT)), .own (.lst ((add1 st (ad w h p s)).2.map pE)), .val (pE p), .val (pE s), .val (pE (ad w h p s))] := by
  have m1 : st.1.length < 16777216 := by omega
  have m2 : st.2.length < 16777216 := by omega
  by_cases hm : ad w h p s ∈ st.1
  · simp [rchInner, F_added_eq hw hh, h5, hm, add1]
  · simp [rchInner, F_added_eq hw hh, h5, hm, add1, m1, m2, setK_pE hm m1, -List.map_append]
    rw [List.map_append]
    rfl
def RW2 (w h : Nat) (a b : P2) (x : Bw) : Rho := [.val (tE w h a b), .own (.dT (x.f.map kT)), .own (.lst (x.l.map pE)), x.s3, x.s4, x.s5]
theorem rch_body (hw : 0 < w) (hh : 0 < h) (h144 : w * h ≤ 144) {x : Bw} (hx : PB w h x) (hl : x.l ≠ []) :
    (gSeq (gSet 3 (fPop (fVar 2))) (gFor (fISeq (fSl (fVar 0) (fPart (fC (.int 2))) fNoPart)) (gtName 4) rchInner)) (RW2 w h a b x) = .nx (RW2 w h a b (stepW w h a b x)) := by
  have lf := len_le hx.1 h144
  have h3 := hx.1.n3
  have h4 := hx.1.n4
  have h5 := hx.1.n5
  have lp := last_pE hl
  have hb := hx.2
  have ed : x.l.dropLast.length = x.l.length - 1 := List.length_dropLast
  obtain ⟨a1, a2, a3, a4⟩ := add1_ok hw hh (st := (x.f, x.l.dropLast)) (t := ad w h (lastP x.l) a) (inR_ad hw hh) hx.1.nd hx.1.inr
  have lf2 : (add1 (x.f, x.l.dropLast) (ad w h (lastP x.l) a)).1.length ≤ 144 := by
    have := nodup_len a1 a2
    rw [crs_length] at this
    omega
  simp only at a3 a4
  have i1 := rchInner_eq (a := a) (b := b) (p := lastP x.l) hw hh (x.f, x.l.dropLast) a x.s5 h5 (by simp only; omega) (by simp only; omega)
  have i2 := rchInner_eq (a := a) (b := b) (p := lastP x.l) hw hh (add1 (x.f, x.l.dropLast) (ad w h (lastP x.l) a)) b (.val (pE (ad w h (lastP x.l) a))) rfl (by omega) (by omega)
  have ep : (gSet 3 (fPop (fVar 2))) (RW2 w h a b x) = .nx [.val (tE w h a b), .own (.dT (x.f.map kT)), .own (.lst (x.l.dropLast.map pE)), .val (pE (lastP x.l)), x.s4, x.s5] := by
    unfold RW2
    simp only [s_gSet, s_fPop]
    simp only [s_fVar, List.getElem?_cons_succ, List.getElem?_cons_zero, s_bind1, s_mo1, s_popD, lp]
    simp [h3]
  have e4 : forL (gtName 4) rchInner [pE a, pE b] [.val (tE w h a b), .own (.dT (x.f.map kT)), .own (.lst (x.l.dropLast.map pE)), .val (pE (lastP x.l)), x.s4, x.s5] = .nx (RW2 w h a b (stepW w h a b x)) := by
    rw [forL_one (ρ1 := [.val (tE w h a b), .own (.dT (x.f.map kT)), .own (.lst (x.l.dropLast.map pE)), .val (pE (lastP x.l)), .val (pE a), x.s5]) (by simp [h4]) i1]
    rw [forL_one (ρ1 := [.val (tE w h a b), .own (.dT ((add1 (x.f, x.l.dropLast) (ad w h (lastP x.l) a)).1.map kT)), .own (.lst ((add1 (x.f, x.l.dropLast) (ad w h (lastP x.l) a)).2.map pE)), .val (pE (lastP x.l)), .val (pE b), .val (pE (ad w h (lastP x.l) a))]) (by simp) i2]
    rfl
  simp only [s_gSeq, ep]
  simp only [List.map_dropLast] at e4
  simp [e4]
theorem dlen_kT (f : List P2) : dlen (dTd (f.map kT)) = f.length := by
  rw [dTd_eq]
  simp [dlen]
end
end Pw
set_option maxRecDepth 100000
namespace Pw
open PySem PySem.Spec L2 Pv
/-! lots, whole towns, the ways through them -/
section
variable {p q r x y g a b : P2} {w h : Nat} {i j k n m d : Nat}
theorem ml_ml : ml w h i (ml w h j p) = ml w h (i * j) p := by
  simp only [ml, Int.natCast_mul, Prod.mk.injEq]
  constructor
  · rw [Int.mul_emod, Int.emod_emod_of_dvd _ (Int.dvd_refl _), ← Int.mul_emod, Int.mul_assoc]
  · rw [Int.mul_emod, Int.emod_emod_of_dvd _ (Int.dvd_refl _), ← Int.mul_emod, Int.mul_assoc]
theorem ml_ad : ml w h k (ad w h p q) = ad w h (ml w h k p) (ml w h k q) := by
  simp only [ml, ad, Prod.mk.injEq]
  constructor
  · rw [Int.mul_emod, Int.emod_emod_of_dvd _ (Int.dvd_refl _), ← Int.mul_emod, Int.mul_add, ← Int.add_emod]
  · rw [Int.mul_emod, Int.emod_emod_of_dvd _ (Int.dvd_refl _), ← Int.mul_emod, Int.mul_add, ← Int.add_emod]
theorem ad_lc : ad w h p (ad w h q r) = ad w h q (ad w h p r) := by
  rw [← ad_assoc, ad_comm (p := p), ad_assoc]
theorem sb_ad (hw : 0 < w) (hh : 0 < h) (ha : inR w h a) : ad w h (sb w h a b) b = a := by
  obtain ⟨h1, h2⟩ := ha
  simp only [ad, sb]
  ext
  · simp [Int.emod_eq_of_lt h1.1 h1.2]
  · simp [Int.emod_eq_of_lt h2.1 h2.2]
theorem z_inR (hw : 0 < w) (hh : 0 < h) : inR w h (0, 0) := ⟨by simp; omega, by simp; omega⟩
/-- a multiple of g -/
def IG (w h : Nat) (g p : P2) : Prop := ∃ k, ml w h k g = p
theorem IG.ml : IG w h g (ml w h k g) := ⟨k, rfl⟩
theorem IG.z : IG w h g (0, 0) := ⟨0, ml_zero⟩
theorem IG.ad (h1 : IG w h g p) (h2 : IG w h g q) : IG w h g (ad w h p q) := by
  obtain ⟨i, rfl⟩ := h1
  obtain ⟨j, rfl⟩ := h2
  exact ⟨i + j, ad_ml.symm⟩
theorem IG.mul (h1 : IG w h g p) : IG w h g (Pw.ml w h k p) := by
  obtain ⟨i, rfl⟩ := h1
  exact ⟨k * i, ml_ml.symm⟩
theorem neg_ex (hw : 0 < w) (hh : 0 < h) (o : Od w h g d) (k : Nat) : ad w h (ml w h k g) (ml w h (k * (d - 1)) g) = (0, 0) := by
  rw [ad_ml]
  have := o.pos
  have e : k + k * (d - 1) = k * d := by
    rw [show d = (d - 1) + 1 by omega, Nat.mul_succ]
    simp
    omega
  rw [e]
  have := o.perm (k := 0) hw hh k
  rw [Nat.zero_add, ml_zero] at this
  exact this
theorem IG.off (hw : 0 < w) (hh : 0 < h) (o : Od w h g d) (hp : inR w h p) (h1 : IG w h g q) (h2 : IG w h g (Pw.ad w h p q)) : IG w h g p := by
  obtain ⟨i, rfl⟩ := h1
  obtain ⟨j, e⟩ := h2
  refine ⟨j + i * (d - 1), ?_⟩
  rw [← ad_ml, e, ad_assoc, neg_ex hw hh o, ad_zero hp]
theorem cos_iff (hw : 0 < w) (hh : 0 < h) (o : Od w h g d) : r ∈ cos w h g q d ↔ ∃ k, ad w h q (ml w h k g) = r := by
  rw [mem_cos]
  constructor
  · rintro ⟨k, _, e⟩; exact ⟨k, e⟩
  · rintro ⟨k, e⟩
    exact ⟨k % d, Nat.mod_lt _ (by have := o.pos; omega), by rw [← o.md hw hh]; exact e⟩
/-! ### the lots -/
def lotOf (w h : Nat) (g : P2) (d : Nat) (q : P2) : List P2 := sortP (cos w h g q d)
abbrev Ls (w h : Nat) (g : P2) (d : Nat) : List (List P2) := fB_ w h g d (crs w h)
theorem fold_nd : ∀ (l : List P2) (f : List (List P2)), f.Nodup → (l.foldl (stepB w h g d) f).Nodup
  | [], f, hf => hf
  | q :: l, f, hf => by
    refine fold_nd l _ ?_
    unfold stepB
    split
    · exact hf
    · rename_i hm
      refine List.nodup_append.mpr ⟨hf, by simp, fun x hx y hy e => ?_⟩
      rw [List.mem_singleton] at hy
      subst hy e
      exact hm hx
theorem fold_mem : ∀ (l : List P2) (f : List (List P2)) (m : List P2), m ∈ l.foldl (stepB w h g d) f ↔ m ∈ f ∨ ∃ q ∈ l, m = lotOf w h g d q
  | [], f, m => by simp
  | q :: l, f, m => by
    rw [List.foldl_cons, fold_mem l]
    have e : m ∈ stepB w h g d f q ↔ m ∈ f ∨ m = lotOf w h g d q := by
      unfold stepB
      split
      · rename_i hm
        constructor
        · exact .inl
        · rintro (z | z)
          · exact z
          · rw [z]; exact hm
      · rw [List.mem_append, List.mem_singleton]; rfl
    rw [e]
    constructor
    · rintro ((z | z) | ⟨u, hu, z⟩)
      · exact .inl z
      · exact .inr ⟨q, List.mem_cons_self, z⟩
      · exact .inr ⟨u, List.mem_cons_of_mem _ hu, z⟩
    · rintro (z | ⟨u, hu, z⟩)
      · exact .inl (.inl z)
      · rcases List.mem_cons.mp hu with e2 | hu
        · subst e2; exact .inl (.inr z)
        · exact .inr ⟨u, hu, z⟩
theorem Ls_nd : (Ls w h g d).Nodup := fold_nd _ _ List.nodup_nil
theorem Ls_mem {m : List P2} : m ∈ Ls w h g d ↔ ∃ q ∈ crs w h, m = lotOf w h g d q := by
  rw [show Ls w h g d = (crs w h).foldl (stepB w h g d) [] from rfl, fold_mem]
  simp
theorem crs_nd : (crs w h).Nodup := by
  unfold crs
  rw [List.Nodup, List.pairwise_flatMap]
  refine ⟨fun x _ => ?_, ?_⟩
  · rw [List.pairwise_map]
    refine List.Pairwise.imp ?_ List.nodup_range
    intro i j hne e
    simp only [Prod.mk.injEq] at e
    omega
  · refine List.Pairwise.imp ?_ List.nodup_range
    intro i j hne p hp q hq e
    obtain ⟨u, _, rfl⟩ := List.mem_map.mp hp
    obtain ⟨v, _, rfl⟩ := List.mem_map.mp hq
    simp only [Prod.mk.injEq] at e
    omega
theorem mem_lotOf (hw : 0 < w) (hh : 0 < h) (o : Od w h g d) : r ∈ lotOf w h g d q ↔ r ∈ cos w h g q d := (sortP_perm _).mem_iff
theorem lotOf_eq (hw : 0 < w) (hh : 0 < h) (o : Od w h g d) (hr : inR w h r) : lotOf w h g d r = lotOf w h g d q ↔ r ∈ cos w h g q d := (same_cos hw hh o hr).symm
theorem cos_inR (hw : 0 < w) (hh : 0 < h) (hr : r ∈ cos w h g q d) : r ∈ crs w h := by
  obtain ⟨k, _, rfl⟩ := mem_cos.mp hr
  exact mem_crs.mpr (inR_ad hw hh)
theorem Ls_flat (hw : 0 < w) (hh : 0 < h) (o : Od w h g d) : (Ls w h g d).flatten.Perm (crs w h) := by
  refine (List.perm_ext_iff_of_nodup ?_ crs_nd).mpr fun r => ?_
  · rw [List.Nodup, List.pairwise_flatten]
    refine ⟨fun l hl => ?_, ?_⟩
    · obtain ⟨q, _, rfl⟩ := Ls_mem.mp hl
      exact (sortP_perm _).nodup_iff.mpr (cos_nodup o hw hh)
    · refine List.Pairwise.imp_of_mem ?_ Ls_nd
      intro l m hl hm hne x hx y hy e
      subst e
      obtain ⟨q, hq, rfl⟩ := Ls_mem.mp hl
      obtain ⟨u, hu, rfl⟩ := Ls_mem.mp hm
      have hx' := (mem_lotOf hw hh o).mp hx
      have hy' := (mem_lotOf hw hh o).mp hy
      have hR := inR_crs (cos_inR hw hh hx')
      exact hne (((lotOf_eq hw hh o hR).mpr hx').symm.trans ((lotOf_eq hw hh o hR).mpr hy'))
  · rw [List.mem_flatten]
    constructor
    · rintro ⟨l, hl, hr⟩
      obtain ⟨q, _, rfl⟩ := Ls_mem.mp hl
      exact cos_inR hw hh ((mem_lotOf hw hh o).mp hr)
    · intro hr
      exact ⟨_, Ls_mem.mpr ⟨r, hr, rfl⟩, (mem_lotOf hw hh o).mpr (cos_self o (inR_crs hr))⟩
theorem lotOf_len : (lotOf w h g d q).length = d := by
  unfold lotOf
  rw [(sortP_perm _).length_eq, cos_length]
theorem flat_len : ∀ (L : List (List P2)), (∀ l ∈ L, l.length = d) → L.flatten.length = L.length * d
  | [], _ => by simp
  | l :: L, hL => by
    rw [List.flatten_cons, List.length_append, flat_len L fun x hx => hL x (List.mem_cons_of_mem _ hx), hL l List.mem_cons_self, List.length_cons, Nat.succ_mul, Nat.add_comm]
theorem Ls_len (hw : 0 < w) (hh : 0 < h) (o : Od w h g d) : (Ls w h g d).length * d = w * h := by
  rw [← flat_len (d := d) (Ls w h g d) fun l hl => by
    obtain ⟨q, _, rfl⟩ := Ls_mem.mp hl
    exact lotOf_len]
  rw [(Ls_flat hw hh o).length_eq, crs_length]
def lab (w h : Nat) (g : P2) (d : Nat) (q : P2) : Nat := (Ls w h g d).idxOf (lotOf w h g d q)
theorem lab_lt (hq : inR w h q) : lab w h g d q < (Ls w h g d).length := List.idxOf_lt_length_of_mem (Ls_mem.mpr ⟨q, mem_crs.mpr hq, rfl⟩)
theorem lab_get (hq : inR w h q) : (Ls w h g d)[lab w h g d q]? = some (lotOf w h g d q) := by
  rw [List.getElem?_eq_getElem (lab_lt hq)]
  congr 1
  exact List.getElem_idxOf (lab_lt hq)
theorem lab_eq (hw : 0 < w) (hh : 0 < h) (o : Od w h g d) (hr : inR w h r) (hq : inR w h q) : lab w h g d r = lab w h g d q ↔ ∃ k, ad w h q (ml w h k g) = r := by
  rw [← cos_iff hw hh o, ← lotOf_eq hw hh o hr]
  constructor
  · intro e
    have h1 := lab_get (g := g) (d := d) hr
    have h2 := lab_get (g := g) (d := d) hq
    rw [e, h2] at h1
    exact (Option.some.inj h1).symm
  · intro e
    unfold lab
    rw [e]
/-! ### whole -/
/-- all crossings are sums of steps -/
def Wl (w h : Nat) (a b : P2) : Prop := ∀ p, inR w h p → ∃ i j, ad w h (ml w h i a) (ml w h j b) = p
/-- m is the least such that b so many times is a multiple of g -/
structure Qo (w h : Nat) (g b : P2) (m : Nat) : Prop where
  pos : 1 ≤ m
  z : IG w h g (ml w h m b)
  nz : ∀ k, 1 ≤ k → k < m → ¬ IG w h g (ml w h k b)
theorem qo_ex (hw : 0 < w) (hh : 0 < h) (g b : P2) : ∃ m, Qo w h g b m := by
  obtain ⟨e, oe⟩ := od_ex hw hh b
  have hpe := oe.pos
  haveI : DecidablePred fun n => IG w h g (ml w h (n + 1) b) := fun _ => Classical.propDecidable _
  obtain ⟨k, k1, k2, k3⟩ := least (p := fun n => IG w h g (ml w h (n + 1) b)) (e - 1) (by
    show IG w h g (ml w h (e - 1 + 1) b)
    rw [Nat.sub_add_cancel hpe, oe.z]; exact IG.z)
  refine ⟨k + 1, by omega, k2, fun j hj1 hj2 e => ?_⟩
  exact k3 (j - 1) (by omega) (by rw [Nat.sub_add_cancel hj1]; exact e)
theorem Qo.mulz (Q : Qo w h g b m) (k : Nat) : IG w h g (ml w h (k * m) b) := by
  rw [← ml_ml]
  exact Q.z.mul
/-- the difference of two places on b's way -/
theorem Qo.diff (hw : 0 < w) (hh : 0 < h) (o : Od w h g d) (hij : i ≤ j) (e : ad w h (ad w h p (ml w h i b)) (ml w h n g) = ad w h (ad w h p (ml w h j b)) (ml w h k g)) : IG w h g (ml w h (j - i) b) := by
  have e1 : ml w h j b = ad w h (ml w h i b) (ml w h (j - i) b) := by rw [ad_ml, Nat.add_sub_cancel' hij]
  rw [e1, ← ad_assoc, ad_assoc (r := ml w h k g)] at e
  have e2 := ad_cancel (inR_ml hw hh) (inR_ad hw hh) e
  refine IG.off hw hh o (inR_ml hw hh) (IG.ml (k := k)) ?_
  rw [← e2]
  exact IG.ml
theorem Qo.dvd (Q : Qo w h g b m) (hw : 0 < w) (hh : 0 < h) (o : Od w h g d) (hk : IG w h g (ml w h k b)) : k % m = 0 := by
  have e : k = k % m + k / m * m := by rw [Nat.mul_comm]; exact (Nat.mod_add_div k m).symm
  have h2 : IG w h g (ad w h (ml w h (k % m) b) (ml w h (k / m * m) b)) := by rw [ad_ml, ← e]; exact hk
  have h3 := IG.off hw hh o (inR_ml hw hh) (Q.mulz (k / m)) h2
  have h4 := Nat.mod_lt k (show 0 < m from Q.pos)
  rcases Nat.eq_zero_or_pos (k % m) with z | z
  · exact z
  · exact absurd h3 (Q.nz _ z h4)
/-- in a whole town they are as many as the lots -/
theorem Qo.len (Q : Qo w h g b m) (hw : 0 < w) (hh : 0 < h) (o : Od w h g d) (hW : ∀ p, inR w h p → ∃ i n, ad w h (ml w h n b) (ml w h i g) = p) : m * d = w * h := by
  have hd := o.pos
  have hm := Q.pos
  have key : ((List.range (m * d)).map fun x => ad w h (ml w h (x / d) b) (ml w h (x % d) g)).Perm (crs w h) := by
    refine (List.perm_ext_iff_of_nodup ?_ crs_nd).mpr fun p => ?_
    · rw [List.Nodup, List.pairwise_map]
      refine List.Pairwise.imp_of_mem ?_ List.nodup_range
      intro u v hu hv hne e
      rw [List.mem_range] at hu hv
      have hu1 : u / d < m := Nat.div_lt_of_lt_mul (by rw [Nat.mul_comm]; exact hu)
      have hv1 : v / d < m := Nat.div_lt_of_lt_mul (by rw [Nat.mul_comm]; exact hv)
      have same : u / d = v / d := by
        have key2 : ∀ u v : Nat, u / d ≤ v / d → v / d < m → ad w h (ml w h (u / d) b) (ml w h (u % d) g) = ad w h (ml w h (v / d) b) (ml w h (v % d) g) → u / d = v / d := by
          intro u v hle hv1 e
          have := Qo.diff (p := (0, 0)) hw hh o hle (by rw [zero_ad (inR_ml hw hh), zero_ad (inR_ml hw hh)]; exact e)
          rcases Nat.eq_or_lt_of_le hle with z | z
          · exact z
          · exact absurd this (Q.nz _ (Nat.sub_pos_of_lt z) (Nat.lt_of_le_of_lt (Nat.sub_le _ _) hv1))
        rcases Nat.le_total (u / d) (v / d) with z | z
        · exact key2 u v z hv1 e
        · exact (key2 v u z hu1 e.symm).symm
      rw [same] at e
      have e2 := o.inj hw hh (Nat.mod_lt _ hd) (Nat.mod_lt _ hd) (ad_cancel (inR_ml hw hh) (inR_ml hw hh) e)
      have e3 := Nat.mod_add_div u d
      have e4 := Nat.mod_add_div v d
      rw [same, e2] at e3
      exact hne (e3.symm.trans e4)
    · constructor
      · intro hp
        obtain ⟨x, _, rfl⟩ := List.mem_map.mp hp
        exact mem_crs.mpr (inR_ad hw hh)
      · intro hp
        obtain ⟨i, n, rfl⟩ := hW p (mem_crs.mp hp)
        obtain ⟨s, hs⟩ := Q.mulz (n / m)
        have en : n = n % m + n / m * m := by rw [Nat.mul_comm]; exact (Nat.mod_add_div n m).symm
        have hr := Nat.mod_lt n hm
        have hj := Nat.mod_lt (s + i) hd
        refine List.mem_map.mpr ⟨n % m * d + (s + i) % d, List.mem_range.mpr ?_, ?_⟩
        · calc n % m * d + (s + i) % d < n % m * d + d := by omega
            _ = (n % m + 1) * d := by rw [Nat.succ_mul]
            _ ≤ m * d := Nat.mul_le_mul_right _ hr
        · have e1 : (n % m * d + (s + i) % d) / d = n % m := by
            rw [Nat.mul_comm, Nat.mul_add_div hd, Nat.div_eq_of_lt hj, Nat.add_zero]
          have e2 : (n % m * d + (s + i) % d) % d = (s + i) % d := by
            rw [Nat.mul_comm, Nat.mul_add_mod, Nat.mod_eq_of_lt hj]
          show ad w h (ml w h ((n % m * d + (s + i) % d) / d) b) (ml w h ((n % m * d + (s + i) % d) % d) g) = ad w h (ml w h n b) (ml w h i g)
          rw [e1, e2, ← o.md hw hh]
          have e3 : ml w h n b = ad w h (ml w h (n % m) b) (ml w h s g) := by
            rw [hs, ad_ml, ← en]
          rw [e3, ad_assoc, ad_ml]
  have := key.length_eq
  rw [List.length_map, List.length_range, crs_length] at this
  exact this
theorem Wl.sum (hw : 0 < w) (hh : 0 < h) (ha : inR w h a) (W : Wl w h a b) (p : P2) (hp : inR w h p) : ∃ i n, ad w h (ml w h n b) (ml w h i (sb w h a b)) = p := by
  obtain ⟨i, j, e⟩ := W p hp
  refine ⟨i, i + j, ?_⟩
  rw [← e]
  have ea : ml w h i a = ad w h (ml w h i (sb w h a b)) (ml w h i b) := by rw [← ml_ad, sb_ad hw hh ha]
  rw [ea, ← ad_ml, ad_assoc, ad_comm (p := ml w h j b), ad_lc (q := ml w h i (sb w h a b)), ad_assoc]
theorem Wl.lots (hw : 0 < w) (hh : 0 < h) (ha : inR w h a) (W : Wl w h a b) (o : Od w h (sb w h a b) d) (Q : Qo w h (sb w h a b) b m) : m = (Ls w h (sb w h a b) d).length := by
  have h1 := Q.len hw hh o (W.sum hw hh ha)
  have h2 := Ls_len hw hh o
  exact Nat.eq_of_mul_eq_mul_right o.pos (h1.trans h2.symm)
end
end Pw
set_option maxRecDepth 100000
namespace Pw
open PySem PySem.Spec L2 Pv
/-! the ways of a plan -/
section
variable {p q r x y g a b : P2} {w h : Nat} {i j k n m d : Nat} {S : Nat → Bool}
instance : Std.Associative (ad w h) := ⟨fun _ _ _ => ad_assoc⟩
instance : Std.Commutative (ad w h) := ⟨fun _ _ => ad_comm⟩
/-- how many of the first t crossings of the way from p lie in lots that take the first street -/
def cnt (w h : Nat) (g b : P2) (d : Nat) (S : Nat → Bool) (p : P2) (t : Nat) : Nat := (List.range t).countP fun i => S (lab w h g d (ad w h p (ml w h i b)))
/-- the crossing t streets behind p -/
def fit (w h : Nat) (g b : P2) (d : Nat) (S : Nat → Bool) (p : P2) (t : Nat) : P2 := ad w h (ad w h p (ml w h t b)) (ml w h (cnt w h g b d S p t) g)
/-- one street -/
def nxt (w h : Nat) (a b : P2) (d : Nat) (S : Nat → Bool) (p : P2) : P2 := ad w h p (if S (lab w h (sb w h a b) d p) then a else b)
theorem cnt_succ {t : Nat} : cnt w h g b d S p (t + 1) = cnt w h g b d S p t + (if S (lab w h g d (ad w h p (ml w h t b))) = true then 1 else 0) := by
  unfold cnt
  rw [List.range_succ, List.countP_append, List.countP_singleton]
theorem lab_ad (hw : 0 < w) (hh : 0 < h) (o : Od w h g d) (hp : inR w h p) : lab w h g d (ad w h p (ml w h k g)) = lab w h g d p := (lab_eq hw hh o (inR_ad hw hh) hp).mpr ⟨k, rfl⟩
theorem lab_IG (hw : 0 < w) (hh : 0 < h) (o : Od w h g d) (hp : inR w h p) (hx : IG w h g x) : lab w h g d (ad w h p x) = lab w h g d p := by
  obtain ⟨k, rfl⟩ := hx
  exact lab_ad hw hh o hp
theorem inR_fit (hw : 0 < w) (hh : 0 < h) {t : Nat} : inR w h (fit w h g b d S p t) := inR_ad hw hh
theorem fit_zero (hw : 0 < w) (hh : 0 < h) (hp : inR w h p) : fit w h g b d S p 0 = p := by
  unfold fit cnt
  simp only [List.range_zero, List.countP_nil, ml_zero]
  rw [ad_zero (inR_ad hw hh), ad_zero hp]
theorem fit_succ (hw : 0 < w) (hh : 0 < h) (ha : inR w h a) (hb : inR w h b) (o : Od w h (sb w h a b) d) {t : Nat} : fit w h (sb w h a b) b d S p (t + 1) = nxt w h a b d S (fit w h (sb w h a b) b d S p t) := by
  have hl : lab w h (sb w h a b) d (fit w h (sb w h a b) b d S p t) = lab w h (sb w h a b) d (ad w h p (ml w h t b)) := lab_ad hw hh o (inR_ad hw hh)
  unfold nxt
  rw [hl]
  unfold fit
  rw [cnt_succ]
  by_cases c : S (lab w h (sb w h a b) d (ad w h p (ml w h t b))) = true
  · rw [if_pos c, if_pos c, ← ad_ml_one, ← ad_ml_one]
    have ea : a = ad w h (sb w h a b) b := (sb_ad hw hh ha).symm
    generalize hg : sb w h a b = g at ea ⊢
    rw [ea]
    ac_rfl
  · rw [if_neg c, if_neg c, ← ad_ml_one, Nat.add_zero]
    ac_rfl
/-- labels behind what is no lot's change -/
theorem cnt_IG (hw : 0 < w) (hh : 0 < h) (o : Od w h g d) (hx : IG w h g x) {t : Nat} : cnt w h g b d S (ad w h p x) t = cnt w h g b d S p t := by
  unfold cnt
  refine List.countP_congr fun i _ => ?_
  have : ad w h (ad w h p x) (ml w h i b) = ad w h (ad w h p (ml w h i b)) x := by
    rw [ad_assoc, ad_assoc, ad_comm (p := x)]
  rw [this, lab_IG hw hh o (inR_ad hw hh) hx]
theorem fit_IG (hw : 0 < w) (hh : 0 < h) (o : Od w h g d) (hx : IG w h g x) {t : Nat} : fit w h g b d S (ad w h p x) t = ad w h (fit w h g b d S p t) x := by
  unfold fit
  rw [cnt_IG hw hh o hx]
  rw [ad_assoc, ad_assoc, ad_assoc, ad_assoc, ad_comm (q := x) (p := ml w h _ g), ad_lc (q := ml w h t b) (p := x)]
/-! ### a whole town: one turn through all lots -/
theorem perm_range {l : List Nat} {n : Nat} (h1 : l.Nodup) (h2 : l.length = n) (h3 : ∀ x ∈ l, x < n) : l.Perm (List.range n) := by
  refine (List.perm_ext_iff_of_nodup h1 List.nodup_range).mpr fun x => ⟨fun hx => List.mem_range.mpr (h3 x hx), fun hx => ?_⟩
  rw [List.mem_range] at hx
  refine Classical.byContradiction fun hn => ?_
  have := nodup_len (l := x :: l) (m := List.range n) (List.nodup_cons.mpr ⟨hn, h1⟩) fun y hy => by
    rcases List.mem_cons.mp hy with e | hy
    · rw [e]; exact List.mem_range.mpr hx
    · exact List.mem_range.mpr (h3 y hy)
  rw [List.length_cons, List.length_range] at this
  omega
/-- the lots that the way meets -/
theorem labs_perm (hw : 0 < w) (hh : 0 < h) (o : Od w h g d) (Q : Qo w h g b m) (hm : m = (Ls w h g d).length) : ((List.range m).map fun i => lab w h g d (ad w h p (ml w h i b))).Perm (List.range m) := by
  refine perm_range ?_ (by simp) fun x hx => ?_
  · rw [List.Nodup, List.pairwise_map]
    refine List.Pairwise.imp_of_mem ?_ List.nodup_range
    intro i j hi hj hne e
    rw [List.mem_range] at hi hj
    have key : ∀ i j, i < j → j < m → lab w h g d (ad w h p (ml w h i b)) = lab w h g d (ad w h p (ml w h j b)) → False := by
      intro i j hij hj e
      obtain ⟨k, e2⟩ := (lab_eq hw hh o (inR_ad hw hh) (inR_ad hw hh)).mp e
      have := Qo.diff (p := p) (n := 0) (k := k) (b := b) hw hh o (Nat.le_of_lt hij) (by rw [ml_zero, ad_zero (inR_ad hw hh)]; exact e2.symm)
      exact Q.nz _ (Nat.sub_pos_of_lt hij) (Nat.lt_of_le_of_lt (Nat.sub_le _ _) hj) this
    rcases Nat.lt_trichotomy i j with z | z | z
    · exact key i j z hj e
    · exact hne z
    · exact key j i z hi e.symm
  · obtain ⟨i, _, rfl⟩ := List.mem_map.mp hx
    rw [hm]
    exact lab_lt (inR_ad hw hh)
/-- how many lots take the first street -/
def many (S : Nat → Bool) (m : Nat) : Nat := (List.range m).countP S
theorem cnt_turn (hw : 0 < w) (hh : 0 < h) (o : Od w h g d) (Q : Qo w h g b m) (hm : m = (Ls w h g d).length) : cnt w h g b d S p m = many S m := by
  unfold many
  rw [← (labs_perm (p := p) hw hh o Q hm).countP_eq, List.countP_map]
  rfl
theorem cnt_add (hw : 0 < w) (hh : 0 < h) (o : Od w h g d) (Q : Qo w h g b m) (hm : m = (Ls w h g d).length) {t : Nat} : cnt w h g b d S p (m + t) = many S m + cnt w h g b d S p t := by
  rw [← cnt_turn (p := p) (S := S) hw hh o Q hm]
  unfold cnt
  rw [List.range_add, List.countP_append, List.countP_map]
  congr 1
  refine List.countP_congr fun i _ => ?_
  show S (lab w h g d (ad w h p (ml w h (m + i) b))) = true ↔ _
  rw [← ad_ml, ad_comm (p := ml w h m b), ← ad_assoc, lab_IG hw hh o (inR_ad hw hh) Q.z]
/-- where one turn through all lots leads -/
def lead (w h : Nat) (g b : P2) (S : Nat → Bool) (m : Nat) : P2 := ad w h (ml w h m b) (ml w h (many S m) g)
theorem lead_IG (Q : Qo w h g b m) : IG w h g (lead w h g b S m) := Q.z.ad IG.ml
theorem fit_turn (hw : 0 < w) (hh : 0 < h) (o : Od w h g d) (Q : Qo w h g b m) (hm : m = (Ls w h g d).length) {t : Nat} : fit w h g b d S p (m + t) = ad w h (fit w h g b d S p t) (lead w h g b S m) := by
  unfold fit lead
  rw [cnt_add hw hh o Q hm, ← ad_ml, ← ad_ml]
  ac_rfl
theorem fit_turns (hw : 0 < w) (hh : 0 < h) (o : Od w h g d) (Q : Qo w h g b m) (hm : m = (Ls w h g d).length) {t : Nat} : ∀ k, fit w h g b d S p (k * m + t) = ad w h (fit w h g b d S p t) (ml w h k (lead w h g b S m))
  | 0 => by rw [Nat.zero_mul, Nat.zero_add, ml_zero, ad_zero (inR_fit hw hh)]
  | k + 1 => by
    rw [Nat.succ_mul, Nat.add_comm (k * m), Nat.add_assoc, fit_turn hw hh o Q hm, fit_turns hw hh o Q hm k, ad_assoc, ad_ml_one]
/-- two places of a way are one place only a multiple of the turns' own order apart -/
theorem fit_same (hw : 0 < w) (hh : 0 < h) (o : Od w h g d) (Q : Qo w h g b m) (hm : m = (Ls w h g d).length) {e : Nat} (oe : Od w h (lead w h g b S m) e) (hij : i < j) (hj : j < i + m * e) : fit w h g b d S p i ≠ fit w h g b d S p j := by
  intro z
  have h1 : IG w h g (ml w h (j - i) b) := Qo.diff (p := p) hw hh o (Nat.le_of_lt hij) z
  have h2 := Q.dvd hw hh o h1
  have hm1 := Q.pos
  have ek : j = (j - i) / m * m + i := by
    have := Nat.div_add_mod (j - i) m
    rw [h2, Nat.mul_comm] at this
    omega
  rw [ek, fit_turns hw hh o Q hm] at z
  have z2 : ml w h ((j - i) / m) (lead w h g b S m) = (0, 0) := by
    refine (ad_cancel (r := fit w h g b d S p i) (z_inR hw hh) (inR_ml hw hh) ?_).symm
    rw [ad_zero (inR_fit hw hh)]
    exact z
  refine oe.nz ((j - i) / m) ?_ ?_ z2
  · rcases Nat.eq_zero_or_pos ((j - i) / m) with y | y
    · rw [y, Nat.zero_mul] at ek; omega
    · exact y
  · refine Nat.div_lt_of_lt_mul ?_
    omega
theorem fit_back (hw : 0 < w) (hh : 0 < h) (hp : inR w h p) (o : Od w h g d) (Q : Qo w h g b m) (hm : m = (Ls w h g d).length) {e : Nat} (oe : Od w h (lead w h g b S m) e) : fit w h g b d S p (m * e) = p := by
  have := fit_turns (t := 0) (p := p) (S := S) hw hh o Q hm e
  rw [Nat.add_zero, Nat.mul_comm e, oe.z, ad_zero (inR_fit hw hh), fit_zero hw hh hp] at this
  exact this
/-- the order of a multiple divides -/
theorem od_dvd (hw : 0 < w) (hh : 0 < h) (o : Od w h g d) (hx : IG w h g x) {e : Nat} (oe : Od w h x e) : d % e = 0 := by
  obtain ⟨k, rfl⟩ := hx
  have z : ml w h d (ml w h k g) = (0, 0) := by
    rw [ml_ml, Nat.mul_comm, ← ml_ml, o.z]
    simp [ml]
  have z2 : ml w h (d % e) (ml w h k g) = (0, 0) := by rw [← oe.md hw hh]; exact z
  have hl := Nat.mod_lt d (show 0 < e from oe.pos)
  rcases Nat.eq_zero_or_pos (d % e) with y | y
  · exact y
  · exact absurd z2 (oe.nz _ y hl)
end
end Pw
set_option maxRecDepth 100000
namespace Pw
open PySem PySem.Spec L2 Pv
/-! what the search for all crossings tells -/
section
variable {p q r x y g a b : P2} {w h : Nat} {i j k n m d : Nat}
structure Rch (w h : Nat) (a b : P2) (x : Bw) : Prop where
  z : (0, 0) ∈ x.f
  by_ : ∀ p ∈ x.f, ∃ i j, ad w h (ml w h i a) (ml w h j b) = p
  cl : ∀ p ∈ x.f, p ∈ x.l ∨ (ad w h p a ∈ x.f ∧ ad w h p b ∈ x.f)
  sub : ∀ p ∈ x.l, p ∈ x.f
theorem mem_add1 {st : List P2 × List P2} {t : P2} : p ∈ (add1 st t).1 ↔ p ∈ st.1 ∨ p = t := by
  unfold add1
  split
  · rename_i hm
    constructor
    · exact .inl
    · rintro (z | z)
      · exact z
      · rw [z]; exact hm
  · simp
theorem mem_add1b {st : List P2 × List P2} {t : P2} (h : p ∈ (add1 st t).2) : p ∈ st.2 ∨ p ∈ (add1 st t).1 := by
  unfold add1 at *
  split at h
  · exact .inl h
  · rename_i hm
    rw [if_neg hm]
    rcases List.mem_append.mp h with z | z
    · exact .inl z
    · exact .inr (List.mem_append_right _ z)
theorem mem_add1c {st : List P2 × List P2} {t : P2} (h : p ∈ st.2) : p ∈ (add1 st t).2 := by
  unfold add1
  split
  · exact h
  · exact List.mem_append_left _ h
theorem mem_add1d {st : List P2 × List P2} {t : P2} (h : p ∈ (add1 st t).1) (hn : p ∉ st.1) : p ∈ (add1 st t).2 := by
  unfold add1 at *
  split at h
  · exact absurd h hn
  · rename_i hm
    rw [if_neg hm]
    rcases List.mem_append.mp h with z | z
    · exact absurd z hn
    · exact List.mem_append_right _ z
theorem step_f {x : Bw} : p ∈ (stepW w h a b x).f ↔ p ∈ x.f ∨ p = ad w h (lastP x.l) a ∨ p = ad w h (lastP x.l) b := by
  show p ∈ (add1 (add1 (x.f, x.l.dropLast) (ad w h (lastP x.l) a)) (ad w h (lastP x.l) b)).1 ↔ _
  rw [mem_add1, mem_add1, or_assoc]
theorem last_mem {l : List P2} (hl : l ≠ []) : lastP l ∈ l := by
  unfold lastP
  rw [List.getLast?_eq_getLast hl]
  exact List.getLast_mem hl
theorem Rch.step (hw : 0 < w) (hh : 0 < h) (ha : inR w h a) (hb : inR w h b) {x : Bw} (R : Rch w h a b x) (hl : x.l ≠ []) : Rch w h a b (stepW w h a b x) := by
  have hlast := R.sub _ (last_mem hl)
  obtain ⟨i0, j0, e0⟩ := R.by_ _ hlast
  refine ⟨step_f.mpr (.inl R.z), fun p hp => ?_, fun p hp => ?_, fun p hp => ?_⟩
  · rcases step_f.mp hp with z | z | z
    · exact R.by_ p z
    · refine ⟨i0 + 1, j0, ?_⟩
      rw [z, ← e0, ← ad_ml_one]
      ac_rfl
    · refine ⟨i0, j0 + 1, ?_⟩
      rw [z, ← e0, ← ad_ml_one]
      ac_rfl
  · by_cases hp0 : p ∈ x.f
    · by_cases hpl : p = lastP x.l
      · refine .inr ⟨step_f.mpr (.inr (.inl (by rw [hpl]))), step_f.mpr (.inr (.inr (by rw [hpl])))⟩
      · rcases R.cl p hp0 with z | ⟨z1, z2⟩
        · left
          show p ∈ (add1 (add1 (x.f, x.l.dropLast) (ad w h (lastP x.l) a)) (ad w h (lastP x.l) b)).2
          refine mem_add1c (mem_add1c ?_)
          show p ∈ x.l.dropLast
          have e := List.dropLast_concat_getLast hl
          have hlast2 : lastP x.l = x.l.getLast hl := by unfold lastP; rw [List.getLast?_eq_getLast hl]; rfl
          rw [← e] at z
          rcases List.mem_append.mp z with z | z
          · exact z
          · rw [List.mem_singleton] at z
            exact absurd (z.trans hlast2.symm) hpl
        · exact .inr ⟨step_f.mpr (.inl z1), step_f.mpr (.inl z2)⟩
    · left
      show p ∈ (add1 (add1 (x.f, x.l.dropLast) (ad w h (lastP x.l) a)) (ad w h (lastP x.l) b)).2
      have hp' : p ∈ (add1 (add1 (x.f, x.l.dropLast) (ad w h (lastP x.l) a)) (ad w h (lastP x.l) b)).1 := hp
      by_cases h1 : p ∈ (add1 (x.f, x.l.dropLast) (ad w h (lastP x.l) a)).1
      · exact mem_add1c (mem_add1d h1 hp0)
      · exact mem_add1d hp' h1
  · have hp' : p ∈ (add1 (add1 (x.f, x.l.dropLast) (ad w h (lastP x.l) a)) (ad w h (lastP x.l) b)).2 := hp
    show p ∈ (add1 (add1 (x.f, x.l.dropLast) (ad w h (lastP x.l) a)) (ad w h (lastP x.l) b)).1
    rcases mem_add1b hp' with z | z
    · rcases mem_add1b z with z | z
      · exact mem_add1.mpr (.inl (mem_add1.mpr (.inl (R.sub p (List.dropLast_subset _ z)))))
      · exact mem_add1.mpr (.inl z)
    · exact z
theorem rch_0 (hw : 0 < w) (hh : 0 < h) : Rch w h a b x0 := by
  refine ⟨by simp [x0], fun p hp => ?_, fun p hp => .inl hp, fun p hp => hp⟩
  have : p = (0, 0) := by simpa [x0] using hp
  subst this
  exact ⟨0, 0, by rw [ml_zero, ml_zero, ad_zero (z_inR hw hh)]⟩
theorem rch_k (hw : 0 < w) (hh : 0 < h) (ha : inR w h a) (hb : inR w h b) : ∀ k, (∀ j < k, (Nat.repeat (stepW w h a b) j x0).l ≠ []) → Rch w h a b (Nat.repeat (stepW w h a b) k x0)
  | 0, _ => rch_0 hw hh
  | k + 1, hk => Rch.step hw hh ha hb (rch_k hw hh ha hb k fun j hj => hk j (by omega)) (hk k (by omega))
theorem rch_end (hw : 0 < w) (hh : 0 < h) (ha : inR w h a) (hb : inR w h b) {x : Bw} (R : Rch w h a b x) (hl : x.l = []) (P : PB w h x) : x.f.length = w * h ↔ Wl w h a b := by
  have nd := P.1.nd
  have hin := P.1.inr
  have cl : ∀ p ∈ x.f, ad w h p a ∈ x.f ∧ ad w h p b ∈ x.f := fun p hp => by
    rcases R.cl p hp with z | z
    · rw [hl] at z; cases z
    · exact z
  constructor
  · intro e p hp
    refine R.by_ p (Classical.byContradiction fun hn => ?_)
    have := nodup_len (l := p :: x.f) (m := crs w h) (List.nodup_cons.mpr ⟨hn, nd⟩) fun q hq => by
      rcases List.mem_cons.mp hq with z | z
      · rw [z]; exact mem_crs.mpr hp
      · exact hin q z
    rw [List.length_cons, crs_length, e] at this
    omega
  · intro W
    have ia : ∀ i, ml w h i a ∈ x.f := fun i => by
      induction i with
      | zero => rw [ml_zero]; exact R.z
      | succ i ih => rw [← ad_ml_one]; exact (cl _ ih).1
    have ib : ∀ i j, ad w h (ml w h i a) (ml w h j b) ∈ x.f := fun i j => by
      induction j with
      | zero => rw [ml_zero, ad_zero (inR_ml hw hh)]; exact ia i
      | succ j ih => rw [← ad_ml_one, ← ad_assoc]; exact (cl _ ih).2
    have h1 := nodup_len (l := x.f) (m := crs w h) nd hin
    have h2 := nodup_len (l := crs w h) (m := x.f) crs_nd fun p hp => by
      obtain ⟨i, j, e⟩ := W p (mem_crs.mp hp)
      rw [← e]; exact ib i j
    rw [crs_length] at h1 h2
    omega
theorem TOk.ia (t : TOk w h a b) : inR w h a := ⟨t.a1, t.a2⟩
theorem TOk.ib (t : TOk w h a b) : inR w h b := ⟨t.b1, t.b2⟩
end
end Pw
set_option maxRecDepth 100000
namespace Pw
open PySem PySem.Spec L2 Pv
/-! how many lots take the first street in rounds, how many rounds there are -/
section
variable {p q r x y g a b : P2} {w h : Nat} {i j k n m d : Nat}
/-- the order of a crossing -/
noncomputable def od (w h : Nat) (p : P2) : Nat := if c : 0 < w ∧ 0 < h then Classical.choose (od_ex c.1 c.2 p) else 0
theorem od_spec (hw : 0 < w) (hh : 0 < h) (p : P2) : Od w h p (od w h p) := by
  unfold od
  rw [dif_pos ⟨hw, hh⟩]
  exact Classical.choose_spec (od_ex hw hh p)
theorem od_le (hw : 0 < w) (hh : 0 < h) (o : Od w h p d) : d ≤ w * h := by
  have := nodup_len (l := cos w h p (0, 0) d) (m := crs w h) (cos_nodup o hw hh) fun q hq => cos_inR hw hh hq
  rw [cos_length, crs_length] at this
  exact this
theorem od_uniq (o : Od w h p d) {e : Nat} (oe : Od w h p e) : d = e := by
  rcases Nat.lt_trichotomy d e with z | z | z
  · exact absurd o.z (oe.nz d o.pos z)
  · exact z
  · exact absurd oe.z (o.nz e oe.pos z)
theorem Ls_le (t : TOk w h a b) (o : Od w h (sb w h a b) d) : (Ls w h (sb w h a b) d).length ≤ 144 := by
  have h1 := Ls_len t.w1 t.h1 o
  have h2 := t.wh144
  have h3 : (Ls w h (sb w h a b) d).length ≤ (Ls w h (sb w h a b) d).length * d := Nat.le_mul_of_pos_right _ o.pos
  omega
/-- so many first steps, and second ones for the other lots -/
def leadL (w h : Nat) (a b : P2) (L k : Nat) : P2 := ad w h (ml w h k a) (ml w h (L - k) b)
theorem leadL_lead (hw : 0 < w) (hh : 0 < h) (ha : inR w h a) {L : Nat} (hk : k ≤ L) : leadL w h a b L k = ad w h (ml w h L b) (ml w h k (sb w h a b)) := by
  unfold leadL
  have ea : ml w h k a = ad w h (ml w h k (sb w h a b)) (ml w h k b) := by rw [← ml_ad, sb_ad hw hh ha]
  rw [ea, ad_assoc, ad_ml, Nat.add_sub_cancel' hk, ad_comm]
theorem inR_leadL (hw : 0 < w) (hh : 0 < h) {L : Nat} : inR w h (leadL w h a b L k) := inR_ad hw hh
/-! ### the numbers -/
noncomputable def nums (w h : Nat) (a b : P2) (d : Nat) (c : Bool) : List Nat := if c = true then (List.range ((Ls w h (sb w h a b) d).length + 1)).filter fun k => decide (od w h (leadL w h a b (Ls w h (sb w h a b) d).length k) = d) else []
theorem div_one_iff {e : Nat} (he : 0 < e) (hd : 0 < d) (hm : d % e = 0) : d / e = 1 ↔ e = d := by
  have := Nat.div_add_mod d e
  rw [hm, Nat.add_zero] at this
  constructor
  · intro z
    rw [z] at this
    omega
  · rintro rfl
    exact Nat.div_self he
/-! ### choose -/
def chs (m : Nat) : Nat → Int
  | 0 => 1
  | k + 1 => (chs m k * ((m : Int) - k)).fdiv ((k : Int) + 1)
theorem intsD_map {α : Type} (f : α → Int) : ∀ l : List α, intsD (l.map fun x => PyData.int (f x)) = some (l.map f)
  | [] => rfl
  | x :: l => by
    show (intsD (l.map fun x => PyData.int (f x))).map (f x :: ·) = _
    rw [intsD_map f l]
    rfl
theorem nums_le {c : Bool} (hk : k ∈ nums w h a b d c) : k ≤ (Ls w h (sb w h a b) d).length := by
  unfold nums at hk
  split at hk
  · have := List.mem_range.mp (List.mem_filter.mp hk).1
    omega
  · cases hk
theorem nums_len {c : Bool} : (nums w h a b d c).length ≤ (Ls w h (sb w h a b) d).length + 1 := by
  unfold nums
  split
  · refine Nat.le_trans (List.length_filter_le _ _) ?_
    rw [List.length_range]
    exact Nat.le_refl _
  · exact Nat.zero_le _
end
end Pw
set_option maxRecDepth 100000
namespace Pw
open PySem PySem.Spec L2 Pv
/-! the dict of a plan -/
section
variable {p q r x y g a b : P2} {w h : Nat} {i j k n m d : Nat}
/-- numbers -/
def iE (cs : List Nat) : PyData := .tuple (cs.map fun i : Nat => PyData.int i)
theorem canLay_ints : ∀ cs : List Nat, PyData.canLayAll0 (cs.map fun i : Nat => PyData.int i) = true
  | [] => rfl
  | c :: cs => by
    show (PyData.canLay0 (.int c) && PyData.canLayAll0 (cs.map fun i : Nat => PyData.int i)) = true
    rw [canLay_ints cs]
    rfl
theorem depth_ints : ∀ cs : List Nat, PyData.depthAll (cs.map fun i : Nat => PyData.int i) ≤ 1
  | [] => by simp [PyData.depthAll]
  | c :: cs => by
    have := depth_ints cs
    simp only [List.map_cons, PyData.depthAll, PyData.depth]
    omega
theorem gIn_iE (i : Nat) (cs : List Nat) : gIn (.int i) (iE cs) = some (.val (.bool (decide (i ∈ cs)))) := by
  have hs : SeqAt.shaped (iE cs) = true := by
    unfold SeqAt.shaped
    have h1 : PyData.canLay0 (iE cs) = true := canLay_ints cs
    have h2 := depth_ints cs
    rw [h1]
    simp [iE, PyData.depth]
    omega
  have : in? (.int i) (iE cs) = some (decide (i ∈ cs)) := by
    show (if SeqAt.shaped (.int i) && SeqAt.shaped (iE cs) then some ((cs.map fun i : Nat => PyData.int i).any fun z => PyData.eqv z (.int i)) else none) = _
    rw [hs, show SeqAt.shaped (.int i) = true from rfl]
    simp only [Bool.and_self, if_true, Option.some.injEq]
    rw [List.any_map, Bool.eq_iff_iff]
    simp [PyData.eqv]
    exact ⟨fun ⟨x, hx, e⟩ => by rw [show i = x by omega]; exact hx, fun hx => ⟨i, hx, rfl⟩⟩
  unfold gIn
  rw [this]
  rfl
/-- a crossing and the one it leads to -/
def kV (f : P2 → P2) (p : P2) : List Key × PyData := (kE p, pE (f p))
theorem dTd_kV (f : P2 → P2) (l : List P2) : dTd (l.map (kV f)) = (.none, .bool true) :: l.map fun p => (pE p, pE (f p)) := by
  unfold dTd
  rw [List.map_map]
  rfl
theorem put_kV {f : P2 → P2} {l : List P2} (hq : q ∉ l) : putKD (l.map (kV f)) (kE q) (pE (f q)) = (l ++ [q]).map (kV f) := by
  unfold putKD
  have : ((l.map (kV f)).any fun p => decide (p.1 = kE q)) = false := by
    rw [List.any_eq_false]
    intro x hx
    obtain ⟨p, hp, rfl⟩ := List.mem_map.mp hx
    intro z
    have := kE_inj (of_decide_eq_true z)
    exact hq (by rw [← this]; exact hp)
  rw [this]
  simp [kV]
theorem setK_kV {f : P2 → P2} {s : Slot} {ρ : Rho} {l : List P2} (hq : q ∉ l) (hl : l.length < 16777216) : setK j s (pE q) (pE (f q)) ρ (.dT (l.map (kV f))) = some (ρ.set j (s.put (.dT ((l ++ [q]).map (kV f))))) := by
  show (match keysOf [.int q.1, .int q.2] with
    | some ks => if (l.map (kV f)).length < 16777216 then some (ρ.set j (s.put (.dT (putKD (l.map (kV f)) ks (pE (f q)))))) else none
    | none => none) = _
  rw [keys_pE]
  simp only [List.length_map, if_pos hl, put_kV hq]
theorem dlook_kV (f : P2 → P2) (q : P2) : ∀ l : List P2, q ∈ l → dlook (l.map fun p => (pE p, pE (f p))) (pE q) = some (pE (f q))
  | [], h => by cases h
  | p :: l, h => by
    have ih := dlook_kV f q l
    unfold dlook at ih ⊢
    rw [List.map_cons, List.find?_cons]
    simp only [eqv_pE]
    by_cases e : p = q
    · simp [e]
    · simp only [decide_eq_false e]
      rcases List.mem_cons.mp h with z | z
      · exact absurd z.symm e
      · exact ih z
theorem gDix_kV {f : P2 → P2} {l : List P2} (hq : q ∈ l) : gDix (.dict (dTd (l.map (kV f)))) (pE q) = some (.val (pE (f q))) := by
  rw [dTd_kV]
  have h2 : dget? ((.none, .bool true) :: l.map fun p => (pE p, pE (f p))) (pE q) = some (dlook (l.map fun p => (pE p, pE (f p))) (pE q)) := rfl
  unfold gDix
  simp only [h2, dlook_kV f q l hq]
/-- lots that take the first street -/
abbrev inC (cs : List Nat) : Nat → Bool := fun i => decide (i ∈ cs)
abbrev nx (w h : Nat) (a b : P2) (d : Nat) (cs : List Nat) : P2 → P2 := nxt w h a b d (inC cs)
def nextBody : SF := gSetK (fVar 2) (fVar 5) (fCall F_added (cConsF (fVar 0) (cConsF (fVar 5) (cCons (fIf (fB (fOp gIn (fVar 3) (fVar 1))) (fOp gIx (fVar 0) (fC (.int 2))) (fOp gIx (fVar 0) (fC (.int 3)))) rNil))))
theorem next_inner (hw : 0 < w) (hh : 0 < h) (cs : List Nat) (i : Nat) (s4 : PyData) : ∀ (l done : List P2) (s5 : Slot), isLent s5 = false → (done ++ l).Nodup → done.length + l.length < 10000 → (∀ p ∈ l, lab w h (sb w h a b) d p = i) →
    ∃ s5', isLent s5' = false ∧ forL (gtName 5) nextBody (l.map pE) [.val (tE w h a b), .val (iE cs), .own (.dT (done.map (kV (nx w h a b d cs)))), .val (.int i), .val s4, s5] = .nx [.val (tE w h a b), .val (iE cs), .own (.dT ((done ++ l).map (kV (nx w h a b d cs)))), .val (.int i), .val s4, s5']
  | [], done, s5, h5, _, _, _ => ⟨s5, h5, by rw [List.append_nil]; rfl⟩
  | p :: l, done, s5, h5, nd, hl, hp => by
    rw [List.length_cons] at hl
    have hnp : p ∉ done := fun z => (List.nodup_append.mp nd).2.2 p z p List.mem_cons_self rfl
    obtain ⟨s5', g5, e⟩ := next_inner hw hh cs i s4 l (done ++ [p]) (.val (pE p)) rfl (by rw [List.append_assoc]; exact nd) (by rw [List.length_append, List.length_singleton]; omega) fun q hq => hp q (List.mem_cons_of_mem _ hq)
    refine ⟨s5', g5, ?_⟩
    have en : nx w h a b d cs p = ad w h p (if decide (i ∈ cs) = true then a else b) := by
      unfold nx nxt
      rw [hp p List.mem_cons_self]
    have sk := fun (s : Slot) (ρ : Rho) => setK_kV (j := 2) (f := nx w h a b d cs) (s := s) (ρ := ρ) hnp (by omega)
    rw [List.map_cons, forL_one (ρ1 := [.val (tE w h a b), .val (iE cs), .own (.dT (done.map (kV (nx w h a b d cs)))), .val (.int i), .val s4, .val (pE p)]) (ρ2 := [.val (tE w h a b), .val (iE cs), .own (.dT ((done ++ [p]).map (kV (nx w h a b d cs)))), .val (.int i), .val s4, .val (pE p)]) (by simp [h5]) ?_]
    · rw [e, List.append_assoc]
      rfl
    · rw [en] at sk
      unfold nextBody
      by_cases c : i ∈ cs
      · rw [if_pos (decide_eq_true c)] at sk
        simp [gIn_iE, c, F_added_eq hw hh, sk, -List.map_append]
      · rw [if_neg (by simp [c])] at sk
        simp [gIn_iE, c, F_added_eq hw hh, sk, -List.map_append]
theorem next_outer (hw : 0 < w) (hh : 0 < h) (cs : List Nat) : ∀ (L : List (List P2)) (n : Nat) (done : List P2) (s3 s4 s5 : Slot), isLent s3 = false → isLent s4 = false → isLent s5 = false → (done ++ L.flatten).Nodup → done.length + L.flatten.length < 10000 → (∀ j (hj : j < L.length), ∀ p ∈ L[j], lab w h (sb w h a b) d p = n + j) →
    ∃ s3' s4' s5', isLent s3' = false ∧ isLent s4' = false ∧ isLent s5' = false ∧ forL (gtTup 2 (gtCons (gtName 3) (gtCons (gtName 4) gtNil))) (gFor (fISeq (fVar 4)) (gtName 5) nextBody) (((L.map lE).zipIdx n).map fun p => PyData.tuple [.int (p.2 : Nat), p.1]) [.val (tE w h a b), .val (iE cs), .own (.dT (done.map (kV (nx w h a b d cs)))), s3, s4, s5] = .nx [.val (tE w h a b), .val (iE cs), .own (.dT ((done ++ L.flatten).map (kV (nx w h a b d cs)))), s3', s4', s5']
  | [], n, done, s3, s4, s5, h3, h4, h5, _, _, _ => ⟨s3, s4, s5, h3, h4, h5, by rw [List.flatten_nil, List.append_nil]; rfl⟩
  | l :: L, n, done, s3, s4, s5, h3, h4, h5, nd, hl, hp => by
    rw [List.flatten_cons] at nd hl
    rw [List.length_append] at hl
    obtain ⟨s5a, g5, e⟩ := next_inner (a := a) (b := b) (d := d) hw hh cs n (lE l) l done s5 h5 (by rw [← List.append_assoc] at nd; exact (List.nodup_append.mp nd).1) (by omega) fun p hp' => by have := hp 0 (by simp) p hp'; simpa using this
    obtain ⟨s3', s4', s5', k3, k4, k5, e2⟩ := next_outer hw hh cs L (n + 1) (done ++ l) (.val (.int n)) (.val (lE l)) s5a rfl rfl g5 (by rw [List.append_assoc]; exact nd) (by rw [List.length_append]; omega) fun j hj p hp' => by
      have := hp (j + 1) (by rw [List.length_cons]; omega) p hp'
      omega
    refine ⟨s3', s4', s5', k3, k4, k5, ?_⟩
    rw [List.map_cons, List.zipIdx_cons, List.map_cons, forL_one (ρ1 := [.val (tE w h a b), .val (iE cs), .own (.dT (done.map (kV (nx w h a b d cs)))), .val (.int n), .val (lE l), s5]) (by simp [h3, h4]) (show gFor (fISeq (fVar 4)) (gtName 5) nextBody _ = _ from by
      simp only [s_gFor, s_fISeq, s_fVar, List.getElem?_cons_succ, List.getElem?_cons_zero, s_bindF1, s_fr1]
      show toS (match seqD (lE l) with | some ds => Out.ok ds _ | none => .bad) _ = _
      rw [show seqD (lE l) = some (l.map pE) from rfl]
      exact e), e2, List.flatten_cons, List.append_assoc]
theorem Ls_lab (hw : 0 < w) (hh : 0 < h) (o : Od w h g d) (hj : j < (Ls w h g d).length) (hp : p ∈ (Ls w h g d)[j]) : lab w h g d p = j := by
  obtain ⟨q, hq, e⟩ := Ls_mem.mp (List.getElem_mem hj)
  rw [e] at hp
  have hp' := (mem_lotOf hw hh o).mp hp
  have e2 := (lotOf_eq hw hh o (inR_crs (cos_inR hw hh hp'))).mpr hp'
  unfold lab
  rw [e2, ← e]
  exact Ls_nd.idxOf_getElem j hj
theorem flat_mem (hw : 0 < w) (hh : 0 < h) (o : Od w h g d) : p ∈ (Ls w h g d).flatten ↔ inR w h p := by
  rw [(Ls_flat hw hh o).mem_iff]
  exact mem_crs
end
end Pw
set_option maxRecDepth 100000
namespace Pw
open PySem PySem.Spec L2 Pv
/-! tuples of crossings: parts, walks -/
section
variable {p q r x y g a b : P2} {w h : Nat} {i j k n m d : Nat} {l : List P2} {T : String}
theorem cut_take (ds : List PyData) (k : Nat) : cutD ds none (some (k : Int)) = ds.take k := by
  unfold cutD
  rw [HT.sIx_none, HT.sIx_nat, List.drop_zero, Nat.sub_zero]
  by_cases c : k ≤ ds.length
  · rw [Nat.min_eq_left c]
  · rw [Nat.min_eq_right (by omega), List.take_of_length_le (by omega), List.take_of_length_le (by omega)]
theorem cut_drop (ds : List PyData) (k : Nat) : cutD ds (some (k : Int)) none = ds.drop k := by
  unfold cutD
  rw [HT.sIx_none, HT.sIx_nat]
  by_cases c : k ≤ ds.length
  · rw [Nat.min_eq_left c, List.take_of_length_le (by rw [List.length_drop]; omega)]
  · rw [Nat.min_eq_right (by omega), List.drop_of_length_le (Nat.le_refl _), List.drop_of_length_le (by omega)]
    simp
theorem atI_neg1 {α : Type} (xs : List α) (hx : xs ≠ []) : atI xs (-1) = xs[xs.length - 1]? := by
  have := List.length_pos_iff.mpr hx
  unfold atI ixN
  rw [if_neg (by omega), if_pos (by omega)]
  show xs[((-1 : Int) + (xs.length : Int)).toNat]? = _
  rw [show ((-1 : Int) + (xs.length : Int)).toNat = xs.length - 1 by omega]
@[simp] theorem len_lE : gLen [lE l] = some (.val (.int l.length)) := by
  show some (R.val (.int ((l.map pE).length : Nat))) = _
  rw [List.length_map]
@[simp] theorem isi_lE : isiD (lE l) T = ("tuple" == T || (T == "int" && "tuple" == "bool")) := rfl
@[simp] theorem isN_lE : isNoneD (lE l) = false := rfl
@[simp] theorem seqD_lE : seqD (lE l) = some (l.map pE) := rfl
@[simp] theorem gSl_take (k : Nat) : gSl (lE l) none (some (k : Int)) = some (.val (lE (l.take k))) := by
  show some (R.val (.tuple (cutD (l.map pE) none (some (k : Int))))) = _
  rw [cut_take, ← List.map_take]
  rfl
@[simp] theorem gSl_drop (k : Nat) : gSl (lE l) (some (k : Int)) none = some (.val (lE (l.drop k))) := by
  show some (R.val (.tuple (cutD (l.map pE) (some (k : Int)) none))) = _
  rw [cut_drop, ← List.map_drop]
  rfl
@[simp] theorem gSl_take1 : gSl (lE l) none (some 1) = some (.val (lE (l.take 1))) := gSl_take 1
@[simp] theorem gSl_drop1 : gSl (lE l) (some 1) none = some (.val (lE (l.drop 1))) := gSl_drop 1
@[simp] theorem gSl_take0 : gSl (lE l) none (some 0) = some (.val (lE [])) := gSl_take 0
theorem gIx_lE (hi : i < l.length) : gIx (lE l) (.int i) = some (.val (pE l[i])) := by
  show (atI (l.map pE) (i : Int)).map R.val = _
  rw [atI_nat', List.getElem?_map, List.getElem?_eq_getElem hi]
  rfl
theorem gIx_lE_last (hl : l ≠ []) : gIx (lE l) (.int (-1)) = some (.val (pE (lastP l))) := by
  show (atI (l.map pE) (-1 : Int)).map R.val = _
  rw [atI_neg1 _ (by simpa using hl), last_pE hl]
  rfl
@[simp] theorem gNe_lE (l m : List P2) : gNe (lE l) (lE m) = some (.val (.bool (!decide (l = m)))) := by
  unfold gNe eqD?
  rw [shp_lE, shp_lE, eqv_lE]
  rfl
@[simp] theorem gNe_one : gNe (lE l) (.tuple [pE q]) = some (.val (.bool (!decide (l = [q])))) := gNe_lE l [q]
theorem in_lpE (p : P2) (l : List P2) : in? (pE p) (lE l) = some (decide (p ∈ l)) := by
  show (if SeqAt.shaped (pE p) && SeqAt.shaped (lE l) then some ((l.map pE).any fun z => PyData.eqv z (pE p)) else none) = _
  rw [shp_pE, shp_lE]
  simp only [Bool.and_self, if_true, Option.some.injEq]
  rw [List.any_map]
  rw [Bool.eq_iff_iff]
  simp [eqv_pE]
@[simp] theorem gIn_lE (p : P2) (l : List P2) : gIn (pE p) (lE l) = some (.val (.bool (decide (p ∈ l)))) := by
  unfold gIn
  rw [in_lpE]
  rfl
@[simp] theorem gIn_two : gIn (pE p) (.tuple [pE x, pE y]) = some (.val (.bool (decide (p = x ∨ p = y)))) := by
  have := gIn_lE p [x, y]
  simp only [List.mem_cons, List.not_mem_nil, or_false] at this
  exact this
@[simp] theorem gIn_two' : gIn (pE p) (.list [pE x, pE y]) = some (.val (.bool (decide (p = x ∨ p = y)))) := by
  have := gIn_pE p [x, y]
  simp only [List.mem_cons, List.not_mem_nil, or_false] at this
  exact this
@[simp] theorem gNotIn_two' : gNotIn (pE p) (.list [pE x, pE y]) = some (.val (.bool (!decide (p = x ∨ p = y)))) := by
  have := gNotIn_pE p [x, y]
  simp only [List.mem_cons, List.not_mem_nil, or_false] at this
  exact this
theorem rows_pE : ∀ l : List P2, rowsD (l.map pE) = some (l.map fun p => [p.1, p.2])
  | [] => rfl
  | p :: l => by
    show (match intsD [.int p.1, .int p.2], rowsD (l.map pE) with
      | some ns, some ks => some (ns :: ks)
      | _, _ => none) = _
    rw [rows_pE l]
    rfl
theorem rowP_inj : ∀ {l : List P2}, (l.map fun p => [p.1, p.2]).Nodup ↔ l.Nodup
  | [] => by simp
  | p :: l => by
    rw [List.map_cons, List.nodup_cons, List.nodup_cons, rowP_inj (l := l)]
    have : [p.1, p.2] ∈ (l.map fun p => [p.1, p.2]) ↔ p ∈ l := by
      rw [List.mem_map]
      constructor
      · rintro ⟨q, hq, e⟩
        simp only [List.cons.injEq, and_true] at e
        rw [show p = q from Prod.ext e.1.symm e.2.symm]
        exact hq
      · intro hp
        exact ⟨p, hp, rfl⟩
    rw [this]
theorem lenSet_lE (hl : l.length < 64) : ∃ n : Nat, lenSetD (lE l) = some n ∧ (n = l.length ↔ l.Nodup) := by
  refine ⟨(nubI (l.map fun p => [p.1, p.2])).length, ?_, ?_⟩
  · show ((rowsD (l.map pE)).bind fun ks => if ks.length < 64 then some (nubI ks).length else none) = _
    rw [rows_pE]
    show (if (l.map fun p => [p.1, p.2]).length < 64 then some (nubI (l.map fun p => [p.1, p.2])).length else none) = _
    rw [List.length_map, if_pos hl]
  · rw [← rowP_inj]
    constructor
    · intro e
      refine Classical.byContradiction fun hn => ?_
      have := nubI_length_lt hn
      rw [List.length_map] at this
      omega
    · intro hn
      rw [nubI_of_nodup hn, List.length_map]
/-- a walk through all crossings -/
def Walk (w h : Nat) (a b : P2) (l : List P2) : Prop := l.length = w * h ∧ l.take 1 = [(0, 0)] ∧ l.Nodup ∧ ∀ i (hi : i + 1 < l.length), l[i + 1] = ad w h l[i] a ∨ l[i + 1] = ad w h l[i] b
theorem chain_iff (f : P2 × P2 → Bool) : (l.zip (l.drop 1)).all f = true ↔ ∀ i (hi : i + 1 < l.length), f (l[i], l[i + 1]) = true := by
  rw [List.all_eq_true]
  constructor
  · intro z i hi
    refine z _ (List.mem_of_getElem? (i := i) ?_)
    rw [List.getElem?_zip_eq_some]
    refine ⟨List.getElem?_eq_getElem (by omega), ?_⟩
    rw [List.getElem?_drop, Nat.add_comm 1 i]
    exact List.getElem?_eq_getElem hi
  · intro z x hx
    obtain ⟨i, hi⟩ := List.mem_iff_getElem?.mp hx
    have := List.getElem?_zip_eq_some.mp hi
    rw [List.getElem?_drop, Nat.add_comm 1 i] at this
    obtain ⟨h1, h2⟩ := this
    obtain ⟨k1, e1⟩ := List.getElem?_eq_some_iff.mp h1
    obtain ⟨k2, e2⟩ := List.getElem?_eq_some_iff.mp h2
    have := z i k2
    rw [e1, e2] at this
    exact this
theorem head_take (hl : l ≠ []) : l.take 1 = [q] ↔ l[0]'(List.length_pos_iff.mpr hl) = q := by
  cases l with
  | nil => exact absurd rfl hl
  | cons x l => simp
theorem F_is_spot_in (hp : inR w h p) : F_is_spot [.val (.int w), .val (.int h), .val (pE p)] = .ok (.val (.bool true)) none := by
  obtain ⟨⟨h1, h2⟩, h3, h4⟩ := hp
  rw [F_is_spot_eq]
  have : ((0 ≤ p.1 ∧ p.1 ≤ (w : Int) - 1) ∧ 0 ≤ p.2 ∧ p.2 ≤ (h : Int) - 1) := by omega
  simp [this]
theorem zip_lE {fr : AF} {ρ ρ1 : Rho} {m : List P2} (e : fr ρ = .ok [lE l, lE m] ρ1) : fIZip fr ρ = .ok ((l.zip m).map fun x => PyData.tuple [pE x.1, pE x.2]) ρ1 := by
  unfold fIZip
  rw [e]
  show Out.ok (zipD (l.map pE) (m.map pE)) ρ1 = _
  unfold zipD
  rw [List.zip_map, List.map_map]
  rfl
theorem enum_lE {fr : AF} {ρ ρ1 : Rho} (e : fr ρ = .ok [lE l] ρ1) : fIEnumA fr ρ = .ok (enumD (l.map pE)) ρ1 := by
  unfold fIEnumA
  rw [e]
  rfl
/-! ### a loop that may return -/
theorem forL_scan {tg : GF} {body : SF} (l : List PyData) (ρs : Nat → Rho) (ok : Nat → Bool) (rr : R) (P : Rho → Prop) (hb : ∀ i (hi : i < l.length), ∃ ρ1, tg l[i] (ρs i) = some ρ1 ∧ (ok i = true → body ρ1 = .nx (ρs (i + 1))) ∧ (ok i = false → ∃ ρ2, body ρ1 = .rt rr ρ2 ∧ P ρ2)) :
    ((∀ i < l.length, ok i = true) ∧ forL tg body l (ρs 0) = .nx (ρs l.length)) ∨ ((¬ ∀ i < l.length, ok i = true) ∧ ∃ ρ2, forL tg body l (ρs 0) = .rt rr ρ2 ∧ P ρ2) := by
  have key : ∀ (m k : Nat), m + k = l.length → ((∀ i < l.length, k ≤ i → ok i = true) ∧ forL tg body (l.drop k) (ρs k) = .nx (ρs l.length)) ∨ ((¬ ∀ i < l.length, k ≤ i → ok i = true) ∧ ∃ ρ2, forL tg body (l.drop k) (ρs k) = .rt rr ρ2 ∧ P ρ2) := by
    intro m
    induction m with
    | zero =>
      intro k hk
      have e : k = l.length := by omega
      subst e
      rw [List.drop_length]
      exact .inl ⟨fun i h1 h2 => by omega, rfl⟩
    | succ m ih =>
      intro k hk
      have hl : k < l.length := by omega
      obtain ⟨ρ1, h1, h2, h3⟩ := hb k hl
      rw [List.drop_eq_getElem_cons hl]
      unfold forL
      simp only [h1]
      cases q : ok k with
      | true =>
        simp only [h2 q]
        rcases ih (k + 1) (by omega) with ⟨z1, z2⟩ | ⟨z1, z2⟩
        · refine .inl ⟨fun i hi hki => ?_, z2⟩
          rcases Nat.eq_or_lt_of_le hki with e | e
          · rw [← e]; exact q
          · exact z1 i hi e
        · exact .inr ⟨fun z => z1 fun i hi hki => z i hi (by omega), z2⟩
      | false =>
        obtain ⟨ρ2, e2, p2⟩ := h3 q
        simp only [e2]
        refine .inr ⟨fun z => ?_, ρ2, rfl, p2⟩
        have := z k hl (Nat.le_refl _)
        rw [q] at this
        cases this
  have := key l.length 0 (by omega)
  rw [List.drop_zero] at this
  rcases this with ⟨z1, z2⟩ | ⟨z1, z2⟩
  · exact .inl ⟨fun i hi => z1 i hi (Nat.zero_le _), z2⟩
  · exact .inr ⟨fun z => z1 fun i hi _ => z i hi, z2⟩
end
end Pw
set_option maxRecDepth 100000
namespace Pw
open PySem PySem.Spec L2 Pv
/-! the law's own test of walks -/
section
variable {p q r x y g a b : P2} {w h : Nat} {i j k n m d : Nat} {l : List P2} {T : String}
theorem nodup_take : l.Nodup ↔ ∀ i (hi : i < l.length), l[i] ∉ l.take i := by
  rw [List.Nodup, List.pairwise_iff_getElem]
  constructor
  · intro z i hi hm
    obtain ⟨j, hj, e⟩ := List.mem_take_iff_getElem.mp hm
    exact z j i (by omega) hi (by omega) e
  · intro z i j hi hj hij e
    exact z j hj (List.mem_take_iff_getElem.mpr ⟨i, by omega, e⟩)
def wOk (w h : Nat) (a b : P2) (l : List P2) (i : Nat) : Bool := !decide (l.getD i (0, 0) ∈ l.take i) && (decide (i = 0) || decide (l.getD i (0, 0) = ad w h (l.getD (i - 1) (0, 0)) a ∨ l.getD i (0, 0) = ad w h (l.getD (i - 1) (0, 0)) b))
theorem wOk_iff : (∀ i < l.length, wOk w h a b l i = true) ↔ l.Nodup ∧ ∀ i (hi : i + 1 < l.length), l[i + 1] = ad w h l[i] a ∨ l[i + 1] = ad w h l[i] b := by
  rw [nodup_take]
  constructor
  · intro z
    refine ⟨fun i hi => ?_, fun i hi => ?_⟩
    · have := z i hi
      unfold wOk at this
      simp [hi] at this
      exact this.1
    · have := z (i + 1) hi
      have hi2 : i < l.length := by omega
      unfold wOk at this
      simp [hi, hi2] at this
      exact this.2
  · rintro ⟨z1, z2⟩ i hi
    unfold wOk
    simp [hi]
    refine ⟨z1 i hi, ?_⟩
    cases i with
    | zero => exact .inl rfl
    | succ i =>
      have hi2 : i < l.length := by omega
      right
      have := z2 i hi
      simpa [hi2] using this
def walkBody : SF := gSeq (gIf (fOr (fNot (fT (fIsi (fVar 4) "tuple"))) (fOr (fB (fOp gNotIn (fVar 4) (fVar 2))) (fB (fOp gIn (fVar 4) (fSl (fVar 1) fNoPart (fPart (fVar 3))))))) (gRet (fC (.bool false))) gSkip)
    (gSeq (gIf (fOr (fT (fIsi (fOp gIx (fVar 4) (fC (.int 0))) "bool")) (fT (fIsi (fOp gIx (fVar 4) (fC (.int 1))) "bool"))) (gRet (fC (.bool false))) gSkip)
    (gIf (fAnd (fB (fOp gGt (fVar 3) (fC (.int 0)))) (fB (fOp gNotIn (fVar 4) (fLc (fISeq (fSl (fVar 0) (fPart (fC (.int 2))) fNoPart)) (gtName 5) fYes (fCall F_law_led (cConsF (fVar 0) (cCons (fOp gIx (fVar 1) (fOp gSub (fVar 3) (fC (.int 1)))) (cConsF (fVar 5) rNil)))) [5])))) (gRet (fC (.bool false))) gSkip))
theorem crs_in (hp : inR w h p) : p ∈ crs w h := mem_crs.mpr hp
def wS (w h : Nat) (a b : P2) (l : List P2) (s3 s4 : Slot) : Rho := [.val (tE w h a b), .val (lE l), .own (.lst ((crs w h).map pE)), s3, s4, .no]
theorem walk_body (t : TOk w h a b) (hl : ∀ p ∈ l, inR w h p) (hi : i < l.length) : (wOk w h a b l i = true → walkBody (wS w h a b l (.val (.int i)) (.val (pE l[i]))) = .nx (wS w h a b l (.val (.int i)) (.val (pE l[i])))) ∧
    (wOk w h a b l i = false → walkBody (wS w h a b l (.val (.int i)) (.val (pE l[i]))) = .rt (.val (.bool false)) (wS w h a b l (.val (.int i)) (.val (pE l[i])))) := by
  have hw : 0 < w := t.w1
  have hh : 0 < h := t.h1
  have hin := crs_in (hl l[i] (List.getElem_mem hi))
  unfold wOk
  by_cases c1 : l[i] ∈ l.take i
  · simp only [List.getD_eq_getElem?_getD, List.getElem?_eq_getElem hi, Option.getD_some, c1, decide_true, Bool.not_true, Bool.false_and]
    refine ⟨fun z => (by cases z), fun _ => ?_⟩
    simp [walkBody, wS, hin, c1]
  · cases i with
    | zero =>
      refine ⟨fun _ => ?_, fun z => by simp [hi] at z⟩
      simp [walkBody, wS, hin]
    | succ i =>
      have hi2 : i < l.length := by omega
      have g1 := gIx_lE hi2
      have e1 : ((i + 1 : Nat) : Int) - 1 = (i : Int) := by omega
      have e2 : (0 : Int) < ((i + 1 : Nat) : Int) := by omega
      have comp := lcL_pure (tg := gtName 5) (tt := fYes) (el := fCall F_law_led (cConsF (fVar 0) (cCons (fOp gIx (fVar 1) (fOp gSub (fVar 3) (fC (.int 1)))) (cConsF (fVar 5) rNil)))) (vs := [5]) (ρ := wS w h a b l (.val (.int (i + 1 : Nat))) (.val (pE l[i + 1]))) pE (fun q => [.val (tE w h a b), .val (lE l), .own (.lst ((crs w h).map pE)), .val (.int (i + 1 : Nat)), .val (pE l[i + 1]), .val (pE q)]) (fun _ => true) (fun q => pE (ad w h l[i] q)) [a, b] (by
        intro q _
        refine ⟨by simp [wS], by simp, fun _ => ?_, by simp [wS]⟩
        simp only [s_fCall, s_cConsF, s_cCons, s_fOp, s_fVar, s_fC, List.getElem?_cons_zero, List.getElem?_cons_succ, s_bindF1, s_fr1, s_bind1, s_rNil, s_res2b, s_de1, s_gSub, e1, g1, s_arg1]
        simp [F_led_eq hw hh])
      rw [filt_true] at comp
      simp only [List.map_cons, List.map_nil] at comp
      unfold wS at comp
      by_cases c2 : l[i + 1] = ad w h l[i] a ∨ l[i + 1] = ad w h l[i] b
      · refine ⟨fun _ => ?_, fun z => by simp [hi, hi2, c1, c2] at z⟩
        simp only [walkBody, wS, s_gSeq, s_gIf, s_fOr, s_fNot, s_fT, s_fIsi, s_fVar, List.getElem?_cons_zero, List.getElem?_cons_succ]
        simp [hin, c1, e2, -Int.natCast_add]
        rw [comp]
        simp [c2]
      · refine ⟨fun z => by simp [hi, hi2, c1, c2] at z, fun _ => ?_⟩
        simp only [walkBody, wS, s_gSeq, s_gIf, s_fOr, s_fNot, s_fT, s_fIsi, s_fVar, List.getElem?_cons_zero, List.getElem?_cons_succ]
        simp [hin, c1, e2, -Int.natCast_add]
        rw [comp]
        simp [c2]
end
end Pw
set_option maxRecDepth 100000
namespace Pw
open PySem PySem.Spec L2 Pv
/-! rounds -/
theorem forL_inv {tg : GF} {body : SF} (I : Rho → Prop) : ∀ (l : List PyData) (ρ : Rho), I ρ → (∀ d ∈ l, ∀ ρ, I ρ → ∃ ρ1 ρ2, tg d ρ = some ρ1 ∧ body ρ1 = .nx ρ2 ∧ I ρ2) → ∃ ρ', forL tg body l ρ = .nx ρ' ∧ I ρ'
  | [], ρ, h, _ => ⟨ρ, rfl, h⟩
  | d :: l, ρ, h, hs => by
    obtain ⟨ρ1, ρ2, h1, h2, h3⟩ := hs d List.mem_cons_self ρ h
    obtain ⟨ρ', e, q⟩ := forL_inv I l ρ2 h3 fun x hx => hs x (List.mem_cons_of_mem _ hx)
    exact ⟨ρ', by rw [forL_one h1 h2]; exact e, q⟩
section
variable {p q r x y g a b : P2} {w h : Nat} {i j k n m d : Nat} {l : List P2} {T : String}
theorem alD_pE (n : Nat) (p : P2) : alD (n + 1) (pE p) = true := by
  cases n <;> simp [pE, alD]
theorem alD_lE (n : Nat) (l : List P2) (hl : l.length ≤ 100000) : alD (n + 2) (lE l) = true := by
  simp [lE, alD, hl, alD_pE]
theorem alD_int (n : Nat) (x : Int) : alD n (.int x) = true := by cases n <;> rfl
theorem lastP_mem (hl : l ≠ []) : lastP l ∈ l := last_mem hl
/-- the last one leads to the first -/
def Clos (w h : Nat) (a b : P2) (l : List P2) : Prop := (0, 0) = ad w h (lastP l) a ∨ (0, 0) = ad w h (lastP l) b
theorem Walk.ne (t : TOk w h a b) (W : Walk w h a b l) : l ≠ [] := by
  intro z
  have := W.1
  rw [z, List.length_nil] at this
  have := t.wh
  omega
theorem not_walk_same (t : TOk w h a b) : ¬ Walk w h a b (List.replicate (w * h) (0, 0)) := by
  intro W
  have := W.2.2.1
  rw [List.nodup_replicate] at this
  have := t.wh
  omega
/-! ### a round -/
theorem many_range {k : Nat} : ∀ L, many (inC (List.range k)) L = min L k
  | 0 => by simp [many]
  | L + 1 => by
    have ih := many_range (k := k) L
    unfold many at ih ⊢
    rw [List.range_succ, List.countP_append, ih, List.countP_singleton]
    by_cases c : L < k
    · simp [inC, c]; omega
    · simp [inC, c]; omega
/-- the way of the round in which the first k lots take the first street -/
def way (w h : Nat) (a b : P2) (d k : Nat) : List P2 := (List.range (w * h)).map (fit w h (sb w h a b) b d (inC (List.range k)) (0, 0))
theorem way_inR (hw : 0 < w) (hh : 0 < h) (hp : p ∈ way w h a b d k) : inR w h p := by
  obtain ⟨i, _, rfl⟩ := List.mem_map.mp hp
  exact inR_fit hw hh
structure Rnd (w h : Nat) (a b : P2) (d k : Nat) : Prop where
  nz : ∀ i j, i < j → j < w * h → fit w h (sb w h a b) b d (inC (List.range k)) (0, 0) i ≠ fit w h (sb w h a b) b d (inC (List.range k)) (0, 0) j
  z : fit w h (sb w h a b) b d (inC (List.range k)) (0, 0) (w * h) = (0, 0)
theorem nums_true {c : Bool} (hk : k ∈ nums w h a b d c) : c = true ∧ od w h (leadL w h a b (Ls w h (sb w h a b) d).length k) = d := by
  unfold nums at hk
  split at hk
  · rename_i e
    exact ⟨e, by simpa using (List.mem_filter.mp hk).2⟩
  · cases hk
theorem rnd_of (t : TOk w h a b) (o : Od w h (sb w h a b) d) {c : Bool} (hW : c = true → Wl w h a b) (hk : k ∈ nums w h a b d c) : Rnd w h a b d k := by
  have hw : 0 < w := t.w1
  have hh : 0 < h := t.h1
  obtain ⟨hc, he⟩ := nums_true hk
  obtain ⟨m, Q⟩ := qo_ex hw hh (sb w h a b) b
  have hm := (hW hc).lots hw hh t.ia o Q
  have hkl := nums_le hk
  have hmd : m * d = w * h := by rw [hm]; exact Ls_len hw hh o
  have el : lead w h (sb w h a b) b (inC (List.range k)) m = leadL w h a b (Ls w h (sb w h a b) d).length k := by
    rw [leadL_lead hw hh t.ia hkl]
    unfold lead
    rw [many_range, hm, Nat.min_eq_right hkl]
  have oe : Od w h (lead w h (sb w h a b) b (inC (List.range k)) m) d := by
    have := od_spec hw hh (leadL w h a b (Ls w h (sb w h a b) d).length k)
    rw [he] at this
    rw [el]
    exact this
  refine ⟨fun i j hij hj => fit_same hw hh o Q hm oe hij (by omega), ?_⟩
  rw [← hmd]
  exact fit_back hw hh (z_inR hw hh) o Q hm oe
theorem way_walk (t : TOk w h a b) (o : Od w h (sb w h a b) d) (R : Rnd w h a b d k) : Walk w h a b (way w h a b d k) ∧ Clos w h a b (way w h a b d k) := by
  have hw : 0 < w := t.w1
  have hh : 0 < h := t.h1
  have h2 := t.wh
  have st : ∀ i, fit w h (sb w h a b) b d (inC (List.range k)) (0, 0) (i + 1) = ad w h (fit w h (sb w h a b) b d (inC (List.range k)) (0, 0) i) a ∨ fit w h (sb w h a b) b d (inC (List.range k)) (0, 0) (i + 1) = ad w h (fit w h (sb w h a b) b d (inC (List.range k)) (0, 0) i) b := fun i => by
    rw [fit_succ hw hh t.ia t.ib o]
    unfold nxt
    split
    · exact .inl rfl
    · exact .inr rfl
  have hne : way w h a b d k ≠ [] := by
    intro z
    have := congrArg List.length z
    simp [way] at this
    have := Nat.mul_pos hw hh
    omega
  refine ⟨⟨by simp [way], ?_, ?_, ?_⟩, ?_⟩
  · rw [head_take hne]
    simp [way, fit_zero hw hh (z_inR hw hh)]
  · unfold way
    rw [List.Nodup, List.pairwise_map]
    refine List.Pairwise.imp_of_mem ?_ List.nodup_range
    intro i j hi hj hne e
    rw [List.mem_range] at hi hj
    rcases Nat.lt_trichotomy i j with z | z | z
    · exact R.nz i j z hj e
    · exact hne z
    · exact R.nz j i z hi e.symm
  · intro i hi
    simp only [way, List.getElem_map, List.getElem_range]
    exact st i
  · have el : lastP (way w h a b d k) = fit w h (sb w h a b) b d (inC (List.range k)) (0, 0) (w * h - 1) := by
      unfold lastP way
      rw [List.getLast?_eq_getElem?]
      simp [show w * h - 1 < w * h by omega]
    unfold Clos
    rw [el]
    have := st (w * h - 1)
    rw [Nat.sub_add_cancel (by omega), R.z] at this
    exact this
end
end Pw
set_option maxRecDepth 100000
namespace Pw
open PySem PySem.Spec L2 Pv
/-! bent walks, the walk by rows -/
section
variable {p q r x y g a b : P2} {w h : Nat} {i j k n m d : Nat} {l : List P2} {T : String}
theorem seq_nx {g h : SF} {ρ ρ1 : Rho} (e : g ρ = .nx ρ1) : gSeq g h ρ = h ρ1 := by
  rw [s_gSeq, e]
def bentRest : SF := gSeq (gPar2 4 5 (oCons (fCall F_law_taken (cCons (fVar 0) (cCons (fCB gLen (rCons (fVar 3) rNil)) rNil))) (oCons (fCall F_law_taken (cCons (fVar 0) (cCons (fC (.int 5)) rNil))) rNil)))
    (gSeq (gIf (fB (fOp gEq (fVar 5) (fC (.int 0)))) (gSetIx (fVar 3) (fVar 4) (fCall F_law_pick (cCons (fVar 0) (cCons (fCall F_law_crossings (cConsF (fVar 1) rNil)) rNil)))) gSkip)
    (gSeq (gIf (fB (fOp gEq (fVar 5) (fC (.int 1)))) (gSet 3 (fOp gAdd (fSl (fVar 3) fNoPart (fPart (fVar 4))) (fSl (fVar 3) (fPart (fOp gAdd (fVar 4) (fC (.int 1)))) fNoPart))) gSkip)
    (gSeq (gIf (fB (fOp gEq (fVar 5) (fC (.int 2)))) (gSet 3 (fOp gAdd (fSl (fVar 3) (fPart (fVar 4)) fNoPart) (fSl (fVar 3) fNoPart (fPart (fVar 4))))) gSkip)
    (gSeq (gIf (fB (fOp gEq (fVar 5) (fC (.int 3)))) (gSet 3 (fOp gAdd (fSl (fVar 3) fNoPart (fPart (fC (.int 1)))) (fRevD (fVar 3)))) gSkip)
    (gSeq (gIf (fB (fOp gEq (fVar 5) (fC (.int 4)))) (gSet 3 (fOp gAdd (fVar 3) (fSl (fVar 3) fNoPart (fPart (fC (.int 1)))))) gSkip)
    (gRet (fCB gTuple (rCons (fVar 3) rNil))))))))
theorem sub_inR {m : List P2} (hl : ∀ p ∈ l, inR w h p) (hm : ∀ p ∈ m, p ∈ l) : ∀ p ∈ m, inR w h p := fun p hp => hl p (hm p hp)
theorem bent_rest (ns : List Int) (hns : ns.length ≤ 63) (r : Rw) (t : TOk w h a b) (v : Slot) (hl : ∀ p ∈ l, inR w h p) (hn : l.length = w * h) :
    ∃ l' r', outFn (bentRest [.lent (rwD ns r), .val (tE w h a b), v, .own (.lst (l.map pE)), .no, .no]) = .ok (.val (lE l')) (some (rwD ns r')) ∧ ∀ p ∈ l', inR w h p := by
  have hw : 0 < w := t.w1
  have hh : 0 < h := t.h1
  have h2 := t.wh
  have h144 := t.wh144
  have hpos : 0 < l.length := by omega
  obtain ⟨z1, r1, e1, z1a, z1b⟩ := taken_row ns r l.length (by omega) (by omega) hns
  obtain ⟨k, rfl⟩ := Int.eq_ofNat_of_zero_le z1a
  have hk : k < l.length := by omega
  obtain ⟨z2, r2, e2, z2a, z2b⟩ := taken_row ns r1 5 (by omega) (by omega) hns
  have ecr := F_crossings_eq (T := tE w h a b) wh_tE (by have := t.w2; omega) (by have := t.h2; omega)
  have cl := crs_length w h
  obtain ⟨u, r3, e3, um⟩ := F_pick_eq ns hns r2 ((crs w h).map pE) (by
    intro z
    have := congrArg List.length z
    simp only [List.length_map, cl, List.length_nil] at this
    omega) (by rw [List.length_map, cl]; omega)
  obtain ⟨p, hp, rfl⟩ := List.mem_map.mp um
  have c5 : z2 = 0 ∨ z2 = 1 ∨ z2 = 2 ∨ z2 = 3 ∨ z2 = 4 := by omega
  have t1 := cut_take (l.map pE) k
  have t2 := cut_drop (l.map pE) (k + 1)
  have t3 := cut_drop (l.map pE) k
  have t4 := cut_take (l.map pE) 1
  have ek : ((k + 1 : Nat) : Int) = (k : Int) + 1 := by omega
  rw [ek] at t2
  have t4' : cutD (l.map pE) none (some 1) = (l.map pE).take 1 := t4
  have l1 : min k l.length + (l.length - (k + 1)) ≤ 16777216 := by omega
  have l2 : l.length - k + min k l.length ≤ 16777216 := by omega
  have l3 : min 1 l.length + (l.length - 1) ≤ 16777216 := by omega
  have l4 : l.length + min 1 l.length ≤ 16777216 := by omega
  have ixk : ixN l.length (k : Int) = some k := by
    unfold ixN
    rw [if_pos (by omega), if_pos (by omega)]
    simp
  have ne : (l.map pE).isEmpty = false := by
    cases l with
    | nil => simp at hpos
    | cons _ _ => rfl
  rcases c5 with rfl | rfl | rfl | rfl | rfl
  · refine ⟨l.set k p, r3, ?_, fun q hq => ?_⟩
    · unfold bentRest
      simp [e1, e2, ecr, e3, ixk, lE, List.map_set]
    · rcases List.mem_or_eq_of_mem_set hq with z | z
      · exact hl q z
      · rw [z]; exact mem_crs.mp hp
  · refine ⟨l.take k ++ l.drop (k + 1), r2, ?_, sub_inR hl fun q hq => ?_⟩
    · unfold bentRest
      simp [e1, e2, t1, t2, l1, lE]
    · rcases List.mem_append.mp hq with z | z
      · exact List.mem_of_mem_take z
      · exact List.mem_of_mem_drop z
  · refine ⟨l.drop k ++ l.take k, r2, ?_, sub_inR hl fun q hq => ?_⟩
    · unfold bentRest
      simp [e1, e2, t1, t3, l2, lE]
    · rcases List.mem_append.mp hq with z | z
      · exact List.mem_of_mem_drop z
      · exact List.mem_of_mem_take z
  · refine ⟨l.take 1 ++ (l.drop 1).reverse, r2, ?_, sub_inR hl fun q hq => ?_⟩
    · unfold bentRest
      simp [e1, e2, t4', ne, l3, lE]
    · rcases List.mem_append.mp hq with z | z
      · exact List.mem_of_mem_take z
      · exact List.mem_of_mem_drop (List.mem_reverse.mp z)
  · refine ⟨l ++ l.take 1, r2, ?_, sub_inR hl fun q hq => ?_⟩
    · unfold bentRest
      simp [e1, e2, t4', l4, lE]
    · rcases List.mem_append.mp hq with z | z
      · exact z
      · exact List.mem_of_mem_take z
/-! ### the walk by rows of first streets -/
def opn (w h : Nat) (a b : P2) (n : Nat) : Nat → P2
  | 0 => (0, 0)
  | i + 1 => ad w h (opn w h a b n i) (if 0 < (i + 1) % n then a else b)
def opnL (w h : Nat) (a b : P2) (n k : Nat) : List P2 := (List.range k).map (opn w h a b n)
theorem opn_inR (hw : 0 < w) (hh : 0 < h) : ∀ i, inR w h (opn w h a b n i)
  | 0 => z_inR hw hh
  | i + 1 => inR_ad hw hh
theorem opnL_inR (hw : 0 < w) (hh : 0 < h) {k : Nat} (hp : p ∈ opnL w h a b n k) : inR w h p := by
  obtain ⟨i, _, rfl⟩ := List.mem_map.mp hp
  exact opn_inR hw hh i
end
end Pw
set_option maxRecDepth 100000
namespace Pw
open PySem PySem.Spec L2 Pv
/-! the walk by rows goes through all; values that are no walks; walks found step by step -/
theorem seq_go {g h : SF} {ρ ρ1 : Rho} {o : FOut} (e : g ρ = .nx ρ1) (k : outFn (h ρ1) = o) : outFn (gSeq g h ρ) = o := by
  rw [seq_nx e]
  exact k
section
variable {p q r x y g a b : P2} {w h : Nat} {i j k n m d : Nat} {l : List P2} {T : String}
theorem opn_form (hw : 0 < w) (hh : 0 < h) (hn : 0 < n) : ∀ i, opn w h a b n i = ad w h (ml w h (i / n) b) (ml w h (i / n * (n - 1) + i % n) a)
  | 0 => by
    rw [Nat.zero_div, Nat.zero_mod, Nat.zero_mul, Nat.add_zero, ml_zero, ml_zero, ad_zero (z_inR hw hh)]
    rfl
  | i + 1 => by
    have ih := opn_form hw hh hn i
    have h1 := Nat.div_add_mod i n
    have h2 := Nat.mod_lt i hn
    show ad w h (opn w h a b n i) (if 0 < (i + 1) % n then a else b) = _
    rw [ih]
    by_cases c : i % n + 1 < n
    · have e1 : (i + 1) / n = i / n := by
        rw [← h1, Nat.add_assoc, Nat.mul_add_div hn, Nat.div_eq_of_lt c, Nat.mul_add_div hn, Nat.div_eq_of_lt h2]
      have e2 : (i + 1) % n = i % n + 1 := by
        rw [← h1, Nat.add_assoc, Nat.mul_add_mod, Nat.mod_eq_of_lt c, Nat.mul_add_mod, Nat.mod_eq_of_lt h2]
      rw [e1, e2, if_pos (by omega), ← Nat.add_assoc, ad_assoc, ad_ml_one]
    · have c' : i % n + 1 = n := by omega
      have h3 : i + 1 = n * (i / n + 1) := by
        rw [Nat.mul_succ]
        omega
      have e1 : (i + 1) / n = i / n + 1 := by
        rw [h3, Nat.mul_div_cancel_left _ hn]
      have e2 : (i + 1) % n = 0 := by
        rw [h3, Nat.mul_mod_right]
      rw [e1, e2, if_neg (by omega), Nat.succ_mul, ← ad_ml_one]
      rw [show i / n * (n - 1) + i % n = i / n * (n - 1) + (n - 1) + 0 by omega]
      ac_rfl
theorem opnL_walk (t : TOk w h a b) (on : Od w h a n) (W : Wl w h a b) : Walk w h a b (opnL w h a b n (w * h)) := by
  have hw : 0 < w := t.w1
  have hh : 0 < h := t.h1
  have h2 := t.wh
  have hn : 0 < n := on.pos
  obtain ⟨m, Q⟩ := qo_ex hw hh a b
  have hmn : m * n = w * h := Q.len hw hh on fun p hp => by
    obtain ⟨i, j, e⟩ := W p hp
    exact ⟨i, j, by rw [ad_comm]; exact e⟩
  have inj : ∀ i j, i < j → j < w * h → opn w h a b n i ≠ opn w h a b n j := by
    intro i j hij hj e
    rw [opn_form hw hh hn, opn_form hw hh hn] at e
    have hle : i / n ≤ j / n := Nat.div_le_div_right (Nat.le_of_lt hij)
    have hjm : j / n < m := Nat.div_lt_of_lt_mul (by rw [Nat.mul_comm]; omega)
    have ig : IG w h a (ml w h (j / n - i / n) b) := Qo.diff (p := (0, 0)) hw hh on hle (by rw [zero_ad (inR_ml hw hh), zero_ad (inR_ml hw hh)]; exact e)
    have same : i / n = j / n := by
      rcases Nat.eq_or_lt_of_le hle with z | z
      · exact z
      · exact absurd ig (Q.nz _ (Nat.sub_pos_of_lt z) (Nat.lt_of_le_of_lt (Nat.sub_le _ _) hjm))
    rw [same] at e
    have e2 := ad_cancel (inR_ml hw hh) (inR_ml hw hh) e
    rw [← ad_ml, ← ad_ml] at e2
    have e3 := on.inj hw hh (Nat.mod_lt _ hn) (Nat.mod_lt _ hn) (ad_cancel (inR_ml hw hh) (inR_ml hw hh) e2)
    have d1 := Nat.div_add_mod i n
    have d2 := Nat.div_add_mod j n
    rw [same, e3] at d1
    omega
  have hne : opnL w h a b n (w * h) ≠ [] := by
    intro z
    have := congrArg List.length z
    simp [opnL] at this
    omega
  refine ⟨by simp [opnL], ?_, ?_, ?_⟩
  · rw [head_take hne]
    simp [opnL, opn]
  · unfold opnL
    rw [List.Nodup, List.pairwise_map]
    refine List.Pairwise.imp_of_mem ?_ List.nodup_range
    intro i j hi hj hne e
    rw [List.mem_range] at hi hj
    rcases Nat.lt_trichotomy i j with z | z | z
    · exact inj i j z hj e
    · exact hne z
    · exact inj j i z hi e.symm
  · intro i hi
    simp only [opnL, List.getElem_map, List.getElem_range]
    show ad w h _ (if _ then a else b) = _ ∨ ad w h _ (if _ then a else b) = _
    split
    · exact .inl rfl
    · exact .inr rfl
/-- a walk tells that the town is whole -/
theorem walk_whole (hw : 0 < w) (hh : 0 < h) (hl : ∀ p ∈ l, inR w h p) (W : Walk w h a b l) : Wl w h a b := by
  obtain ⟨w1, w2, w3, w4⟩ := W
  have re : ∀ i (hi : i < l.length), ∃ u v, ad w h (ml w h u a) (ml w h v b) = l[i] := by
    intro i
    induction i with
    | zero =>
      intro hi
      have hne : l ≠ [] := List.length_pos_iff.mp hi
      have := (head_take (q := (0, 0)) hne).mp w2
      exact ⟨0, 0, by rw [ml_zero, ml_zero, ad_zero (z_inR hw hh), this]⟩
    | succ i ih =>
      intro hi
      obtain ⟨u, v, e⟩ := ih (by omega)
      rcases w4 i hi with z | z
      · refine ⟨u + 1, v, ?_⟩
        rw [z, ← e, ← ad_ml_one]
        ac_rfl
      · refine ⟨u, v + 1, ?_⟩
        rw [z, ← e, ← ad_ml_one]
        ac_rfl
  intro p hp
  have hm : p ∈ l := by
    refine Classical.byContradiction fun hn => ?_
    have := nodup_len (l := p :: l) (m := crs w h) (List.nodup_cons.mpr ⟨hn, w3⟩) fun q hq => by
      rcases List.mem_cons.mp hq with z | z
      · rw [z]; exact mem_crs.mpr hp
      · exact mem_crs.mpr (hl q z)
    rw [List.length_cons, crs_length] at this
    omega
  obtain ⟨i, hi, e⟩ := List.mem_iff_getElem.mp hm
  obtain ⟨u, v, e2⟩ := re i hi
  exact ⟨u, v, by rw [e2, e]⟩
/-! ### parts of walks -/
structure Part (w h : Nat) (a b : P2) (l : List P2) : Prop where
  hd : l.take 1 = [(0, 0)]
  nd : l.Nodup
  st : ∀ i (hi : i + 1 < l.length), l[i + 1] = ad w h l[i] a ∨ l[i + 1] = ad w h l[i] b
theorem Part.walk (P : Part w h a b l) (e : l.length = w * h) : Walk w h a b l := ⟨e, P.hd, P.nd, P.st⟩
theorem Part.ne (P : Part w h a b l) : l ≠ [] := by
  intro z
  have := P.hd
  rw [z] at this
  cases this
theorem last_get (hl : l ≠ []) : lastP l = l[l.length - 1]'(by have := List.length_pos_iff.mpr hl; omega) := by
  unfold lastP
  rw [List.getLast?_eq_getLast hl]
  exact List.getLast_eq_getElem hl
theorem Part.snoc (P : Part w h a b l) (hq : q = ad w h (lastP l) a ∨ q = ad w h (lastP l) b) (hn : q ∉ l) : Part w h a b (l ++ [q]) := by
  have hne := P.ne
  have hpos := List.length_pos_iff.mpr hne
  refine ⟨?_, ?_, ?_⟩
  · rw [List.take_append_of_le_length (by omega)]
    exact P.hd
  · refine List.nodup_append.mpr ⟨P.nd, by simp, fun x hx y hy e => ?_⟩
    rw [List.mem_singleton] at hy
    subst hy e
    exact hn hx
  · intro i hi
    rw [List.length_append, List.length_singleton] at hi
    by_cases c : i + 1 < l.length
    · rw [List.getElem_append_left c, List.getElem_append_left (by omega)]
      exact P.st i c
    · have e : i = l.length - 1 := by omega
      rw [List.getElem_append_right (by omega), List.getElem_append_left (by omega)]
      rw [last_get hne] at hq
      simp only [e]
      have : l.length - 1 + 1 - l.length = 0 := by omega
      simp only [this]
      exact hq
theorem Walk.part (W : Walk w h a b l) (k : Nat) (hk : 0 < k) : Part w h a b (l.take k) := by
  obtain ⟨w1, w2, w3, w4⟩ := W
  refine ⟨?_, w3.sublist (List.take_sublist _ _), fun i hi => ?_⟩
  · rw [List.take_take, Nat.min_eq_left (by omega)]
    exact w2
  · rw [List.length_take] at hi
    simp only [List.getElem_take]
    exact w4 i (by omega)
def oddL (w h : Nat) (s : Str) : List PyData := [PyData.tuple [], .list ((crs w h).map pE), .int 5, .str s, .tuple (List.replicate (w * h) (.int 0)), .tuple (List.replicate (w * h) (pE (0, 0))), .tuple ((crs w h).map fun p => .list [.int p.1, .int p.2]), .dict [(.none, .bool true)]]
theorem gMul_tup (t : TOk w h a b) (hN : w * h ≤ 1000) (x : PyData) : gMul (.tuple [x]) (.int ((w : Int) * h)) = some (.val (.tuple (List.replicate (w * h) x))) := by
  have enw : ((w * h : Nat) : Int) = (w : Int) * h := by simp
  have h2 := t.wh
  rw [← enw]
  unfold gMul
  have q1 : (decide ((2 : Int) ≤ ((w * h : Nat) : Int)) && decide (((w * h : Nat) : Int) ≤ 1000)) = true := by
    simp only [Bool.and_eq_true, decide_eq_true_eq]
    omega
  have q2 : ((w : Int) * h).toNat = w * h := by rw [← enw]; omega
  simp only [List.isEmpty_cons, Bool.not_false, Bool.true_and, List.length_singleton, q1]
  simp [q2]
end
end Pw
set_option maxRecDepth 100000
set_option maxHeartbeats 4000000
namespace Pw
open PySem PySem.Spec L2 Pv
section
variable {p q x y a b : P2} {w h : Nat} {i j k n m d : Nat} {l : List P2} {bs : List Bool} {s : Bool}
/-! ### streets and the path by them -/
def stI (s : Bool) : PyData := .int (if s = true then 1 else 2)
def ssD (bs : List Bool) : List PyData := bs.map stI
def stp (a b : P2) (s : Bool) : P2 := if s = true then a else b
def pthL (w h : Nat) (a b : P2) (bs : List Bool) : List P2 := bs.foldl (fun l s => l ++ [ad w h (lastP l) (stp a b s)]) [(0, 0)]
theorem pthL_snoc : pthL w h a b (bs ++ [s]) = pthL w h a b bs ++ [ad w h (lastP (pthL w h a b bs)) (stp a b s)] := by
  unfold pthL
  rw [List.foldl_append]
  rfl
theorem snoc_cases : ∀ bs : List Bool, bs = [] ∨ ∃ c s, bs = c ++ [s] := fun bs => by
  rcases List.eq_nil_or_concat bs with h | ⟨c, s, h⟩
  · exact .inl h
  · exact .inr ⟨c, s, by rw [h, List.concat_eq_append]⟩
theorem pthL_ne : pthL w h a b bs ≠ [] := by
  rcases snoc_cases bs with rfl | ⟨c, s, rfl⟩
  · simp [pthL]
  · rw [pthL_snoc]
    simp
theorem pth_len : ∀ n (bs : List Bool), bs.length = n → (pthL w h a b bs).length = n + 1
  | 0, bs, e => by
    have : bs = [] := List.length_eq_zero_iff.mp e
    subst this
    rfl
  | n + 1, bs, e => by
    rcases snoc_cases bs with rfl | ⟨c, s, rfl⟩
    · cases e
    · rw [pthL_snoc, List.length_append, pth_len n c (by simpa using e)]
      rfl
theorem pthL_len : (pthL w h a b bs).length = bs.length + 1 := pth_len _ bs rfl
theorem pth_inR (hw : 0 < w) (hh : 0 < h) : ∀ n (bs : List Bool), bs.length = n → ∀ p ∈ pthL w h a b bs, inR w h p
  | 0, bs, e => by
    have : bs = [] := List.length_eq_zero_iff.mp e
    subst this
    intro p hp
    have : p = (0, 0) := by simpa [pthL] using hp
    rw [this]
    exact z_inR hw hh
  | n + 1, bs, e => by
    rcases snoc_cases bs with rfl | ⟨c, s, rfl⟩
    · cases e
    · intro p hp
      rw [pthL_snoc] at hp
      rcases List.mem_append.mp hp with hp | hp
      · exact pth_inR hw hh n c (by simpa using e) p hp
      · rw [List.mem_singleton.mp hp]
        exact inR_ad hw hh
/-! ### how many crossings were not come to -/
theorem row_inj {p q : P2} (e : [p.1, p.2] = [q.1, q.2]) : p = q := by
  injection e with e1 e2
  injection e2 with e2
  exact Prod.ext e1 e2
theorem filt_two {α : Type} (g : α → Bool) : ∀ l : List α, (l.filter g).length + (l.filter fun x => !g x).length = l.length
  | [] => rfl
  | x :: l => by
    have ih := filt_two g l
    cases q : g x <;> simp [q] <;> omega
theorem nub_left (hl : ∀ p ∈ l, p ∈ crs w h) : (nubI (l.map fun p => [p.1, p.2])).length + ((crs w h).filter fun p => !decide (p ∈ l)).length = w * h := by
  have e : (nubI (l.map fun p => [p.1, p.2])).Perm (((crs w h).filter fun p => decide (p ∈ l)).map fun p => [p.1, p.2]) := by
    refine (List.perm_ext_iff_of_nodup (nodup_nubI _) ?_).mpr fun r => ?_
    · refine List.Pairwise.map _ (fun p q hpq z => hpq (row_inj z)) (crs_nd.filter _)
    · rw [mem_nubI, List.mem_map, List.mem_map]
      constructor
      · rintro ⟨p, hp, rfl⟩
        exact ⟨p, List.mem_filter.mpr ⟨hl p hp, by simpa using hp⟩, rfl⟩
      · rintro ⟨p, hp, rfl⟩
        exact ⟨p, by simpa using (List.mem_filter.mp hp).2, rfl⟩
  have e2 := e.length_eq
  rw [List.length_map] at e2
  have e3 := filt_two (fun p => decide (p ∈ l)) (crs w h)
  rw [crs_length] at e3
  omega
/-! ### the walker's methods -/
theorem go_eq (hw : 0 < w) (hh : 0 < h) {g : Ins} (hC : g.C = c_Walker) (hT : g.T = tE w h a b) (ss : List PyData) (hl : l ≠ []) (h1 : ss.length < 1000) (h2 : l.length < 1000) (s : Bool) :
    F_Walker_go g ss (l.map pE) [stI s] = .ok (.val .none) (ss ++ [stI s]) ((l ++ [ad w h (lastP l) (stp a b s)]).map pE) := by
  have lst : gIx (.list (l.map pE)) (.int (-1)) = some (.val (pE (lastP l))) := by
    show (atI (l.map pE) (-1 : Int)).map R.val = _
    rw [atI_neg1 _ (by simpa using hl), last_pE hl]
    rfl
  have h3 : ss.length < 16777216 := by omega
  have h4 : l.length < 16777216 := by omega
  have hl' : l.map pE ≠ [] := by simpa using hl
  show outM 4 g (g_Walker_go [.ins g, .val (stI s), .pin g.l1 (.lst ss), .pin g.l2 (.lst (l.map pE))]) = _
  cases s
  · simp [g_Walker_go, stI, stp, F_is_number_eq, fFldS, fFldP, fFldT, hC, hT, pinL, lst, h3, h4, F_added_eq hw hh, outM, appD, withSlot, deref, isLst, Slot.mo, Slot.put]
  · simp [g_Walker_go, stI, stp, F_is_number_eq, fFldS, fFldP, fFldT, hC, hT, pinL, lst, h3, h4, F_added_eq hw hh, outM, appD, withSlot, deref, isLst, Slot.mo, Slot.put]
theorem go_no {g : Ins} (ss ps : List PyData) {v : PyData} (hv : F_is_number [.val v, .val (.int 1), .val (.int 2)] = .ok (.val (.bool false)) none) : F_Walker_go g ss ps [v] = .ex ⟨c_BadNumber, none⟩ ss ps := by
  show outM 4 g (g_Walker_go [.ins g, .val v, .pin g.l1 (.lst ss), .pin g.l2 (.lst ps)]) = _
  simp [g_Walker_go, hv, gRaise, outM, pinL]
theorem undo_no {g : Ins} (hC : g.C = c_Walker) (ps : List PyData) : F_Walker_undo g [] ps [] = .ex ⟨c_NoStep, none⟩ [] ps := by
  show outM 3 g (g_Walker_undo [.ins g, .pin g.l1 (.lst []), .pin g.l2 (.lst ps)]) = _
  simp [g_Walker_undo, fFldS, hC, pinL, gRaise, outM, deref]
theorem undo_yes {g : Ins} (hC : g.C = c_Walker) (ss ps : List PyData) (s p : PyData) : F_Walker_undo g (ss ++ [s]) (ps ++ [p]) [] = .ok (.val .none) ss ps := by
  have e1 : (ss ++ [s])[(ss ++ [s]).length - 1]? = some s := by simp
  have e2 : (ps ++ [p])[(ps ++ [p]).length - 1]? = some p := by simp
  show outM 3 g (g_Walker_undo [.ins g, .pin g.l1 (.lst (ss ++ [s])), .pin g.l2 (.lst (ps ++ [p]))]) = _
  simp [g_Walker_undo, fFldS, fFldP, hC, pinL, outM, deref, fPop, popD, Slot.mo, Slot.put]
theorem path_eq (g : Ins) (ss : List PyData) (hC : g.C = c_Walker) (hl : l.length < 1000) : F_Walker_path g ss (l.map pE) [] = .ok (.val (lE l)) ss (l.map pE) := by
  have h4 : l.length ≤ 16777216 := by omega
  show outM 3 g (g_Walker_path [.ins g, .pin g.l1 (.lst ss), .pin g.l2 (.lst (l.map pE))]) = _
  simp [g_Walker_path, fFldP, hC, pinL, outM, deref, h4, resolve, lE]
theorem streets_eq (g : Ins) (ss ps : List PyData) (hC : g.C = c_Walker) (hl : ss.length < 1000) : F_Walker_streets g ss ps [] = .ok (.val (.tuple ss)) ss ps := by
  have h4 : ss.length ≤ 16777216 := by omega
  show outM 3 g (g_Walker_streets [.ins g, .pin g.l1 (.lst ss), .pin g.l2 (.lst ps)]) = _
  simp [g_Walker_streets, fFldS, hC, pinL, outM, deref, h4, resolve]
theorem missing_eq (t : TOk w h a b) (g : Ins) (ss : List PyData) (hC : g.C = c_Walker) (hT : g.T = tE w h a b) (hl : l.length < 64) (hi : ∀ p ∈ l, p ∈ crs w h) :
    F_Walker_missing g ss (l.map pE) [] = .ok (.val (.int ((((crs w h).filter fun p => !decide (p ∈ l)).length : Nat) : Int))) ss (l.map pE) := by
  have e : lenSetD (.list (l.map pE)) = some (nubI (l.map fun p => [p.1, p.2])).length := by
    show ((rowsD (l.map pE)).bind fun ks => if ks.length < 64 then some (nubI ks).length else none) = _
    rw [rows_pE]
    show (if (l.map fun p => [p.1, p.2]).length < 64 then some (nubI (l.map fun p => [p.1, p.2])).length else none) = _
    rw [List.length_map, if_pos hl]
  have s64 := sm_nat w (by have := t.w2; omega)
  have z : (w : Int) * h - ((nubI (l.map fun p => [p.1, p.2])).length : Nat) = ((((crs w h).filter fun p => !decide (p ∈ l)).length : Nat) : Int) := by
    have e1 := nub_left hi
    have e2 : ((w * h : Nat) : Int) = (w : Int) * h := by simp
    omega
  show outM 3 g (g_Walker_missing [.ins g, .pin g.l1 (.lst ss), .pin g.l2 (.lst (l.map pE))]) = _
  generalize (nubI (l.map fun p => [p.1, p.2])).length = N at e z
  generalize ((crs w h).filter fun p => !decide (p ∈ l)).length = M at z ⊢
  simp [g_Walker_missing, fFldP, fFldT, hC, hT, pinL, outM, deref, resolve, fLenSet, outLs, e, s64, z]
end
end Pw
set_option maxRecDepth 100000
set_option maxHeartbeats 4000000
namespace Pw
open PySem PySem.Spec L2 Pv
section
variable {p q x y a b : P2} {w h : Nat} {i j k n m d : Nat} {l : List P2} {bs : List Bool} {s : Bool}
def T7 (S : Slot) (M : MO) (g : Ins) (w h : Nat) (a b : P2) (bs : List Bool) (s5 s6 s7 s8 s10 s11 : Slot) : Rho := [S, .own M, .val (tE w h a b), .ins g, .val (.tuple (ssD bs)), s5, s6, s7, s8, .no, s10, s11, .no, .pin g.l1 (.lst (ssD bs)), .pin g.l2 (.lst ((pthL w h a b bs).map pE))]
theorem cut_m1 (ds : List PyData) : cutD ds none (some (-1)) = ds.dropLast := by
  unfold cutD
  have e : HT.sIx ds.length ds.length (some (-1)) = ds.length - 1 := by
    unfold HT.sIx
    simp
    omega
  rw [e, HT.sIx_none]
  simp [List.dropLast_eq_take]
theorem shp_ss (bs : List Bool) : SeqAt.shaped (.tuple (ssD bs)) = true := by
  have e : PyData.tuple (ssD bs) = iE (bs.map fun s => if s = true then 1 else 2) := by
    unfold iE ssD
    rw [List.map_map]
    congr 1
    refine List.map_congr_left fun s _ => ?_
    cases s <;> rfl
  rw [e]
  unfold SeqAt.shaped
  have h1 : PyData.canLay0 (iE (bs.map fun s => if s = true then 1 else 2)) = true := canLay_ints _
  have h2 := depth_ints (bs.map fun s => if s = true then 1 else 2)
  rw [h1]
  simp [iE, PyData.depth]
  simp at h2
  omega
theorem gNe_ss (bs : List Bool) : gNe (.tuple (ssD bs)) (.tuple []) = some (.val (.bool (!bs.isEmpty))) := by
  cases bs with
  | nil => rfl
  | cons c bs =>
    unfold gNe eqD?
    rw [shp_ss]
    rfl
theorem nl0 : isLent .no = false := rfl
theorem nl1 {d : PyData} : isLent (.val d) = false := rfl
def undoPart : SF := (gSeq (gTryAs c_NoStep 9 (gSet 11 (fMeth c_Walker 3 13 F_Walker_undo fNil)) (gSet 11 (fC (.str "none"))))
    (gSeq (gIf (fB (fOp gNe (fVar 11) (fIf (fB (fOp gNe (fVar 4) (fTup fNil))) (fC .none) (fC (.str "none"))))) (gRet (fC (.bool false))) gSkip)
    (gSet 4 (fSl (fVar 4) fNoPart (fPart (fNeg (fC (.int 1))))))))
theorem none_none : gNe (.str "none") (.str "none") = some (.val (.bool false)) := by kernel_rfl
theorem bad_bad : gNe (.str "bad") (.str "bad") = some (.val (.bool false)) := by kernel_rfl
theorem no_no : gNe .none .none = some (.val (.bool false)) := rfl
theorem undo_part (S : Slot) (M : MO) (g : Ins) (hC : g.C = c_Walker) (s5 s6 s7 s8 s10 s11 : Slot) (h11 : isLent s11 = false) : ∃ bs' s11', bs'.length ≤ bs.length ∧ isLent s11' = false ∧ undoPart (T7 S M g w h a b bs s5 s6 s7 s8 s10 s11) = .nx (T7 S M g w h a b bs' s5 s6 s7 s8 s10 s11') := by
  rcases snoc_cases bs with rfl | ⟨c, s, rfl⟩
  · refine ⟨[], .val (.str "none"), Nat.le_refl _, rfl, ?_⟩
    have e0 : pthL w h a b [] = [(0, 0)] := rfl
    have u := undo_no (g := g) hC ([pE (0, 0)])
    have gs : gSl (.tuple []) none (some (-1)) = some (.val (.tuple [])) := rfl
    have g0 : gNe (.tuple []) (.tuple []) = some (.val (.bool false)) := rfl
    unfold undoPart T7
    simp [ssD, e0, gTryAs, fMeth, fProp, hC, pinL, u, putM, hushed, goneOk, goneS, nl0, nl1, h11, none_none, gs, g0]
  · refine ⟨c, .val .none, by simp, rfl, ?_⟩
    have u := undo_yes (g := g) hC (ssD c) ((pthL w h a b c).map pE) (stI s) (pE (ad w h (lastP (pthL w h a b c)) (stp a b s)))
    have e1 : ssD (c ++ [s]) = ssD c ++ [stI s] := by simp [ssD]
    have e2 : (pthL w h a b (c ++ [s])).map pE = (pthL w h a b c).map pE ++ [pE (ad w h (lastP (pthL w h a b c)) (stp a b s))] := by rw [pthL_snoc]; simp
    have gn := gNe_ss (c ++ [s])
    have gs : gSl (.tuple (ssD c ++ [stI s])) none (some (-1)) = some (.val (.tuple (ssD c))) := by
      show some (R.val (.tuple (cutD (ssD c ++ [stI s]) none (some (-1))))) = _
      rw [cut_m1]
      simp
    have ie : (c ++ [s]).isEmpty = false := by simp
    rw [ie, e1] at gn
    unfold undoPart T7
    rw [e1, e2]
    generalize (pthL w h a b c).map pE = P at u ⊢
    generalize pE (ad w h (lastP (pthL w h a b c)) (stp a b s)) = Q at u ⊢
    generalize ssD c = Z at u gn gs ⊢
    generalize stI s = Y at u gn gs ⊢
    simp [gTryAs, fMeth, fProp, hC, pinL, u, putM, hushed, goneOk, goneS, nl0, nl1, h11, gn, no_no, gs]
end
end Pw
set_option maxRecDepth 100000
set_option maxHeartbeats 4000000
namespace Pw
open PySem PySem.Spec L2 Pv
section
variable {p q x y a b : P2} {w h : Nat} {i j k n m d : Nat} {l : List P2} {bs : List Bool} {s : Bool}
def goRest : SF := (gSeq (gSet 10 (fAndV (fOp gIn (fVar 7) (fLst (fCons (fC (.int 1)) (fCons (fC (.int 2)) fNil)))) (fNotV (fIsi (fVar 7) "bool"))))
    (gSeq (gTryAs c_BadNumber 9 (gSet 11 (fMeth c_Walker 3 13 F_Walker_go (fCons (fVar 7) fNil))) (gSet 11 (fC (.str "bad"))))
    (gSeq (gIf (fB (fOp gNe (fVar 11) (fIf (fT (fVar 10)) (fC .none) (fC (.str "bad"))))) (gRet (fC (.bool false))) gSkip)
    (gSet 4 (fIf (fT (fVar 10)) (fOp gAdd (fVar 4) (fTup (fCons (fVar 7) fNil))) (fVar 4))))))
def streets7 : List PyData := [.int 1, .int 2, .int 1, .int 2, .int 1, .int 2, .none, .int 0, .int 3, .bool true, .str "1"]
/-- what a street drawn is -/
structure StrOk (d : PyData) (v1 v2 : Bool) : Prop where
  i1 : gIn d (.list [.int 1, .int 2]) = some (.val (.bool v1))
  i2 : isiD d "bool" = v2
theorem street_ok : ∀ d ∈ streets7, (∃ s, d = stI s ∧ StrOk d true false) ∨ (F_is_number [.val d, .val (.int 1), .val (.int 2)] = .ok (.val (.bool false)) none ∧ ∃ v1 v2, StrOk d v1 v2 ∧ (v1 && !v2) = false) := by
  intro d hd
  simp only [streets7, List.mem_cons, List.not_mem_nil, or_false] at hd
  have q1 : (∃ s, PyData.int 1 = stI s ∧ StrOk (.int 1) true false) := ⟨true, rfl, by kernel_rfl, by kernel_rfl⟩
  have q2 : (∃ s, PyData.int 2 = stI s ∧ StrOk (.int 2) true false) := ⟨false, rfl, by kernel_rfl, by kernel_rfl⟩
  rcases hd with rfl | rfl | rfl | rfl | rfl | rfl | rfl | rfl | rfl | rfl | rfl
  · exact .inl q1
  · exact .inl q2
  · exact .inl q1
  · exact .inl q2
  · exact .inl q1
  · exact .inl q2
  · exact .inr ⟨by kernel_rfl, false, false, ⟨by kernel_rfl, by kernel_rfl⟩, rfl⟩
  · exact .inr ⟨by kernel_rfl, false, false, ⟨by kernel_rfl, by kernel_rfl⟩, rfl⟩
  · exact .inr ⟨by kernel_rfl, false, false, ⟨by kernel_rfl, by kernel_rfl⟩, rfl⟩
  · exact .inr ⟨by kernel_rfl, true, true, ⟨by kernel_rfl, by kernel_rfl⟩, rfl⟩
  · exact .inr ⟨by kernel_rfl, false, false, ⟨by kernel_rfl, by kernel_rfl⟩, rfl⟩
theorem go_rest (hw : 0 < w) (hh : 0 < h) (S : Slot) (M : MO) (g : Ins) (hC : g.C = c_Walker) (hT : g.T = tE w h a b) (hb : bs.length ≤ 900) (D : PyData) (hd : D ∈ streets7) (s5 s6 s8 s10 s11 : Slot) (h10 : isLent s10 = false) (h11 : isLent s11 = false) :
    ∃ bs' s10' s11', bs'.length ≤ bs.length + 1 ∧ isLent s10' = false ∧ isLent s11' = false ∧ goRest (T7 S M g w h a b bs s5 s6 (.val D) s8 s10 s11) = .nx (T7 S M g w h a b bs' s5 s6 (.val D) s8 s10' s11') := by
  rcases street_ok D hd with ⟨s, rfl, ⟨i1, i2⟩⟩ | ⟨nu, v1, v2, ⟨i1, i2⟩, hv⟩
  · refine ⟨bs ++ [s], .val (.bool true), .val .none, by simp, rfl, rfl, ?_⟩
    have go := go_eq (l := pthL w h a b bs) hw hh hC hT (ssD bs) pthL_ne (by simp [ssD]; omega) (by rw [pthL_len]; omega) s
    rw [← pthL_snoc] at go
    have e1 : ssD (bs ++ [s]) = ssD bs ++ [stI s] := by simp [ssD]
    have l1 : (ssD bs).length + 1 ≤ 16777216 := by simp [ssD]; omega
    unfold goRest T7
    rw [e1]
    generalize (pthL w h a b bs).map pE = P1 at go ⊢
    generalize (pthL w h a b (bs ++ [s])).map pE = P2 at go ⊢
    generalize ssD bs = Z at go l1 ⊢
    generalize stI s = Y at go i1 i2 ⊢
    have ga : gAdd (.tuple Z) (.tuple [Y]) = some (.val (.tuple (Z ++ [Y]))) := by
      show (if Z.length + 1 ≤ 16777216 then _ else _) = _
      rw [if_pos l1]
    simp [i1, i2, gTryAs, fMeth, fProp, hC, pinL, go, putM, nl0, nl1, h10, h11, no_no, ga]
  · refine ⟨bs, .val (.bool (v1 && !v2)), .val (.str "bad"), by omega, rfl, rfl, ?_⟩
    have go := go_no (g := g) (ssD bs) ((pthL w h a b bs).map pE) nu
    unfold goRest T7
    generalize (pthL w h a b bs).map pE = P1 at go ⊢
    generalize ssD bs = Z at go ⊢
    cases v1 <;> cases v2 <;> first | (cases hv; done) | simp [i1, i2, gTryAs, fMeth, fProp, hC, pinL, go, putM, hushed, goneOk, goneS, nl0, nl1, h10, h11, bad_bad]
end
end Pw
set_option maxRecDepth 100000
set_option maxHeartbeats 4000000
namespace Pw
open PySem PySem.Spec L2 Pv
theorem forL_cnt {tg : GF} {body : SF} (I : Nat → Rho → Prop) : ∀ (l : List PyData) (k : Nat) (ρ : Rho), I k ρ → (∀ i (hi : i < l.length), ∀ ρ, I (k + i) ρ → ∃ ρ1 ρ2, tg l[i] ρ = some ρ1 ∧ body ρ1 = .nx ρ2 ∧ I (k + i + 1) ρ2) → ∃ ρ', forL tg body l ρ = .nx ρ' ∧ I (k + l.length) ρ'
  | [], k, ρ, h, _ => ⟨ρ, rfl, h⟩
  | d :: l, k, ρ, h, hs => by
    obtain ⟨ρ1, ρ2, h1, h2, h3⟩ := hs 0 (by simp) ρ h
    have h1 : tg d ρ = some ρ1 := h1
    obtain ⟨ρ', e, q⟩ := forL_cnt I l (k + 1) ρ2 h3 fun i hi ρ hI => by
      have := hs (i + 1) (by rw [List.length_cons]; omega) ρ (by rw [show k + (i + 1) = k + 1 + i by omega]; exact hI)
      rw [show k + (i + 1) = k + 1 + i by omega] at this
      exact this
    refine ⟨ρ', by rw [forL_one h1 h2]; exact e, ?_⟩
    rw [List.length_cons, show k + (l.length + 1) = k + 1 + l.length by omega]
    exact q
section
variable {p q x y a b : P2} {w h : Nat} {i j k n m d : Nat} {l : List P2} {bs : List Bool} {s : Bool}
def ledBody : SF := (gExpr (fAppend (fVar 6) (fCall F_law_led (cConsF (fVar 2) (cCons (fOp gIx (fVar 6) (fNeg (fC (.int 1)))) (cCons (fOp gIx (fVar 2) (fOp gAdd (fC (.int 1)) (fVar 7))) rNil))))))
theorem led_step (hw : 0 < w) (hh : 0 < h) (S : Slot) (M : MO) (g : Ins) (s5 s8 s10 s11 : Slot) (s : Bool) (hl : l ≠ []) (hn : l.length < 1000) :
    ledBody (T7 S M g w h a b bs s5 (.own (.lst (l.map pE))) (.val (stI s)) s8 s10 s11) = .nx (T7 S M g w h a b bs s5 (.own (.lst ((l ++ [ad w h (lastP l) (stp a b s)]).map pE))) (.val (stI s)) s8 s10 s11) := by
  have lst : gIx (.list (l.map pE)) (.int (-1)) = some (.val (pE (lastP l))) := by
    show (atI (l.map pE) (-1 : Int)).map R.val = _
    rw [atI_neg1 _ (by simpa using hl), last_pE hl]
    rfl
  have h4 : l.length < 16777216 := by omega
  unfold ledBody T7
  generalize (pthL w h a b bs).map pE = P
  cases s <;> simp [stI, stp, lst, h4, F_led_eq hw hh]
theorem led_loop (hw : 0 < w) (hh : 0 < h) (hb : bs.length ≤ 900) (S : Slot) (M : MO) (g : Ins) (s5 s7 s8 s10 s11 : Slot) (h7 : isLent s7 = false) :
    ∃ s7', isLent s7' = false ∧ forL (gtName 7) ledBody (ssD bs) (T7 S M g w h a b bs s5 (.own (.lst [pE (0, 0)])) s7 s8 s10 s11) = .nx (T7 S M g w h a b bs s5 (.own (.lst ((pthL w h a b bs).map pE))) s7' s8 s10 s11) := by
  obtain ⟨ρ', e, z, h1, h2⟩ := forL_cnt (tg := gtName 7) (body := ledBody) (fun k ρ => ∃ s : Slot, isLent s = false ∧ ρ = T7 S M g w h a b bs s5 (.own (.lst ((pthL w h a b (bs.take k)).map pE))) s s8 s10 s11)
    (ssD bs) 0 (T7 S M g w h a b bs s5 (.own (.lst [pE (0, 0)])) s7 s8 s10 s11) ⟨s7, h7, by rw [List.take_zero]; rfl⟩ (by
      rintro i hi ρ ⟨s, hz, rfl⟩
      have hi2 : i < bs.length := by simpa [ssD] using hi
      rw [Nat.zero_add]
      have ei : (ssD bs)[i] = stI bs[i] := by simp [ssD]
      rw [ei]
      have st := led_step (bs := bs) (l := pthL w h a b (bs.take i)) (a := a) (b := b) hw hh S M g s5 s8 s10 s11 bs[i] pthL_ne (by rw [pthL_len, List.length_take]; omega)
      rw [← pthL_snoc] at st
      have et : bs.take i ++ [bs[i]] = bs.take (i + 1) := by rw [List.take_succ, List.getElem?_eq_getElem hi2]; rfl
      rw [et] at st
      refine ⟨_, _, ?_, st, _, rfl, rfl⟩
      simp [T7, hz])
  refine ⟨z, h1, ?_⟩
  rw [e, h2, Nat.zero_add]
  have : (ssD bs).length = bs.length := by simp [ssD]
  rw [this, List.take_length]
def chkPart : SF := (gSeq (gSet 6 (fLst (fCons (fTup (fCons (fC (.int 0)) (fCons (fC (.int 0)) fNil))) fNil)))
    (gSeq (gFor (fISeq (fVar 4)) (gtName 7) ledBody)
    (gSeq (gSet 8 (fLc (fISeq (fCall F_law_crossings (cConsF (fVar 2) rNil))) (gtName 12) (fB (fOp gNotIn (fVar 12) (fVar 6))) (fVar 12) [12]))
    (gIf (fNot (fT (fCall (F_law_alike 6) (cCons (fLst (fCons (fProp c_Walker 3 13 F_Walker_streets) (fCons (fProp c_Walker 3 13 F_Walker_path) (fCons (fMeth c_Walker 3 13 F_Walker_missing fNil) fNil)))) (cCons (fLst (fCons (fVar 4) (fCons (fCB gTuple (rCons (fVar 6) rNil)) (fCons (fCB gLen (rCons (fVar 8) rNil)) fNil)))) rNil))))) (gRet (fC (.bool false))) gSkip))))
theorem chk_part (t : TOk w h a b) (hb : bs.length ≤ 60) (S : Slot) (M : MO) (g : Ins) (hC : g.C = c_Walker) (hT : g.T = tE w h a b) (s5 s6 s7 s8 s10 s11 : Slot) (h6 : isLent s6 = false) (h7 : isLent s7 = false) (h8 : isLent s8 = false) :
    ∃ s6' s7' s8', isLent s6' = false ∧ isLent s7' = false ∧ isLent s8' = false ∧ chkPart (T7 S M g w h a b bs s5 s6 s7 s8 s10 s11) = .nx (T7 S M g w h a b bs s5 s6' s7' s8' s10 s11) := by
  have hw : 0 < w := t.w1
  have hh : 0 < h := t.h1
  have h144 := t.wh144
  obtain ⟨s7', h7', el⟩ := led_loop (a := a) (b := b) (bs := bs) hw hh (by omega) S M g s5 s7 s8 s10 s11 h7
  obtain ⟨l, hl⟩ : ∃ l, l = pthL w h a b bs := ⟨_, rfl⟩
  have hll : l.length = bs.length + 1 := by rw [hl]; exact pthL_len
  have hin : ∀ p ∈ l, p ∈ crs w h := fun p hp => mem_crs.mpr (pth_inR hw hh _ bs rfl p (by rw [← hl]; exact hp))
  have hc := F_crossings_eq (T := tE w h a b) wh_tE (by have := t.w2; omega) (by have := t.h2; omega)
  have e1 : gSet 6 (fLst (fCons (fTup (fCons (fC (.int 0)) (fCons (fC (.int 0)) fNil))) fNil)) (T7 S M g w h a b bs s5 s6 s7 s8 s10 s11) = .nx (T7 S M g w h a b bs s5 (.own (.lst [pE (0, 0)])) s7 s8 s10 s11) := by
    unfold T7
    simp [h6]
    rfl
  have e2 : gFor (fISeq (fVar 4)) (gtName 7) ledBody (T7 S M g w h a b bs s5 (.own (.lst [pE (0, 0)])) s7 s8 s10 s11) = .nx (T7 S M g w h a b bs s5 (.own (.lst (l.map pE))) s7' s8 s10 s11) := by
    have ei : fISeq (fVar 4) (T7 S M g w h a b bs s5 (.own (.lst [pE (0, 0)])) s7 s8 s10 s11) = .ok (ssD bs) (T7 S M g w h a b bs s5 (.own (.lst [pE (0, 0)])) s7 s8 s10 s11) := by
      unfold T7
      simp
    unfold gFor
    rw [ei, hl]
    exact el
  have cl : (crs w h).length ≤ 16777216 := by rw [crs_length]; omega
  have comp := lcL_pure (tg := gtName 12) (tt := fB (fOp gNotIn (fVar 12) (fVar 6))) (el := fVar 12) (vs := [12]) (ρ := T7 S M g w h a b bs s5 (.own (.lst (l.map pE))) s7' s8 s10 s11) pE (fun p => (T7 S M g w h a b bs s5 (.own (.lst (l.map pE))) s7' s8 s10 s11).set 12 (.val (pE p))) (fun p => !decide (p ∈ l)) pE (crs w h) (by
        intro p hp
        unfold T7
        exact ⟨by simp, by simp, fun _ => by simp, by simp⟩)
  obtain ⟨lf, hlf⟩ : ∃ lf, lf = (crs w h).filter fun p => !decide (p ∈ l) := ⟨_, rfl⟩
  rw [← hlf] at comp
  have e3 : gSet 8 (fLc (fISeq (fCall F_law_crossings (cConsF (fVar 2) rNil))) (gtName 12) (fB (fOp gNotIn (fVar 12) (fVar 6))) (fVar 12) [12]) (T7 S M g w h a b bs s5 (.own (.lst (l.map pE))) s7' s8 s10 s11) = .nx (T7 S M g w h a b bs s5 (.own (.lst (l.map pE))) s7' (.own (.lst (lf.map pE))) s10 s11) := by
    unfold T7 at comp ⊢
    simp [hc, cl, comp, h8]
  have ms := missing_eq (l := l) t g (ssD bs) hC hT (by omega) hin
  rw [← hlf] at ms
  have ps := path_eq (l := l) g (ssD bs) hC (by omega)
  have ss := streets_eq g (ssD bs) (l.map pE) hC (by simp [ssD]; omega)
  have al : F_law_alike 6 [.val (.list [.tuple (ssD bs), lE l, .int (lf.length : Nat)]), .val (.list [.tuple (ssD bs), lE l, .int (lf.length : Nat)])] = .ok (.val (.bool true)) none := by
    refine alike_refl 5 _ ?_
    have q1 : (ssD bs).length ≤ 100000 := by simp [ssD]; omega
    have q2 := alD_lE 2 l (by omega)
    have q3 : alD 4 (.tuple (ssD bs)) = true := by
      simp [alD, q1]
      intro x hx
      obtain ⟨s, _, rfl⟩ := List.mem_map.mp hx
      rfl
    have q4 : alD 4 (.int (lf.length : Nat)) = true := alD_int _ _
    show (decide ((3 : Nat) ≤ 100000) && [PyData.tuple (ssD bs), lE l, .int (lf.length : Nat)].all (alD 4)) = true
    simp only [List.all_cons, List.all_nil, q2, q3, q4]
    rfl
  have lt : l.length ≤ 16777216 := by omega
  have e4 : gIf (fNot (fT (fCall (F_law_alike 6) (cCons (fLst (fCons (fProp c_Walker 3 13 F_Walker_streets) (fCons (fProp c_Walker 3 13 F_Walker_path) (fCons (fMeth c_Walker 3 13 F_Walker_missing fNil) fNil)))) (cCons (fLst (fCons (fVar 4) (fCons (fCB gTuple (rCons (fVar 6) rNil)) (fCons (fCB gLen (rCons (fVar 8) rNil)) fNil)))) rNil))))) (gRet (fC (.bool false))) gSkip (T7 S M g w h a b bs s5 (.own (.lst (l.map pE))) s7' (.own (.lst (lf.map pE))) s10 s11) = .nx (T7 S M g w h a b bs s5 (.own (.lst (l.map pE))) s7' (.own (.lst (lf.map pE))) s10 s11) := by
    unfold T7
    rw [← hl]
    have elE : lE l = .tuple (l.map pE) := rfl
    rw [elE] at ps al
    simp [fProp, fMeth, hC, pinL, ss, ps, ms, putM, lt, al]
  exact ⟨_, s7', _, rfl, h7', rfl, by
    unfold chkPart
    rw [seq_nx e1, seq_nx e2, seq_nx e3]
    exact e4⟩
end
end Pw
set_option maxRecDepth 100000
set_option maxHeartbeats 4000000
namespace Pw
open PySem PySem.Spec L2 Pv
section
variable {p q x y a b : P2} {w h : Nat} {i j k n m d : Nat} {l : List P2} {bs : List Bool} {s : Bool}
def turn7 : SF := (gSeq (gIf (fB (fOp gEq (fCall F_law_taken (cCons (fVar 1) (cCons (fC (.int 5)) rNil))) (fC (.int 0)))) undoPart (gSeq (gSet 7 (fCall F_law_pick (cCons (fVar 1) (cCons (fLst (fCons (fC (.int 1)) (fCons (fC (.int 2)) (fCons (fC (.int 1)) (fCons (fC (.int 2)) (fCons (fC (.int 1)) (fCons (fC (.int 2)) (fCons (fC .none) (fCons (fC (.int 0)) (fCons (fC (.int 3)) (fCons (fC (.bool true)) (fCons (fC (.str "1")) fNil)))))))))))) rNil)))) goRest)) chkPart)
theorem turn_ok (t : TOk w h a b) (ns : List Int) (hl : ns.length ≤ 63) (r : Rw) (hb : bs.length ≤ 50) (S : Slot) (g : Ins) (hC : g.C = c_Walker) (hT : g.T = tE w h a b) (s5 s6 s7 s8 s10 s11 : Slot) (h6 : isLent s6 = false) (h7 : isLent s7 = false) (h8 : isLent s8 = false) (h10 : isLent s10 = false) (h11 : isLent s11 = false) :
    ∃ r' bs' s6' s7' s8' s10' s11', bs'.length ≤ bs.length + 1 ∧ isLent s6' = false ∧ isLent s7' = false ∧ isLent s8' = false ∧ isLent s10' = false ∧ isLent s11' = false ∧
      turn7 (T7 S (rwD ns r) g w h a b bs s5 s6 s7 s8 s10 s11) = .nx (T7 S (rwD ns r') g w h a b bs' s5 s6' s7' s8' s10' s11') := by
  have hw : 0 < w := t.w1
  have hh : 0 < h := t.h1
  obtain ⟨z, r1, e, z0, z1⟩ := taken_row ns r 5 (by omega) (by omega) hl
  by_cases c : z = 0
  · obtain ⟨bs', s11', hb', h11', eu⟩ := undo_part (w := w) (h := h) (a := a) (b := b) (bs := bs) S (rwD ns r1) g hC s5 s6 s7 s8 s10 s11 h11
    obtain ⟨s6', s7', s8', h6', h7', h8', ec⟩ := chk_part (bs := bs') t (by omega) S (rwD ns r1) g hC hT s5 s6 s7 s8 s10 s11' h6 h7 h8
    refine ⟨r1, bs', s6', s7', s8', s10, s11', by omega, h6', h7', h8', h10, h11', ?_⟩
    subst c
    have e1 : gIf (fB (fOp gEq (fCall F_law_taken (cCons (fVar 1) (cCons (fC (.int 5)) rNil))) (fC (.int 0)))) undoPart (gSeq (gSet 7 (fCall F_law_pick (cCons (fVar 1) (cCons (fLst (fCons (fC (.int 1)) (fCons (fC (.int 2)) (fCons (fC (.int 1)) (fCons (fC (.int 2)) (fCons (fC (.int 1)) (fCons (fC (.int 2)) (fCons (fC .none) (fCons (fC (.int 0)) (fCons (fC (.int 3)) (fCons (fC (.bool true)) (fCons (fC (.str "1")) fNil)))))))))))) rNil)))) goRest) (T7 S (rwD ns r) g w h a b bs s5 s6 s7 s8 s10 s11) = undoPart (T7 S (rwD ns r1) g w h a b bs s5 s6 s7 s8 s10 s11) := by
      unfold T7
      simp [e]
    unfold turn7
    rw [seq_nx (e1.trans eu)]
    exact ec
  · obtain ⟨D, r2, ep, hD⟩ := F_pick_eq ns hl r1 streets7 (by simp [streets7]) (by simp [streets7])
    obtain ⟨bs', s10', s11', hb', h10', h11', eg⟩ := go_rest (w := w) (h := h) (a := a) (b := b) (bs := bs) hw hh S (rwD ns r2) g hC hT (by omega) D hD s5 s6 s8 s10 s11 h10 h11
    obtain ⟨s6', s7', s8', h6', h7', h8', ec⟩ := chk_part (bs := bs') t (by omega) S (rwD ns r2) g hC hT s5 s6 (.val D) s8 s10' s11' h6 rfl h8
    refine ⟨r2, bs', s6', s7', s8', s10', s11', hb', h6', h7', h8', h10', h11', ?_⟩
    have ep : F_law_pick [.lent (rwD ns r1), .val (.list [.int 1, .int 2, .int 1, .int 2, .int 1, .int 2, .none, .int 0, .int 3, .bool true, .str "1"])] = .ok (.val D) (some (rwD ns r2)) := ep
    have e1 : gIf (fB (fOp gEq (fCall F_law_taken (cCons (fVar 1) (cCons (fC (.int 5)) rNil))) (fC (.int 0)))) undoPart (gSeq (gSet 7 (fCall F_law_pick (cCons (fVar 1) (cCons (fLst (fCons (fC (.int 1)) (fCons (fC (.int 2)) (fCons (fC (.int 1)) (fCons (fC (.int 2)) (fCons (fC (.int 1)) (fCons (fC (.int 2)) (fCons (fC .none) (fCons (fC (.int 0)) (fCons (fC (.int 3)) (fCons (fC (.bool true)) (fCons (fC (.str "1")) fNil)))))))))))) rNil)))) goRest) (T7 S (rwD ns r) g w h a b bs s5 s6 s7 s8 s10 s11) = goRest (T7 S (rwD ns r2) g w h a b bs s5 s6 (.val D) s8 s10 s11) := by
      unfold T7
      generalize (pthL w h a b bs).map pE = P
      generalize ssD bs = Z
      generalize hq : goRest = G7
      simp [e, c, ep, h7]
    unfold turn7
    rw [seq_nx (e1.trans eg)]
    exact ec
end
end Pw
set_option maxRecDepth 100000
set_option maxHeartbeats 4000000
namespace Pw
open PySem PySem.Spec L2 Pv
section
variable {p q x y a b : P2} {w h : Nat} {i j k n m d : Nat} {l : List P2} {bs : List Bool} {s : Bool}
def noLent : Slot → Bool
  | .lent _ => false
  | _ => true
@[simp] theorem nl_own {m : MO} : noLent (.own m) = true := rfl
@[simp] theorem nl_val {D : PyData} : noLent (.val D) = true := rfl
@[simp] theorem nl_no : noLent .no = true := rfl
@[simp] theorem nl_ins {g : Ins} : noLent (.ins g) = true := rfl
@[simp] theorem nl_pin {A : Addr} {m : MO} : noLent (.pin A m) = true := rfl
theorem noLent_of {s : Slot} (hs : isLent s = false) : noLent s = true := by cases s <;> first | rfl | cases hs
theorem lentM_all : ∀ {ρ : Rho}, (∀ s ∈ ρ, noLent s = true) → lentM ρ = none
  | [], _ => rfl
  | s :: ρ, hs => by
    have e : lentM (s :: ρ) = lentM ρ := by
      have := hs s List.mem_cons_self
      cases s <;> first | rfl | cases this
    rw [e]
    exact lentM_all fun x hx => hs x (List.mem_cons_of_mem _ hx)
def towns5 : List PyData := [.none, .tuple [], .tuple [.int 1, .int 1, .tuple [.int 0, .int 0], .tuple [.int 0, .int 0]], .tuple [.int 2, .int 2, .tuple [.int 0, .int 1], .tuple [.int 0, .int 1]], .list [.int 2, .int 2, .tuple [.int 0, .int 1], .tuple [.int 1, .int 0]]]
theorem bad5 : ∀ D ∈ towns5, ∃ v, F_need_town [.val D] = .ex ⟨c_BadTown, some [("part", v)]⟩ none := by
  intro D hD
  simp only [towns5, List.mem_cons, List.not_mem_nil, or_false] at hD
  rcases hD with rfl | rfl | rfl | rfl | rfl
  · exact ⟨.str "whole", by kernel_rfl⟩
  · exact ⟨.str "whole", by kernel_rfl⟩
  · exact ⟨.str "sides", by kernel_rfl⟩
  · exact ⟨.str "steps", by kernel_rfl⟩
  · exact ⟨.str "whole", by kernel_rfl⟩
def tryX : SF := (gMakeX F_need_town (fCons (fCall F_law_pick (cCons (fVar 1) (cCons (fLst (fCons (fC .none) (fCons (fTup fNil) (fCons (fTup (fCons (fC (.int 1)) (fCons (fC (.int 1)) (fCons (fTup (fCons (fC (.int 0)) (fCons (fC (.int 0)) fNil))) (fCons (fTup (fCons (fC (.int 0)) (fCons (fC (.int 0)) fNil))) fNil))))) (fCons (fTup (fCons (fC (.int 2)) (fCons (fC (.int 2)) (fCons (fTup (fCons (fC (.int 0)) (fCons (fC (.int 1)) fNil))) (fCons (fTup (fCons (fC (.int 0)) (fCons (fC (.int 1)) fNil))) fNil))))) (fCons (fLst (fCons (fC (.int 2)) (fCons (fC (.int 2)) (fCons (fTup (fCons (fC (.int 0)) (fCons (fC (.int 1)) fNil))) (fCons (fTup (fCons (fC (.int 1)) (fCons (fC (.int 0)) fNil))) fNil))))) fNil)))))) rNil))) fNil))
def rest7 : SF := gSeq (gFor (fIRng1 (rCons (fCall F_law_taken (cCons (fVar 1) (cCons (fC (.int 24)) rNil))) rNil)) (gtName 5) turn7)
    (gSeq (gTryAs c_BadTown 9 tryX (gRet (fC (.bool true)))) (gRet (fC (.bool false))))
theorem loop7 (t : TOk w h a b) (ns : List Int) (hl : ns.length ≤ 63) (r : Rw) (z : Nat) (hz : z < 24) (S : Slot) (g : Ins) (hC : g.C = c_Walker) (hT : g.T = tE w h a b) :
    ∃ r' bs s5 s6 s7 s8 s10 s11, isLent s5 = false ∧ isLent s6 = false ∧ isLent s7 = false ∧ isLent s8 = false ∧ isLent s10 = false ∧ isLent s11 = false ∧
      forL (gtName 5) turn7 (rangeD 0 z) (T7 S (rwD ns r) g w h a b [] .no .no .no .no .no .no) = .nx (T7 S (rwD ns r') g w h a b bs s5 s6 s7 s8 s10 s11) := by
  obtain ⟨ρ', e, r', bs, s5, s6, s7, s8, s10, s11, h0, h5, h6, h7, h8, h10, h11, eρ⟩ := forL_cnt (tg := gtName 5) (body := turn7) (fun k ρ => ∃ (r : Rw) (bs : List Bool) (s5 s6 s7 s8 s10 s11 : Slot), bs.length ≤ k ∧ isLent s5 = false ∧ isLent s6 = false ∧ isLent s7 = false ∧ isLent s8 = false ∧ isLent s10 = false ∧ isLent s11 = false ∧ ρ = T7 S (rwD ns r) g w h a b bs s5 s6 s7 s8 s10 s11)
    (rangeD 0 z) 0 (T7 S (rwD ns r) g w h a b [] .no .no .no .no .no .no) ⟨r, [], .no, .no, .no, .no, .no, .no, Nat.le_refl _, rfl, rfl, rfl, rfl, rfl, rfl, rfl⟩ (by
      rintro i hi ρ ⟨r, bs, s5, s6, s7, s8, s10, s11, hb, h5, h6, h7, h8, h10, h11, rfl⟩
      have hi : i < z := by simpa [rangeD] using hi
      have ei : (rangeD 0 z)[i]'(by simpa [rangeD] using hi) = .int (i : Nat) := by simp [rangeD]
      obtain ⟨r', bs', s6', s7', s8', s10', s11', hb', h6', h7', h8', h10', h11', et⟩ := turn_ok (w := w) (h := h) (a := a) (b := b) (bs := bs) t ns hl r (by omega) S g hC hT (.val (.int (i : Nat))) s6 s7 s8 s10 s11 h6 h7 h8 h10 h11
      refine ⟨_, _, ?_, et, r', bs', _, s6', s7', s8', s10', s11', by omega, rfl, h6', h7', h8', h10', h11', rfl⟩
      rw [ei]
      simp [T7, h5])
  exact ⟨r', bs, s5, s6, s7, s8, s10, s11, h5, h6, h7, h8, h10, h11, by rw [e, eρ]⟩
theorem rest7_ok (t : TOk w h a b) (ns : List Int) (hl : ns.length ≤ 63) (r : Rw) (S : Slot) (hS : isLent S = false) (g : Ins) (hC : g.C = c_Walker) (hT : g.T = tE w h a b) : outFn (rest7 (T7 S (rwD ns r) g w h a b [] .no .no .no .no .no .no)) = .ok (.val (.bool true)) none := by
  obtain ⟨z, r1, e, z0, z1⟩ := taken_row ns r 24 (by omega) (by omega) hl
  obtain ⟨k, rfl⟩ := Int.eq_ofNat_of_zero_le z0
  obtain ⟨r2, bs, s5, s6, s7, s8, s10, s11, h5, h6, h7, h8, h10, h11, el⟩ := loop7 t ns hl r1 k (by omega) S g hC hT
  obtain ⟨D, r3, ep, hD⟩ := F_pick_eq ns hl r2 towns5 (by simp [towns5]) (by simp [towns5])
  have ep : F_law_pick [.lent (rwD ns r2), .val (.list [.none, .tuple [], .tuple [.int 1, .int 1, .tuple [.int 0, .int 0], .tuple [.int 0, .int 0]], .tuple [.int 2, .int 2, .tuple [.int 0, .int 1], .tuple [.int 0, .int 1]], .list [.int 2, .int 2, .tuple [.int 0, .int 1], .tuple [.int 1, .int 0]]])] = .ok (.val D) (some (rwD ns r3)) := ep
  obtain ⟨v, en⟩ := bad5 D hD
  have ok : okR ((k : Nat) : Int) = true := okR_nat k (by omega)
  have e1 : gFor (fIRng1 (rCons (fCall F_law_taken (cCons (fVar 1) (cCons (fC (.int 24)) rNil))) rNil)) (gtName 5) turn7 (T7 S (rwD ns r) g w h a b [] .no .no .no .no .no .no) = .nx (T7 S (rwD ns r2) g w h a b bs s5 s6 s7 s8 s10 s11) := by
    have ei : fIRng1 (rCons (fCall F_law_taken (cCons (fVar 1) (cCons (fC (.int 24)) rNil))) rNil) (T7 S (rwD ns r) g w h a b [] .no .no .no .no .no .no) = .ok (rangeD 0 k) (T7 S (rwD ns r1) g w h a b [] .no .no .no .no .no .no) := by
      unfold T7
      simp [e, ok]
    unfold gFor
    rw [ei]
    exact el
  have e2 : tryX (T7 S (rwD ns r2) g w h a b bs s5 s6 s7 s8 s10 s11) = .ex ⟨c_BadTown, some [("part", v)]⟩ (T7 S (rwD ns r3) g w h a b bs s5 s6 s7 s8 s10 s11) := by
    unfold tryX T7
    generalize (pthL w h a b bs).map pE = P
    generalize ssD bs = Z
    simp [gMakeX, ep, en]
  have e3 : gTryAs c_BadTown 9 tryX (gRet (fC (.bool true))) (T7 S (rwD ns r2) g w h a b bs s5 s6 s7 s8 s10 s11) = .rt (.val (.bool true)) (T7 S (rwD ns r3) g w h a b bs s5 s6 s7 s8 s10 s11) := by
    unfold gTryAs
    rw [e2]
    unfold T7
    simp [hushed, goneOk, goneS, nl0]
  have e4 : rest7 (T7 S (rwD ns r) g w h a b [] .no .no .no .no .no .no) = .rt (.val (.bool true)) (T7 S (rwD ns r3) g w h a b bs s5 s6 s7 s8 s10 s11) := by
    unfold rest7
    rw [seq_nx e1]
    show (match gTryAs c_BadTown 9 tryX (gRet (fC (.bool true))) (T7 S (rwD ns r2) g w h a b bs s5 s6 s7 s8 s10 s11) with
      | .nx ρ1 => _
      | o => o) = _
    rw [e3]
  rw [e4]
  show FOut.ok _ (lentM _) = _
  rw [lentM_all]
  unfold T7
  simp only [List.mem_cons, forall_eq_or_imp]
  simp [noLent_of hS, noLent_of h5, noLent_of h6, noLent_of h7, noLent_of h8, noLent_of h10, noLent_of h11]
theorem seqD_go {g : SF} {G : Rho → SO → Prop} {ρ ρ1 : Rho} {o : SO} (e : g ρ = .nx ρ1) (h : seqD' g G ρ o) : G ρ1 o := by
  unfold seqD' at h
  rw [e] at h
  exact h
theorem law_true : LawAll := by
  intro ns hl out hh
  obtain ⟨w, h, a, b, r1, et, t, hN⟩ := F_town_eq ns hl ⟨0, 6107, 0⟩ 12 40 (by omega) (by omega) (by omega) (by omega)
  have et : F_law_town [.lent (rwD ns ⟨0, 6107, 0⟩), .val (.int 12), .val (.int 40)] = .ok (.val (tE w h a b)) (some (rwD ns r1)) := et
  have hh : seqD' (gSet 1 (fLst (fCons (fVar 0) (fCons (fC (.int 0)) (fCons (fC (.int 6107)) (fCons (fC (.int 0)) fNil))))))
    (seqD' (gSet 2 (fCall F_law_town (cCons (fVar 1) (cCons (fC (.int 12)) (cCons (fC (.int 40)) rNil)))))
    (seqDD (mkPar c_Walker F_need_town 3 4 13 (fCons (fVar 2) fNil)) (fun ρ o => o = rest7 ρ))) [.val (.list (ns.map PyData.int)), .no, .no, .no, .no, .no, .no, .no, .no, .no, .no, .no, .no, .no, .no] out := hh
  have h1 := seqD_go (ρ1 := [.val (.list (ns.map PyData.int)), .own (rwD ns ⟨0, 6107, 0⟩), .no, .no, .no, .no, .no, .no, .no, .no, .no, .no, .no, .no, .no]) (by simp; rfl) hh
  have h2 := seqD_go (ρ1 := [.val (.list (ns.map PyData.int)), .own (rwD ns r1), .val (tE w h a b), .no, .no, .no, .no, .no, .no, .no, .no, .no, .no, .no, .no]) (by simp [et]) h1
  obtain ⟨o2, q3, q4⟩ := h2
  have ef : fCons (fVar 2) fNil [.val (.list (ns.map PyData.int)), .own (rwD ns r1), .val (tE w h a b), .no, .no, .no, .no, .no, .no, .no, .no, .no, .no, .no, .no] = .ok [tE w h a b] [.val (.list (ns.map PyData.int)), .own (rwD ns r1), .val (tE w h a b), .no, .no, .no, .no, .no, .no, .no, .no, .no, .no, .no, .no] := rfl
  unfold mkPar at q3
  rw [ef] at q3
  simp only at q3
  have mk : mkOk F_need_town 3 13 (tE w h a b) [.val (.list (ns.map PyData.int)), .own (rwD ns r1), .val (tE w h a b), .no, .no, .no, .no, .no, .no, .no, .no, .no, .no, .no, .no] ∧ 3 ≠ 4 ∧ 4 < 13 ∧ notL [.val (.list (ns.map PyData.int)), .own (rwD ns r1), .val (tE w h a b), .no, .no, .no, .no, .no, .no, .no, .no, .no, .no, .no, .no] 4 = true := ⟨⟨F_need_town_eq t, by decide, rfl, rfl, rfl⟩, by decide, by decide, rfl⟩
  rw [if_pos mk] at q3
  obtain ⟨g, hC, hT, rfl⟩ := q3
  simp only at q4
  subst q4
  exact rest7_ok t ns hl r1 (.val (.list (ns.map PyData.int))) rfl g hC hT
end
end Pw
set_option maxRecDepth 100000
namespace Pw
open PySem PySem.Spec L2 Pv
end Pw
open PySem PySem.W PyProof.Rows
set_option maxHeartbeats 0 in
theorem PySem.Challenge.cw_roundstreets_k07_whole_walkers_holds : PySem.Challenge.rw_roundstreets_k07_whole_walkers.Holds := by
  w_on; o_law; k_head; (case hw => w_witness2)
  k_fill
  refine L2.walk_of (l := PySem.Challenge.rw_roundstreets_k07_whole_walkers) (n := 63) (k := 8) (x := "_law_script") (CX := fun w => L2N.CX PySem.Challenge.pw_roundstreets_k07_whole_walkers w) (sp := fun w => Pv.spF _ (fun _ => False) 1 Pw.F_law) rfl (by decide) rfl ⟨rfl, by decide, by decide⟩ (fun w h Y => PySem.W.kIn_of Y) ?F (fun w H a ns hl _ hS => Pv.spF_law (Pw.F_law_true ns hl) hS fun _ z => z.elim) (fun _ _ _ _ _ h => Pv.cx_end h)
  case F =>
    intro w mg fa h KX G hmg
    refine' Pw.all_mk KX G hmg ?a0 ?l0 ?c0 ?k0 ?a1 ?l1 ?c1 ?k1 ?a2 ?l2 ?c2 ?k2 ?a3 ?l3 ?c3 ?k3 ?a4 ?l4 ?c4 ?k4 ?a5 ?l5 ?c5 ?k5 ?a6 ?i6 ?l6 ?c6 ?k6 ?a7 ?l7 ?c7 ?k7 ?a8 ?l8 ?c8 ?k8 ?a9 ?i9 ?l9 ?c9 ?k9 ?a10 ?i10 ?l10 ?c10 ?k10 ?a11 ?pg11 ?pt11 ?pr11 ?l11 ?c11 ?k11 ?a12 ?pg12 ?pt12 ?pr12 ?l12 ?c12 ?k12 ?a13 ?l13 ?c13 ?k13 ?a14 ?l14 ?c14 ?k14 ?a15 ?l15 ?c15 ?k15 ?a16 ?i16 ?l16 ?c16 ?k16 ?a17 ?l17 ?c17 ?k17 ?z_int ?z_len ?z_range ?z_min ?z_isinstance ?z_tuple ?z_list ?z_str ?z_bool ?z_set ?g_MOST_SIDE ?xa_NoStep ?xk_NoStep ?xe_NoStep ?xs_NoStep ?xt_NoStep ?xm_NoStep ?xa_BadNumber ?xk_BadNumber ?xe_BadNumber ?xs_BadNumber ?xt_BadNumber ?xm_BadNumber ?na_BadTown ?nm_BadTown ?o1_BadTown ?o2_BadTown ?o3_BadTown ?o4_BadTown ?o5_BadTown ?o6_BadTown ?p1_BadTown ?p2_BadTown ?p3_BadTown ?p4_BadTown ?q1_BadTown ?q2_BadTown ?q3_BadTown ?q4_BadTown ?q5_BadTown ?q6_BadTown ?q7_BadTown ?q8_BadTown ?q9_BadTown ?qa_BadTown ?qb_BadTown ?wA ?wG ?wH ?wP ?wS ?wM ?wK ?w1 ?w2 ?w3 Pw.law_true
    (case a0 => k_is); (case l0 => k_is); (case c0 => k_is); (case k0 => k_is); (case a1 => k_is); (case l1 => k_is); (case c1 => k_is); (case k1 => k_is); (case a2 => k_is); (case l2 => k_is); (case c2 => k_is); (case k2 => k_is); (case a3 => k_is); (case l3 => k_is); (case c3 => k_is); (case k3 => k_is); (case a4 => k_is); (case l4 => k_is); (case c4 => k_is); (case k4 => k_is); (case a5 => k_is); (case l5 => k_is); (case c5 => k_is); (case k5 => k_is); (case a6 => k_is); (case i6 => k_is); (case l6 => k_is); (case c6 => k_is); (case k6 => k_is); (case a7 => k_is); (case l7 => k_is); (case c7 => k_is); (case k7 => k_is); (case a8 => k_is); (case l8 => k_is); (case c8 => k_is); (case k8 => k_is); (case a9 => k_is); (case i9 => k_is); (case l9 => k_is); (case c9 => k_is); (case k9 => k_is); (case a10 => k_is); (case i10 => k_is); (case l10 => k_is); (case c10 => k_is); (case k10 => k_is); (case a11 => k_is); (case pg11 => k_is); (case pt11 => k_is); (case pr11 => k_is); (case l11 => k_is); (case c11 => k_is); (case k11 => k_is); (case a12 => k_is); (case pg12 => k_is); (case pt12 => k_is); (case pr12 => k_is); (case l12 => k_is); (case c12 => k_is); (case k12 => k_is); (case a13 => k_is); (case l13 => k_is); (case c13 => k_is); (case k13 => k_is); (case a14 => k_is); (case l14 => k_is); (case c14 => k_is); (case k14 => k_is); (case a15 => k_is); (case l15 => k_is); (case c15 => k_is); (case k15 => k_is); (case a16 => k_is); (case i16 => k_is); (case l16 => k_is); (case c16 => k_is); (case k16 => k_is); (case a17 => k_is); (case l17 => k_is); (case c17 => k_is); (case k17 => k_is); (case z_int => k_is); (case z_len => k_is); (case z_range => k_is); (case z_min => k_is); (case z_isinstance => k_is); (case z_tuple => k_is); (case z_list => k_is); (case z_str => k_is); (case z_bool => k_is); (case z_set => k_is); (case g_MOST_SIDE => k_is); (case xa_NoStep => first | k_is | decide +kernel | kernel_rfl); (case xk_NoStep => first | k_is | decide +kernel | kernel_rfl); (case xe_NoStep => first | k_is | decide +kernel | kernel_rfl); (case xs_NoStep => first | k_is | decide +kernel | kernel_rfl); (case xt_NoStep => first | k_is | decide +kernel | kernel_rfl); (case xm_NoStep => first | k_is | decide +kernel | kernel_rfl); (case xa_BadNumber => first | k_is | decide +kernel | kernel_rfl); (case xk_BadNumber => first | k_is | decide +kernel | kernel_rfl); (case xe_BadNumber => first | k_is | decide +kernel | kernel_rfl); (case xs_BadNumber => first | k_is | decide +kernel | kernel_rfl); (case xt_BadNumber => first | k_is | decide +kernel | kernel_rfl); (case xm_BadNumber => first | k_is | decide +kernel | kernel_rfl); (case na_BadTown => first | k_is | rfl | decide +kernel | kernel_rfl); (case nm_BadTown => first | k_is | rfl | decide +kernel | kernel_rfl); (case o1_BadTown => first | k_is | rfl | decide +kernel | kernel_rfl); (case o2_BadTown => first | k_is | rfl | decide +kernel | kernel_rfl); (case o3_BadTown => first | k_is | rfl | decide +kernel | kernel_rfl); (case o4_BadTown => first | k_is | rfl | decide +kernel | kernel_rfl); (case o5_BadTown => first | k_is | rfl | decide +kernel | kernel_rfl); (case o6_BadTown => first | k_is | rfl | decide +kernel | kernel_rfl); (case p1_BadTown => first | k_is | rfl | decide +kernel | kernel_rfl); (case p2_BadTown => first | k_is | rfl | decide +kernel | kernel_rfl); (case p3_BadTown => first | k_is | rfl | decide +kernel | kernel_rfl); (case p4_BadTown => first | k_is | rfl | decide +kernel | kernel_rfl); (case q1_BadTown => first | k_is | rfl | decide +kernel | kernel_rfl); (case q2_BadTown => first | k_is | rfl | decide +kernel | kernel_rfl); (case q3_BadTown => first | k_is | rfl | decide +kernel | kernel_rfl); (case q4_BadTown => first | k_is | rfl | decide +kernel | kernel_rfl); (case q5_BadTown => first | k_is | rfl | decide +kernel | kernel_rfl); (case q6_BadTown => first | k_is | rfl | decide +kernel | kernel_rfl); (case q7_BadTown => first | k_is | rfl | decide +kernel | kernel_rfl); (case q8_BadTown => first | k_is | rfl | decide +kernel | kernel_rfl); (case q9_BadTown => first | k_is | rfl | decide +kernel | kernel_rfl); (case qa_BadTown => first | k_is | rfl | decide +kernel | kernel_rfl); (case qb_BadTown => first | k_is | rfl | decide +kernel | kernel_rfl); (case wA => k_is); (case wG => k_is); (case wH => k_is); (case wP => k_is); (case wS => k_is); (case wM => k_is); (case wK => k_is); (case w1 => k_is); (case w2 => k_is); (case w3 => k_is)
