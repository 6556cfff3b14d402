import PyProof.Rows.All
import Wide.All
import OpenK.AllK
import Wide.FinOn
import HandS.ForMost
import HandS.Walk
import HandS.Deep
import HandS.TupAny
import HandS.IsInst
import HandS.Codes
import KE.GoesNew
import KE.GoesMore
import KE.SortData
import HandS.TupSets
import HandS.DictComp
import HandS.Conv
import HandS.TupLen
import KE.KDictZip
import KE.KDictList
import HandS.DictTup
import HandS.Words
import HandS.WordsExc
import HandS.Style
import HandS.Defaults
import PyProof.ReprLen
import KE.KExcSuper
import HandS.Exc
import HandS.ExcSuper
import HandS.TryMany
import HandS.ExcField
import HandS.ExcIs
import PyProof.ExcBaseAll.LookupError
import PyProof.ExcBaseAll.ValueError
import KE.KSuper
import HandS.ExcOwn
import HandS.CallLocal
import HandS.Lambda
import PyProof.P3Eq
import HandS.EndTab
import PySem.Challenge.RW_makefirst_k21_whole_checks_that_suit_an
set_option Elab.async false
set_option linter.all false
set_option maxRecDepth 100000
set_option maxHeartbeats 1000000
/-! DW: a layer of data over the hand layer: known heaps, owned lists, environments of data. -/
namespace DW
open PySem L2

/-! ### values that stand for data -/
mutual
inductive Rp (H : Hp) : V → PyData → Prop
  | non : Rp H .non .none
  | bl (b : Bool) : Rp H (.bl b) (.bool b)
  | int (i : Int) : Rp H (.int i) (.int i)
  | str (x : Str) : Rp H (.str x) (.str x)
  | lst {a : Addr} {xs : List V} {ds : List PyData} : H a = some (.lst xs) → RpA H xs ds → Rp H (.ref a) (.list ds)
  | tup {a : Addr} {xs : List V} {ds : List PyData} : H a = some (.tup xs) → RpA H xs ds → Rp H (.ref a) (.tuple ds)
inductive RpA (H : Hp) : List V → List PyData → Prop
  | nil : RpA H [] []
  | cons {v : V} {vs : List V} {d : PyData} {ds : List PyData} : Rp H v d → RpA H vs ds → RpA H (v :: vs) (d :: ds)
end

def Ex (H H' : Hp) : Prop := ∀ a o, H a = some o → H' a = some o
theorem Ex.refl (H : Hp) : Ex H H := fun _ _ h => h
theorem Ex.trans {H H1 H2 : Hp} (a : Ex H H1) (b : Ex H1 H2) : Ex H H2 := fun x o h => b x o (a x o h)
theorem Ex.new {H : Hp} {p : Addr} {o : HO} (h : H p = none) : Ex H (upd H p o) := fun a u e => by
  rw [upd_ne (ne_of_none e h)]
  exact e
theorem Ex.sub {H H' : Hp} {p : Addr} {o : HO} (e : Ex H H') (h : H' p = some o) : Ex (upd H p o) H' := fun a u ha => by
  by_cases q : a = p
  · subst q
    rw [upd_same] at ha
    rw [h, ha]
  · rw [upd_ne q] at ha
    exact e a u ha
theorem Ex.none {H H' : Hp} {a : Addr} (e : Ex H H') (h : H' a = Option.none) : H a = Option.none := by
  cases q : H a with
  | none => rfl
  | some o =>
    rw [e a o q] at h
    cases h
theorem Ex.up {H H' : Hp} {p : Addr} {o : HO} (e : Ex H H') (h : H p = Option.none) : Ex H (upd H' p o) := fun a u ha => by
  rw [upd_ne (ne_of_none ha h)]
  exact e a u ha

mutual
theorem Rp.ex {H H' : Hp} (e : Ex H H') : ∀ {v : V} {d : PyData}, Rp H v d → Rp H' v d
  | _, _, .non => .non
  | _, _, .bl b => .bl b
  | _, _, .int i => .int i
  | _, _, .str x => .str x
  | _, _, .lst h r => .lst (e _ _ h) (r.ex e)
  | _, _, .tup h r => .tup (e _ _ h) (r.ex e)
theorem RpA.ex {H H' : Hp} (e : Ex H H') : ∀ {vs : List V} {ds : List PyData}, RpA H vs ds → RpA H' vs ds
  | _, _, .nil => .nil
  | _, _, .cons r t => .cons (r.ex e) (t.ex e)
end
mutual
theorem Rp.dp {K : PySem.W.Frag} {H : Hp} : ∀ {v : V} {d : PyData}, Rp H v d → Dp K H v d
  | _, _, .non => .non
  | _, _, .bl b => .bl b
  | _, _, .int i => .int i
  | _, _, .str x => .str x
  | _, _, .lst h r => .lst (.of h) r.dp
  | _, _, .tup h r => .tup (.of h) r.dp
theorem RpA.dp {K : PySem.W.Frag} {H : Hp} : ∀ {vs : List V} {ds : List PyData}, RpA H vs ds → DpAll K H vs ds
  | _, _, .nil => .nil
  | _, _, .cons r t => .cons r.dp t.dp
end
theorem RpA.length {H : Hp} : ∀ {vs : List V} {ds : List PyData}, RpA H vs ds → vs.length = ds.length
  | _, _, .nil => rfl
  | _, _, .cons _ t => congrArg Nat.succ t.length
theorem RpA.get {H : Hp} : ∀ {vs : List V} {ds : List PyData} {i : Nat} {d : PyData}, RpA H vs ds → ds[i]? = some d → ∃ v, vs[i]? = some v ∧ Rp H v d
  | _, _, _, _, .nil, h => by simp at h
  | v :: vs, d :: ds, 0, _, .cons r t, h => by
    simp only [List.getElem?_cons_zero, Option.some.injEq] at h
    subst h
    exact ⟨v, by simp, r⟩
  | v :: vs, d :: ds, i + 1, _, .cons r t, h => by
    simp only [List.getElem?_cons_succ] at h
    obtain ⟨w, h1, h2⟩ := t.get h
    exact ⟨w, by simpa using h1, h2⟩
theorem RpA.getV {H : Hp} {vs : List V} {ds : List PyData} {i : Nat} {v : V} (r : RpA H vs ds) (h : vs[i]? = some v) : ∃ d, ds[i]? = some d ∧ Rp H v d := by
  have hl := (List.getElem?_eq_some_iff.mp h).1
  rw [r.length] at hl
  obtain ⟨w, h1, h2⟩ := r.get (List.getElem?_eq_getElem hl)
  rw [h] at h1
  cases h1
  exact ⟨_, List.getElem?_eq_getElem hl, h2⟩
theorem RpA.append {H : Hp} : ∀ {vs ws : List V} {ds es : List PyData}, RpA H vs ds → RpA H ws es → RpA H (vs ++ ws) (ds ++ es)
  | _, _, _, _, .nil, s => s
  | _, _, _, _, .cons r t, s => .cons r (t.append s)
theorem RpA.one {H : Hp} {v : V} {d : PyData} (r : Rp H v d) : RpA H [v] [d] := .cons r .nil
theorem RpA.take {H : Hp} : ∀ {vs : List V} {ds : List PyData} (n : Nat), RpA H vs ds → RpA H (vs.take n) (ds.take n)
  | _, _, 0, _ => .nil
  | _, _, _ + 1, .nil => .nil
  | _, _, n + 1, .cons r t => .cons r (t.take n)
theorem RpA.drop {H : Hp} : ∀ {vs : List V} {ds : List PyData} (n : Nat), RpA H vs ds → RpA H (vs.drop n) (ds.drop n)
  | _, _, 0, r => r
  | _, _, _ + 1, .nil => .nil
  | _, _, n + 1, .cons _ t => t.drop n
theorem RpA.ints {H : Hp} : ∀ ns : List Int, RpA H (ns.map V.int) (ns.map PyData.int)
  | [] => .nil
  | n :: ns => .cons (.int n) (RpA.ints ns)
theorem RpA.bls {H : Hp} : ∀ ns : List Bool, RpA H (ns.map V.bl) (ns.map PyData.bool)
  | [] => .nil
  | n :: ns => .cons (.bl n) (RpA.bls ns)
theorem RpA.ints_inv {H : Hp} : ∀ {vs : List V} {ns : List Int}, RpA H vs (ns.map PyData.int) → vs = ns.map V.int
  | [], [], _ => rfl
  | [], n :: ns, h => by cases h
  | v :: vs, [], h => by cases h
  | v :: vs, n :: ns, h => by
    rw [List.map_cons] at h
    cases h with
    | cons r t =>
      cases r
      rw [List.map_cons, RpA.ints_inv t]
theorem RpA.bls_inv {H : Hp} : ∀ {vs : List V} {ns : List Bool}, RpA H vs (ns.map PyData.bool) → vs = ns.map V.bl
  | [], [], _ => rfl
  | [], n :: ns, h => by cases h
  | v :: vs, [], h => by cases h
  | v :: vs, n :: ns, h => by
    rw [List.map_cons] at h
    cases h with
    | cons r t =>
      cases r
      rw [List.map_cons, RpA.bls_inv t]

/-! ### slots, environments -/
inductive Sl where
  /-- a datum -/
  | kn (d : PyData)
  /-- a list of its own, that may be changed; pin: its slot is never stored to -/
  | ow (pin : Bool) (ds : List PyData)
  /-- an instance of the class at C -/
  | obj (C : Addr) (fs : List (Str × PyData))
  /-- the same, the instance at p -/
  | objP (p C : Addr) (fs : List (Str × PyData))
  /-- a value as it is -/
  | raw (v : V)
  /-- a dict whose keys are tuples, all its values True -/
  | dic (ks : List (List Key))
  /-- a list of ints that is never changed, wherever it stands -/
  | scr (K : PySem.W.Frag) (ns : List Int)

/-- the fields of an instance -/
inductive FsOk (H : Hp) : List (Str × V) → List (Str × PyData) → Prop
  | nil : FsOk H [] []
  | cons {f : Str} {v : V} {d : PyData} {vs : List (Str × V)} {ds : List (Str × PyData)} : Rp H v d → FsOk H vs ds → FsOk H ((f, v) :: vs) ((f, d) :: ds)
theorem FsOk.ex {H H' : Hp} (e : Ex H H') : ∀ {vs : List (Str × V)} {ds : List (Str × PyData)}, FsOk H vs ds → FsOk H' vs ds
  | _, _, .nil => .nil
  | _, _, .cons r t => .cons (r.ex e) (t.ex e)
theorem FsOk.look {H : Hp} : ∀ {vs : List (Str × V)} {ds : List (Str × PyData)} {f : Str} {d : PyData}, FsOk H vs ds → ds.lookup f = some d → ∃ v, vs.lookup f = some v ∧ Rp H v d
  | _, _, _, _, .nil, h => by cases h
  | _, _, f, d, .cons (f := g) r t, h => by
    rw [List.lookup_cons] at h ⊢
    cases e : f == g with
    | true =>
      rw [e] at h
      cases h
      exact ⟨_, rfl, r⟩
    | false =>
      rw [e] at h
      exact t.look h

theorem sq_ex {K : PySem.W.Frag} {H H' : Hp} {a : Addr} {xs : List V} (e : Ex H H') (h : SqL K H a xs) : SqL K H' a xs :=
  h.elim (fun h => .inl (h.elim (fun h => .inl (e _ _ h)) fun ⟨o, h⟩ => .inr ⟨o, e _ _ h⟩)) fun h => .inr h
def SlOk (Hk H : Hp) (v : V) : Sl → Prop
  | .kn d => Rp Hk v d
  | .ow _ ds => ∃ l xs, v = .ref l ∧ Hk l = none ∧ H l = some (.lst xs) ∧ RpA Hk xs ds
  | .obj C fs => ∃ p dx vs, v = .ref p ∧ Hk p = some (.ins C dx vs) ∧ FsOk Hk vs fs
  | .objP p C fs => ∃ dx vs, v = .ref p ∧ Hk p = some (.ins C dx vs) ∧ FsOk Hk vs fs
  | .raw u => v = u
  | .dic ks => ∃ p, v = .ref p ∧ Hk p = some (.dT (ks.map fun k => (k, V.bl true)))
  | .scr K ns => ∃ p, v = .ref p ∧ SqL K Hk p (ns.map V.int)

abbrev En := List (Option Sl)
def Owns (σ : St) (ρ : En) (a : Addr) : Prop := ∃ (i : Nat) (p : Bool) (ds : List PyData), ρ[i]? = some (some (.ow p ds)) ∧ σ[i]? = some (some (.ref a))

structure At (ρ : En) (Hk : Hp) (σ : St) (H : Hp) : Prop where
  kh : Ex Hk H
  len : σ.length = ρ.length
  en : ∀ (i : Nat) (s : Sl), ρ[i]? = some (some s) → ∃ v, σ[i]? = some (some v) ∧ SlOk Hk H v s
  inj : ∀ (i j : Nat) (p q : Bool) (ds es : List PyData) (a : Addr), ρ[i]? = some (some (.ow p ds)) → ρ[j]? = some (some (.ow q es)) → σ[i]? = some (some (.ref a)) → σ[j]? = some (some (.ref a)) → i = j

def isMut : HO → Prop
  | .lst _ => True
  | .dT _ => True
  | .ins _ _ _ => True
  | .tbl _ => True
  | _ => False
/-- what may happen to the heaps where the lists at O alone are changed -/
structure Gr (O : Addr → Prop) (Hk H Hk' H' : Hp) : Prop where
  kk : Ex Hk Hk'
  keep : ∀ a o, H a = some o → ¬ O a → H' a = some o
  live : ∀ a, H a ≠ none → H' a ≠ none
  old : ∀ a o, H a = some o → isMut o → ¬ O a → Hk a = none → Hk' a = none
theorem Gr.refl {O : Addr → Prop} {Hk H : Hp} : Gr O Hk H Hk H := ⟨Ex.refl _, fun _ _ h _ => h, fun _ h => h, fun _ _ _ _ _ h => h⟩
theorem Gr.trans {O O' : Addr → Prop} {Hk H Hk1 H1 Hk2 H2 : Hp} (a : Gr O Hk H Hk1 H1) (b : Gr O' Hk1 H1 Hk2 H2) (h : ∀ x, O' x → O x ∨ H x = none) : Gr O Hk H Hk2 H2 := by
  have no : ∀ x, H x ≠ none → ¬ O x → ¬ O' x := fun x hx hO hO' => (h x hO').elim hO hx
  refine ⟨a.kk.trans b.kk, fun x o hx hO => ?_, fun x hx => b.live x (a.live x hx), fun x o hx mu hO hk => ?_⟩
  · exact b.keep x o (a.keep x o hx hO) (no x (by rw [hx]; simp) hO)
  · exact b.old x o (a.keep x o hx hO) mu (no x (by rw [hx]; simp) hO) (a.old x o hx mu hO hk)
theorem Gr.mono {O O' : Addr → Prop} {Hk H Hk1 H1 : Hp} (a : Gr O Hk H Hk1 H1) (h : ∀ x, O x → O' x) : Gr O' Hk H Hk1 H1 :=
  ⟨a.kk, fun x o hx hO => a.keep x o hx fun q => hO (h x q), a.live, fun x o hx mu hO => a.old x o hx mu fun q => hO (h x q)⟩
/-- a new object that is known from now on -/
theorem Gr.new {O : Addr → Prop} {Hk H : Hp} {p : Addr} {o : HO} (e : Ex Hk H) (h : H p = none) : Gr O Hk H (upd Hk p o) (upd H p o) := by
  refine ⟨Ex.new (e.none h), fun a u ha _ => Ex.new h a u ha, fun a ha => ?_, fun a u ha _ _ hk => ?_⟩
  · by_cases q : a = p
    · subst q
      exact absurd h ha
    · rw [upd_ne q]
      exact ha
  · rw [upd_ne (ne_of_none ha h)]
    exact hk
theorem Ex.both {Hk H : Hp} {p : Addr} {o : HO} (e : Ex Hk H) : Ex (upd Hk p o) (upd H p o) := fun a u ha => by
  by_cases q : a = p
  · subst q
    rw [upd_same] at ha ⊢
    exact ha
  · rw [upd_ne q] at ha ⊢
    exact e a u ha

theorem SlOk.go {O : Addr → Prop} {Hk H Hk' H' : Hp} {v : V} {s : Sl} (g : Gr O Hk H Hk' H') (h : SlOk Hk H v s) (no : ∀ p ds a, s = .ow p ds → v = .ref a → ¬ O a) : SlOk Hk' H' v s := by
  cases s with
  | kn d => exact h.ex g.kk
  | ow p ds =>
    obtain ⟨l, xs, rfl, h1, h2, h3⟩ := h
    have n := no p ds l rfl rfl
    exact ⟨l, xs, rfl, g.old l _ h2 True.intro n h1, g.keep l _ h2 n, h3.ex g.kk⟩
  | obj C fs =>
    obtain ⟨p, dx, vs, rfl, h1, h2⟩ := h
    exact ⟨p, dx, vs, rfl, g.kk _ _ h1, h2.ex g.kk⟩
  | objP pp C fs =>
    obtain ⟨dx, vs, rfl, h1, h2⟩ := h
    exact ⟨dx, vs, rfl, g.kk _ _ h1, h2.ex g.kk⟩
  | raw u => exact h
  | scr K ns =>
    obtain ⟨p, rfl, h1⟩ := h
    exact ⟨p, rfl, sq_ex g.kk h1⟩
  | dic ks =>
    obtain ⟨p, rfl, h1⟩ := h
    exact ⟨p, rfl, g.kk _ _ h1⟩

/-- a slot of a list that stays where it is -/
def Pin (ρ : En) (i : Nat) : Prop := ∃ ds, ρ[i]? = some (some (.ow true ds))
/-- from one state to a later one, the slots as they were, the owned lists' contents as ρ' tells -/
structure Go (ρ : En) (Hk : Hp) (σ : St) (H : Hp) (ρ' : En) (Hk' H' : Hp) : Prop where
  at' : At ρ' Hk' σ H'
  gr : Gr (Owns σ ρ) Hk H Hk' H'
  own : ∀ a, Owns σ ρ' a → Owns σ ρ a
  pin : ∀ i, Pin ρ i → Pin ρ' i
theorem Go.refl {ρ : En} {Hk : Hp} {σ : St} {H : Hp} (a : At ρ Hk σ H) : Go ρ Hk σ H ρ Hk H := ⟨a, Gr.refl, fun _ h => h, fun _ h => h⟩
theorem Go.trans {ρ ρ1 ρ2 : En} {Hk Hk1 Hk2 : Hp} {σ : St} {H H1 H2 : Hp} (a : Go ρ Hk σ H ρ1 Hk1 H1) (b : Go ρ1 Hk1 σ H1 ρ2 Hk2 H2) : Go ρ Hk σ H ρ2 Hk2 H2 :=
  ⟨b.at', a.gr.trans b.gr fun x h => .inl (a.own x h), fun x h => a.own x (b.own x h), fun i h => b.pin i (a.pin i h)⟩
/-- an owned list is no known object -/
theorem At.owned {ρ : En} {Hk : Hp} {σ : St} {H : Hp} (a : At ρ Hk σ H) {x : Addr} (h : Owns σ ρ x) : Hk x = none ∧ ∃ xs, H x = some (.lst xs) := by
  obtain ⟨i, p, ds, h1, h2⟩ := h
  obtain ⟨v, h3, l, xs, h4, h5, h6, _⟩ := a.en i _ h1
  rw [h2] at h3
  cases h3
  cases h4
  exact ⟨h5, xs, h6⟩
/-- the heaps go on, no owned list is touched -/
theorem At.go {ρ : En} {Hk Hk' : Hp} {σ : St} {H H' : Hp} (a : At ρ Hk σ H) (g : Gr (fun _ => False) Hk H Hk' H') (e : Ex Hk' H') : Go ρ Hk σ H ρ Hk' H' := by
  refine ⟨⟨e, a.len, fun i s h => ?_, a.inj⟩, g.mono fun _ h => h.elim, fun _ h => h, fun _ h => h⟩
  obtain ⟨v, h1, h2⟩ := a.en i s h
  exact ⟨v, h1, h2.go g fun _ _ _ _ _ q => q⟩
theorem At.new {ρ : En} {Hk : Hp} {σ : St} {H : Hp} {p : Addr} {o : HO} (a : At ρ Hk σ H) (h : H p = none) : Go ρ Hk σ H ρ (upd Hk p o) (upd H p o) :=
  a.go (Gr.new a.kh h) a.kh.both
/-- the heap alone goes on -/
theorem At.newH {ρ : En} {Hk : Hp} {σ : St} {H : Hp} {p : Addr} {o : HO} (a : At ρ Hk σ H) (h : H p = none) : Go ρ Hk σ H ρ Hk (upd H p o) :=
  a.go ⟨Ex.refl _, fun x u hx _ => Ex.new h x u hx, fun x hx => by
    by_cases q : x = p
    · subst q
      exact absurd h hx
    · rw [upd_ne q]
      exact hx, fun x _ _ _ _ hk => hk⟩ (a.kh.trans (Ex.new h))

/-! ### expressions -/
def EvD (te : TE) (ρ : En) (d : PyData) (ρ' : En) : Prop := ∀ (Hk : Hp) (σ : St) (H : Hp), At ρ Hk σ H → ∀ Q : VK, (∀ v Hk' H', Go ρ Hk σ H ρ' Hk' H' → Rp Hk' v d → Q v H') → te σ H Q
def EvB (tt : TT) (ρ : En) (b : Bool) (ρ' : En) : Prop := ∀ (Hk : Hp) (σ : St) (H : Hp), At ρ Hk σ H → ∀ Q : Bool → Hp → Prop, (∀ Hk' H', Go ρ Hk σ H ρ' Hk' H' → Q b H') → tt σ H Q
/-- a new list that may be owned -/
def EvN (te : TE) (ρ : En) (ds : List PyData) (ρ' : En) : Prop := ∀ (Hk : Hp) (σ : St) (H : Hp), At ρ Hk σ H → ∀ Q : VK, (∀ l xs Hk' H', Go ρ Hk σ H ρ' Hk' H' → H l = none → Hk' l = none → H' l = some (.lst xs) → RpA Hk' xs ds → Q (.ref l) H') → te σ H Q
/-- a new dict, its keys tuples, its values True -/
def EvK (te : TE) (ρ : En) (ks : List (List Key)) (ρ' : En) : Prop := ∀ (Hk : Hp) (σ : St) (H : Hp), At ρ Hk σ H → ∀ Q : VK, (∀ p Hk' H', Go ρ Hk σ H ρ' Hk' H' → Hk' p = some (.dT (ks.map fun k => (k, V.bl true))) → Q (.ref p) H') → te σ H Q
/-- an argument: a datum, or what a slot holds -/
inductive Ar where
  | d (d : PyData)
  | var (i : Nat)
inductive ArOk (Hk : Hp) (σ : St) : V → Ar → Prop
  | d {v : V} {d : PyData} : Rp Hk v d → ArOk Hk σ v (.d d)
  | var {v : V} {i : Nat} : σ[i]? = some (some v) → ArOk Hk σ v (.var i)
inductive ArAll (Hk : Hp) (σ : St) : List V → List Ar → Prop
  | nil : ArAll Hk σ [] []
  | cons {v : V} {vs : List V} {a : Ar} {as : List Ar} : ArOk Hk σ v a → ArAll Hk σ vs as → ArAll Hk σ (v :: vs) (a :: as)
theorem ArOk.ex {Hk Hk' : Hp} {σ : St} {v : V} {a : Ar} (e : Ex Hk Hk') : ArOk Hk σ v a → ArOk Hk' σ v a
  | .d r => .d (r.ex e)
  | .var h => .var h
theorem ArAll.ex {Hk Hk' : Hp} {σ : St} (e : Ex Hk Hk') : ∀ {vs : List V} {as : List Ar}, ArAll Hk σ vs as → ArAll Hk' σ vs as
  | _, _, .nil => .nil
  | _, _, .cons r t => .cons (r.ex e) (t.ex e)
def EvA (ta : TA) (ρ : En) (as : List Ar) (ρ' : En) : Prop := ∀ (Hk : Hp) (σ : St) (H : Hp), At ρ Hk σ H → ∀ Q : List V → Hp → Prop, (∀ vs Hk' H', Go ρ Hk σ H ρ' Hk' H' → ArAll Hk' σ vs as → Q vs H') → ta σ H Q
theorem ArAll.data {Hk : Hp} {σ : St} : ∀ {vs : List V} {ds : List PyData}, ArAll Hk σ vs (ds.map Ar.d) → RpA Hk vs ds
  | [], [], _ => .nil
  | [], _ :: _, h => by cases h
  | _ :: _, [], h => by cases h
  | v :: vs, d :: ds, h => by
    rw [List.map_cons] at h
    cases h with
    | cons r t =>
      cases r with
      | d r => exact .cons r t.data

section
variable {ρ ρ1 ρ2 ρ3 ρ' : En} {ta tb te tx : TE} {d e x y z : PyData} {ds es : List PyData}
theorem ed_c_int {i : Int} : EvD (tC (.int i)) ρ (.int i) ρ := fun Hk σ H a Q q => q _ Hk H (Go.refl a) (.int i)
theorem ed_c_bl {i : Bool} : EvD (tC (.bl i)) ρ (.bool i) ρ := fun Hk σ H a Q q => q _ Hk H (Go.refl a) (.bl i)
theorem ed_c_non : EvD (tC .non) ρ .none ρ := fun Hk σ H a Q q => q _ Hk H (Go.refl a) .non
theorem ed_c_str {i : Str} : EvD (tC (.str i)) ρ (.str i) ρ := fun Hk σ H a Q q => q _ Hk H (Go.refl a) (.str i)
theorem ed_var {i : Nat} (h : ρ[i]? = some (some (.kn d))) : EvD (tVar i) ρ d ρ := fun Hk σ H a Q q => by
  obtain ⟨v, h1, h2⟩ := a.en i _ h
  exact ⟨v, h1, q v Hk H (Go.refl a) h2⟩
theorem EvD.to {d' : PyData} (h : EvD te ρ d ρ') (e : d = d') : EvD te ρ d' ρ' := e ▸ h
theorem EvB.to {tt : TT} {b b' : Bool} (h : EvB tt ρ b ρ') (e : b = b') : EvB tt ρ b' ρ' := e ▸ h
/-- by a rule on values, no owned list is touched -/
theorem ed_op {r : R2} (ha : EvD ta ρ x ρ1) (hb : EvD tb ρ1 y ρ2)
    (hr : ∀ (Hk H : Hp) (u v : V) (Q : VK), Ex Hk H → Rp Hk u x → Rp Hk v y → (∀ w Hk' H', Gr (fun _ => False) Hk H Hk' H' → Ex Hk' H' → Rp Hk' w z → Q w H') → r u v H Q) : EvD (tOp r ta tb) ρ z ρ2 := fun Hk σ H a Q q =>
  ha Hk σ H a _ fun u Hk1 H1 g1 r1 => hb Hk1 σ H1 g1.at' _ fun v Hk2 H2 g2 r2 =>
    hr Hk2 H2 u v Q g2.at'.kh (r1.ex g2.gr.kk) r2 fun w Hk3 H3 g3 e3 r3 => q w Hk3 H3 ((g1.trans g2).trans (g2.at'.go g3 e3)) r3
/-- a value that is told by its data alone -/
theorem ed_opV {r : R2} (ha : EvD ta ρ x ρ1) (hb : EvD tb ρ1 y ρ2)
    (hr : ∀ (Hk H : Hp) (u v : V) (Q : VK), Ex Hk H → Rp Hk u x → Rp Hk v y → (∀ w, Rp Hk w z → Q w H) → r u v H Q) : EvD (tOp r ta tb) ρ z ρ2 :=
  ed_op ha hb fun Hk H u v Q e r1 r2 q => hr Hk H u v Q e r1 r2 fun w r3 => q w Hk H Gr.refl e r3
theorem ed_I0 {g : Int → Int → V} {g' : Int → Int → PyData} {i j : Int} (ha : EvD ta ρ (.int i) ρ1) (hb : EvD tb ρ1 (.int j) ρ2) (hg : ∀ H, Rp H (g i j) (g' i j)) : EvD (tOp (rI0 g) ta tb) ρ (g' i j) ρ2 :=
  ed_opV ha hb fun Hk H u v Q e r1 r2 q => by
    cases r1
    cases r2
    exact ⟨i, j, rfl, rfl, q _ (hg _)⟩
theorem ed_I {C : Int → Int → Prop} {g : Int → Int → V} {g' : Int → Int → PyData} {i j : Int} (hc : C i j) (ha : EvD ta ρ (.int i) ρ1) (hb : EvD tb ρ1 (.int j) ρ2) (hg : ∀ H, Rp H (g i j) (g' i j)) : EvD (tOp (rI C g) ta tb) ρ (g' i j) ρ2 :=
  ed_opV ha hb fun Hk H u v Q e r1 r2 q => by
    cases r1
    cases r2
    exact ⟨i, j, rfl, rfl, hc, q _ (hg _)⟩
end
end DW

set_option maxRecDepth 100000
set_option maxHeartbeats 1000000
namespace DW
open PySem L2

/-! ### environments: a slot is set -/
theorem At.set {ρ : En} {Hk : Hp} {σ : St} {H : Hp} {i : Nat} {v : V} {s : Sl} (a : At ρ Hk σ H) (r : SlOk Hk H v s) (n : ∀ p ds, s ≠ .ow p ds) : At (ρ.set i (some s)) Hk (σ.set i (some v)) H := by
  refine ⟨a.kh, by rw [List.length_set, List.length_set]; exact a.len, fun j t h => ?_, fun j k p q ds es b h1 h2 h3 h4 => ?_⟩
  · by_cases e : i = j
    · subst e
      have hi : i < ρ.length := by
        have := (List.getElem?_eq_some_iff.mp h).1
        rw [List.length_set] at this
        exact this
      rw [List.getElem?_set_self hi] at h
      cases h
      exact ⟨v, by rw [List.getElem?_set_self (by rw [a.len]; exact hi)], r⟩
    · rw [List.getElem?_set_ne e] at h
      obtain ⟨w, h1, h2⟩ := a.en j t h
      exact ⟨w, by rw [List.getElem?_set_ne e]; exact h1, h2⟩
  · have ne : ∀ {m : Nat} {p : Bool} {ds : List PyData}, (ρ.set i (some s))[m]? = some (some (.ow p ds)) → i ≠ m := fun {m p ds} h e => by
      subst e
      have hi : i < ρ.length := by
        have := (List.getElem?_eq_some_iff.mp h).1
        rw [List.length_set] at this
        exact this
      rw [List.getElem?_set_self hi] at h
      exact n p ds (Option.some.inj (Option.some.inj h))
    have n1 := ne h1
    have n2 := ne h2
    rw [List.getElem?_set_ne n1] at h1 h3
    rw [List.getElem?_set_ne n2] at h2 h4
    exact a.inj j k p q ds es b h1 h2 h3 h4
theorem At.forget {ρ : En} {Hk : Hp} {σ : St} {H : Hp} {i : Nat} {o : Option V} (a : At ρ Hk σ H) : At (ρ.set i none) Hk (σ.set i o) H := by
  refine ⟨a.kh, by rw [List.length_set, List.length_set]; exact a.len, fun j t h => ?_, fun j k p q ds es b h1 h2 h3 h4 => ?_⟩
  · by_cases e : i = j
    · subst e
      have hi : i < ρ.length := by
        have := (List.getElem?_eq_some_iff.mp h).1
        rw [List.length_set] at this
        exact this
      rw [List.getElem?_set_self hi] at h
      cases h
    · rw [List.getElem?_set_ne e] at h
      obtain ⟨w, h1, h2⟩ := a.en j t h
      exact ⟨w, by rw [List.getElem?_set_ne e]; exact h1, h2⟩
  · have ne : ∀ {m : Nat} {p : Bool} {ds : List PyData}, (ρ.set i none)[m]? = some (some (.ow p ds)) → i ≠ m := fun {m p ds} h e => by
      subst e
      have hi : i < ρ.length := by
        have := (List.getElem?_eq_some_iff.mp h).1
        rw [List.length_set] at this
        exact this
      rw [List.getElem?_set_self hi] at h
      cases h
    have n1 := ne h1
    have n2 := ne h2
    rw [List.getElem?_set_ne n1] at h1 h3
    rw [List.getElem?_set_ne n2] at h2 h4
    exact a.inj j k p q ds es b h1 h2 h3 h4
theorem set_inv {α : Type} {l : List α} {i j : Nat} {x y : α} (h : (l.set i x)[j]? = some y) : (i = j ∧ i < l.length ∧ x = y) ∨ (i ≠ j ∧ l[j]? = some y) := by
  by_cases e : i = j
  · subst e
    have hi : i < l.length := by
      have := (List.getElem?_eq_some_iff.mp h).1
      rw [List.length_set] at this
      exact this
    rw [List.getElem?_set_self hi] at h
    exact .inl ⟨rfl, hi, Option.some.inj h⟩
  · rw [List.getElem?_set_ne e] at h
    exact .inr ⟨e, h⟩
/-- a new list, owned from now on -/
theorem At.setN {ρ : En} {Hk : Hp} {σ : St} {H : Hp} {i : Nat} {l : Addr} {xs : List V} {ds : List PyData} (a : At ρ Hk σ H) (h0 : ∀ x, Owns σ ρ x → x ≠ l) (hk : Hk l = none) (hl : H l = some (.lst xs)) (r : RpA Hk xs ds) : At (ρ.set i (some (.ow false ds))) Hk (σ.set i (some (.ref l))) H := by
  refine ⟨a.kh, by rw [List.length_set, List.length_set]; exact a.len, fun j t h => ?_, fun j k p q es fs b h1 h2 h3 h4 => ?_⟩
  · rcases set_inv h with ⟨e, hi, e2⟩ | ⟨e, h⟩
    · subst e
      cases e2
      exact ⟨.ref l, by rw [List.getElem?_set_self (by rw [a.len]; exact hi)], l, xs, rfl, hk, hl, r⟩
    · obtain ⟨w, h1, h2⟩ := a.en j t h
      exact ⟨w, by rw [List.getElem?_set_ne e]; exact h1, h2⟩
  · rcases set_inv h1 with ⟨e, hi, _⟩ | ⟨e, h1⟩
    · subst e
      rcases set_inv h2 with ⟨e, _, _⟩ | ⟨e, h2⟩
      · exact e
      · rw [List.getElem?_set_self (by rw [a.len]; exact hi)] at h3
        rw [List.getElem?_set_ne e] at h4
        cases h3
        exact absurd rfl (h0 l ⟨k, q, fs, h2, h4⟩)
    · rcases set_inv h2 with ⟨e2, hi, _⟩ | ⟨e2, h2⟩
      · subst e2
        rw [List.getElem?_set_self (by rw [a.len]; exact hi)] at h4
        rw [List.getElem?_set_ne e] at h3
        cases h4
        exact absurd rfl (h0 l ⟨j, p, es, h1, h3⟩)
      · rw [List.getElem?_set_ne e] at h3
        rw [List.getElem?_set_ne e2] at h4
        exact a.inj j k p q es fs b h1 h2 h3 h4

/-! ### statements -/
inductive Oc where
  | nx (ρ : En)
  | rt (d : PyData) (ρ : En)
  | bk (ρ : En)
  | ct (ρ : En)
def Oc.en : Oc → En
  | .nx ρ => ρ
  | .rt _ ρ => ρ
  | .bk ρ => ρ
  | .ct ρ => ρ
/-- from one state to a later one, slots stored meanwhile -/
structure GoS (ρ : En) (Hk : Hp) (σ : St) (H : Hp) (ρ' : En) (Hk' : Hp) (σ' : St) (H' : Hp) : Prop where
  at' : At ρ' Hk' σ' H'
  gr : Gr (Owns σ ρ) Hk H Hk' H'
  own : ∀ a, Owns σ' ρ' a → Owns σ ρ a ∨ H a = none
  pin : ∀ i, Pin ρ i → Pin ρ' i ∧ σ'[i]? = σ[i]?
theorem GoS.refl {ρ : En} {Hk : Hp} {σ : St} {H : Hp} (a : At ρ Hk σ H) : GoS ρ Hk σ H ρ Hk σ H := ⟨a, Gr.refl, fun _ h => .inl h, fun _ h => ⟨h, rfl⟩⟩
theorem GoS.trans {ρ ρ1 ρ2 : En} {Hk Hk1 Hk2 : Hp} {σ σ1 σ2 : St} {H H1 H2 : Hp} (a : GoS ρ Hk σ H ρ1 Hk1 σ1 H1) (b : GoS ρ1 Hk1 σ1 H1 ρ2 Hk2 σ2 H2) : GoS ρ Hk σ H ρ2 Hk2 σ2 H2 := by
  refine ⟨b.at', a.gr.trans b.gr a.own, fun x h => ?_, fun i p => ⟨(b.pin i (a.pin i p).1).1, ((b.pin i (a.pin i p).1).2).trans (a.pin i p).2⟩⟩
  rcases b.own x h with h | h
  · exact a.own x h
  · refine .inr ?_
    cases q : H x with
    | none => rfl
    | some o => exact absurd h (a.gr.live x (by rw [q]; simp))
/-- expressions keep the pins -/
theorem Go.s {ρ : En} {Hk : Hp} {σ : St} {H : Hp} {ρ' : En} {Hk' H' : Hp} (g : Go ρ Hk σ H ρ' Hk' H') : GoS ρ Hk σ H ρ' Hk' σ H' := ⟨g.at', g.gr, fun a h => .inl (g.own a h), fun i p => ⟨g.pin i p, rfl⟩⟩

def Oc.got (D : Ends) : Oc → Hp → St → Hp → Prop
  | .nx _, _, σ', H' => D.nx σ' H'
  | .rt d _, Hk', _, H' => ∀ v, Rp Hk' v d → D.rt v H'
  | .bk _, _, σ', H' => D.bk σ' H'
  | .ct _, _, σ', H' => D.ct σ' H'
/-- from the data ρ the statement comes to o -/
def SD (ts : TS) (ρ : En) (o : Oc) : Prop := ∀ (Hk : Hp) (σ : St) (H : Hp) (D : Ends), At ρ Hk σ H → (∀ Hk' σ' H', GoS ρ Hk σ H o.en Hk' σ' H' → o.got D Hk' σ' H') → ts D σ H

section
variable {ρ ρ1 ρ2 ρ3 ρ' : En} {ta tb te tx : TE} {d e x y z : PyData} {ds es : List PyData} {t u : TS} {o : Oc} {i j : Nat}
def NoOw (ρ : En) (i : Nat) : Prop := ∀ p ds, ρ[i]? ≠ some (some (.ow p ds))
theorem GoS.set {Hk : Hp} {σ : St} {H : Hp} {v : V} {s : Sl} (a : At ρ Hk σ H) (r : SlOk Hk H v s) (n : ∀ p ds, s ≠ .ow p ds) (hp : ¬ Pin ρ i) : GoS ρ Hk σ H (ρ.set i (some s)) Hk (σ.set i (some v)) H := by
  refine ⟨a.set r n, Gr.refl, fun b h => ?_, fun j p => ?_⟩
  · obtain ⟨j, p, es, h1, h2⟩ := h
    rcases set_inv h1 with ⟨_, _, e2⟩ | ⟨e, h1⟩
    · exact absurd (Option.some.inj e2) (n p es)
    · rw [List.getElem?_set_ne e] at h2
      exact .inl ⟨j, p, es, h1, h2⟩
  · have ne : i ≠ j := fun e => hp (e ▸ p)
    obtain ⟨es, h1⟩ := p
    exact ⟨⟨es, by rw [List.getElem?_set_ne ne]; exact h1⟩, List.getElem?_set_ne ne⟩
theorem sd_asg (h : EvD te ρ d ρ1) (hp : ¬ Pin ρ1 i) : SD (tAsg te (gName i)) ρ (.nx (ρ1.set i (some (.kn d)))) := by
  intro Hk σ H D a q
  exact h Hk σ H a _ fun v Hk' H' g r => q Hk' _ H' (g.s.trans (GoS.set g.at' (s := .kn d) r (fun _ _ z => by cases z) hp))
theorem sd_seq (h1 : SD t ρ (.nx ρ1)) (h2 : SD u ρ1 o) : SD (tSeq t u) ρ o := fun Hk σ H D a q =>
  h1 Hk σ H { D with nx := u D } a fun Hk1 σ1 H1 g1 => h2 Hk1 σ1 H1 D g1.at' fun Hk2 σ2 H2 g2 => q Hk2 σ2 H2 (g1.trans g2)
/-- a statement that doesn't come to its end: what follows is not asked -/
theorem sd_seqX (h1 : SD t ρ o) (ho : ∀ r, o ≠ .nx r) : SD (tSeq t u) ρ o := fun Hk σ H D a q =>
  h1 Hk σ H { D with nx := u D } a fun Hk1 σ1 H1 g1 => by
    have q1 := q Hk1 σ1 H1 g1
    cases o with
    | nx r => exact absurd rfl (ho r)
    | rt d r => exact q1
    | bk r => exact q1
    | ct r => exact q1
theorem sd_seqR {r : En} (h1 : SD t ρ (.rt d r)) : SD (tSeq t u) ρ (.rt d r) := sd_seqX h1 fun _ z => by cases z
theorem sd_if {tc : TT} {b : Bool} (h : EvB tc ρ b ρ1) (h1 : b = true → SD t ρ1 o) (h2 : b = false → SD u ρ1 o) : SD (tIfS tc t u) ρ o := fun Hk σ H D a q =>
  h Hk σ H a _ fun Hk' H' g => by
    cases b with
    | true =>
      rw [if_pos rfl]
      exact h1 rfl Hk' σ H' D g.at' fun Hk2 σ2 H2 g2 => q Hk2 σ2 H2 (g.s.trans g2)
    | false =>
      rw [if_neg Bool.false_ne_true]
      exact h2 rfl Hk' σ H' D g.at' fun Hk2 σ2 H2 g2 => q Hk2 σ2 H2 (g.s.trans g2)
theorem sd_T {tc : TT} (h : EvB tc ρ true ρ1) (h1 : SD t ρ1 o) : SD (tIfS tc t u) ρ o := sd_if h (fun _ => h1) fun z => by cases z
theorem sd_F {tc : TT} (h : EvB tc ρ false ρ1) (h1 : SD u ρ1 o) : SD (tIfS tc t u) ρ o := sd_if h (fun z => by cases z) fun _ => h1
theorem sd_nx : SD tNext ρ (.nx ρ) := fun Hk σ H D a q => q Hk σ H (GoS.refl a)
theorem sd_break : SD tBreak ρ (.bk ρ) := fun Hk σ H D a q => q Hk σ H (GoS.refl a)
theorem sd_cont : SD tCont ρ (.ct ρ) := fun Hk σ H D a q => q Hk σ H (GoS.refl a)
theorem sd_ret (h : EvD te ρ d ρ1) : SD (tRet te) ρ (.rt d ρ1) := fun Hk σ H D a q => h Hk σ H a _ fun v Hk' H' g r => q Hk' σ H' g.s v r
theorem sd_drop (h : EvD te ρ d ρ1) : SD (tDrop te) ρ (.nx ρ1) := fun Hk σ H D a q => h Hk σ H a _ fun v Hk' H' g r => q Hk' σ H' g.s
/-- name = a new list, owned -/
theorem sd_asgN (h : EvN te ρ ds ρ1) (hp : ¬ Pin ρ1 i) : SD (tAsg te (gName i)) ρ (.nx (ρ1.set i (some (.ow false ds)))) := fun Hk σ H D a q =>
  h Hk σ H a _ fun l xs Hk' H' g n nk hl r => by
    have notOwned : ∀ x, Owns σ ρ1 x → x ≠ l := fun x hx e => by
      subst e
      obtain ⟨j, p, es, e1, e2⟩ := g.own x hx
      obtain ⟨_, ys, e4⟩ := a.owned ⟨j, p, es, e1, e2⟩
      rw [n] at e4
      cases e4
    refine q Hk' _ H' ⟨g.at'.setN notOwned nk hl r, g.gr, fun b hb => ?_, fun j p => ?_⟩
    · obtain ⟨j, p, es, e1, e2⟩ := hb
      rcases set_inv e1 with ⟨e, hi, e3⟩ | ⟨e, e1⟩
      · subst e
        rw [List.getElem?_set_self (by rw [a.len, ← g.at'.len, ← a.len] at *; have := g.at'.len; omega)] at e2
        cases e2
        exact .inr n
      · rw [List.getElem?_set_ne e] at e2
        exact .inl (g.own b ⟨j, p, es, e1, e2⟩)
    · have p1 := g.pin j p
      have ne : i ≠ j := fun e => hp (e ▸ p1)
      obtain ⟨es, e1⟩ := p1
      exact ⟨⟨es, (List.getElem?_set_ne ne).trans e1⟩, List.getElem?_set_ne ne⟩
/-- the list in slot i is known from now on -/
theorem sd_freeze (h : ρ[i]? = some (some (.ow false ds))) (k : SD t (ρ.set i (some (.kn (.list ds)))) o) : SD t ρ o := fun Hk σ H D a q => by
  obtain ⟨v, h1, l, xs, rfl, hk, hl, r⟩ := a.en i _ h
  have own : Owns σ ρ l := ⟨i, false, ds, h, h1⟩
  have ek : Ex Hk (upd Hk l (.lst xs)) := Ex.new hk
  have hi : i < ρ.length := (List.getElem?_eq_some_iff.mp h).1
  have gr : Gr (Owns σ ρ) Hk H (upd Hk l (.lst xs)) H := ⟨ek, fun _ _ z _ => z, fun _ z => z, fun b o hb mu no hkb => by
    have ne : b ≠ l := fun e => by
      rw [e] at no
      exact no own
    rw [upd_ne ne]
    exact hkb⟩
  have a' : At (ρ.set i (some (.kn (.list ds)))) (upd Hk l (.lst xs)) σ H := by
    refine ⟨a.kh.sub hl, by rw [List.length_set]; exact a.len, fun j s hj => ?_, fun j k p q es fs b e1 e2 e3 e4 => ?_⟩
    · rcases set_inv hj with ⟨e, _, e2⟩ | ⟨e, hj⟩
      · subst e
        cases e2
        exact ⟨.ref l, h1, .lst upd_same (r.ex ek)⟩
      · obtain ⟨w, w1, w2⟩ := a.en j s hj
        refine ⟨w, w1, ?_⟩
        cases s with
        | kn d => exact w2.ex ek
        | ow p es =>
          obtain ⟨l2, ys, rfl, k1, k2, k3⟩ := w2
          have ne : l2 ≠ l := fun z => e (a.inj i j false p ds es l h hj h1 (z ▸ w1))
          exact ⟨l2, ys, rfl, by rw [upd_ne ne]; exact k1, k2, k3.ex ek⟩
        | obj C fs =>
          obtain ⟨p, dx, vs, rfl, k1, k2⟩ := w2
          exact ⟨p, dx, vs, rfl, ek _ _ k1, k2.ex ek⟩
        | objP pp C fs =>
          obtain ⟨dx, vs, rfl, k1, k2⟩ := w2
          exact ⟨dx, vs, rfl, ek _ _ k1, k2.ex ek⟩
        | raw u => exact w2
        | scr K ns =>
          obtain ⟨p, rfl, k1⟩ := w2
          exact ⟨p, rfl, sq_ex ek k1⟩
        | dic ks =>
          obtain ⟨p, rfl, k1⟩ := w2
          exact ⟨p, rfl, ek _ _ k1⟩
    · rcases set_inv e1 with ⟨_, _, z⟩ | ⟨n1, e1⟩
      · cases z
      rcases set_inv e2 with ⟨_, _, z⟩ | ⟨n2, e2⟩
      · cases z
      exact a.inj j k p q es fs b e1 e2 e3 e4
  have own' : ∀ b, Owns σ (ρ.set i (some (.kn (.list ds)))) b → Owns σ ρ b := fun b hb => by
    obtain ⟨j, p, es, e1, e2⟩ := hb
    rcases set_inv e1 with ⟨_, _, z⟩ | ⟨_, e1⟩
    · cases z
    · exact ⟨j, p, es, e1, e2⟩
  refine k _ σ H D a' fun Hk2 σ2 H2 g2 => q Hk2 σ2 H2 ⟨g2.at', gr.trans g2.gr fun b hb => .inl (own' b hb), fun b hb => (g2.own b hb).imp (own' b) fun z => z, fun j p => ?_⟩
  obtain ⟨es, e1⟩ := p
  have ne : i ≠ j := fun e => by
    subst e
    rw [h] at e1
    cases e1
  exact g2.pin j ⟨es, (List.getElem?_set_ne ne).trans e1⟩
end

/-! ### data in which no list stands -/
mutual
def nolst : PyData → Bool
  | .list _ => false
  | .tuple ds => nolstA ds
  | _ => true
def nolstA : List PyData → Bool
  | [] => true
  | d :: ds => nolst d && nolstA ds
end
def del (H : Hp) (l : Addr) : Hp := fun b => if b = l then none else H b
theorem del_ne {H : Hp} {l b : Addr} (h : b ≠ l) : del H l b = H b := if_neg h
theorem del_same {H : Hp} {l : Addr} : del H l l = none := if_pos rfl
mutual
theorem Rp.del {H : Hp} {l : Addr} {xs : List V} (hl : H l = some (.lst xs)) : ∀ {v : V} {d : PyData}, nolst d = true → Rp H v d → Rp (DW.del H l) v d
  | _, _, _, .non => .non
  | _, _, _, .bl b => .bl b
  | _, _, _, .int i => .int i
  | _, _, _, .str x => .str x
  | _, _, n, .lst h r => by simp [nolst] at n
  | _, _, n, .tup (a := a) h r => .tup (by
      rw [del_ne]
      · exact h
      · rintro rfl
        rw [hl] at h
        cases h) (RpA.del hl (by simpa [nolst] using n) r)
theorem RpA.del {H : Hp} {l : Addr} {xs : List V} (hl : H l = some (.lst xs)) : ∀ {vs : List V} {ds : List PyData}, nolstA ds = true → RpA H vs ds → RpA (DW.del H l) vs ds
  | _, _, _, .nil => .nil
  | _, _, n, .cons r t => .cons (Rp.del hl (by simp [nolstA] at n; exact n.1) r) (RpA.del hl (by simp [nolstA] at n; exact n.2) t)
end
section
variable {ρ ρ1 ρ2 ρ3 ρ' : En} {ta tb te tx : TE} {d e x y z : PyData} {ds es : List PyData} {t u : TS} {o : Oc} {i j : Nat} {p : Bool}
/-- the state with the owned list in slot i taken as known -/
theorem At.froz {Hk : Hp} {σ : St} {H : Hp} {l : Addr} {xs : List V} (a : At ρ Hk σ H) (h : ρ[i]? = some (some (.ow p ds))) (h1 : σ[i]? = some (some (.ref l))) (hk : Hk l = none) (hl : H l = some (.lst xs)) (r : RpA Hk xs ds) :
    At (ρ.set i (some (.kn (.list ds)))) (upd Hk l (.lst xs)) σ H := by
  have ek : Ex Hk (upd Hk l (.lst xs)) := Ex.new hk
  refine ⟨a.kh.sub hl, by rw [List.length_set]; exact a.len, fun j s hj => ?_, fun j k p q es fs b e1 e2 e3 e4 => ?_⟩
  · rcases set_inv hj with ⟨e, _, e2⟩ | ⟨e, hj⟩
    · subst e
      cases e2
      exact ⟨.ref l, h1, .lst upd_same (r.ex ek)⟩
    · obtain ⟨w, w1, w2⟩ := a.en j s hj
      refine ⟨w, w1, ?_⟩
      cases s with
      | kn d => exact w2.ex ek
      | ow q es =>
        obtain ⟨l2, ys, rfl, k1, k2, k3⟩ := w2
        have ne : l2 ≠ l := fun z => e (a.inj i j p q ds es l h hj h1 (z ▸ w1))
        exact ⟨l2, ys, rfl, by rw [upd_ne ne]; exact k1, k2, k3.ex ek⟩
      | obj C fs =>
        obtain ⟨p, dx, vs, rfl, k1, k2⟩ := w2
        exact ⟨p, dx, vs, rfl, ek _ _ k1, k2.ex ek⟩
      | objP pp C fs =>
        obtain ⟨dx, vs, rfl, k1, k2⟩ := w2
        exact ⟨dx, vs, rfl, ek _ _ k1, k2.ex ek⟩
      | raw u => exact w2
      | scr K ns =>
        obtain ⟨p, rfl, k1⟩ := w2
        exact ⟨p, rfl, sq_ex ek k1⟩
      | dic ks =>
        obtain ⟨p, rfl, k1⟩ := w2
        exact ⟨p, rfl, ek _ _ k1⟩
  · rcases set_inv e1 with ⟨_, _, z⟩ | ⟨n1, e1⟩
    · cases z
    rcases set_inv e2 with ⟨_, _, z⟩ | ⟨n2, e2⟩
    · cases z
    exact a.inj j k _ _ es fs b e1 e2 e3 e4
/-- .. and given back -/
theorem Go.thaw {Hk Hk' : Hp} {σ : St} {H H' : Hp} {l : Addr} {xs : List V} (a : At ρ Hk σ H) (h : ρ[i]? = some (some (.ow p ds))) (h1 : σ[i]? = some (some (.ref l))) (hk : Hk l = none) (hl : H l = some (.lst xs)) (r : RpA Hk xs ds)
    (hn : ∀ (j : Nat) (q : Bool) (es : List PyData), ρ[j]? = some (some (.ow q es)) → nolstA es = true)
    (g : Go (ρ.set i (some (.kn (.list ds)))) (upd Hk l (.lst xs)) σ H (ρ.set i (some (.kn (.list ds)))) Hk' H') : Go ρ Hk σ H ρ (DW.del Hk' l) H' ∧ Hk' l = some (.lst xs) := by
  have hk'l : Hk' l = some (.lst xs) := g.gr.kk _ _ upd_same
  have own' : ∀ b, Owns σ (ρ.set i (some (.kn (.list ds)))) b → Owns σ ρ b ∧ b ≠ l := fun b hb => by
    obtain ⟨j, p', es, e1, e2⟩ := hb
    rcases set_inv e1 with ⟨_, _, z⟩ | ⟨n, e1⟩
    · cases z
    · exact ⟨⟨j, p', es, e1, e2⟩, fun z => n (a.inj i j p p' ds es l h e1 h1 (z ▸ e2))⟩
  have ownl : Owns σ ρ l := ⟨i, p, ds, h, h1⟩
  have kk : Ex Hk (DW.del Hk' l) := fun b o hb => by
    have ne : b ≠ l := ne_of_none hb hk
    rw [del_ne ne]
    exact g.gr.kk b o (by rw [upd_ne ne]; exact hb)
  have gr : Gr (Owns σ ρ) Hk H (DW.del Hk' l) H' := ⟨kk, fun b o hb no => g.gr.keep b o hb fun z => no (own' b z).1, g.gr.live, fun b o hb mu no hkb => by
    have ne : b ≠ l := fun z => no (z ▸ ownl)
    rw [del_ne ne]
    exact g.gr.old b o hb mu (fun z => no (own' b z).1) (by rw [upd_ne ne]; exact hkb)⟩
  refine ⟨⟨⟨fun b o hb => ?_, a.len, fun j s hj => ?_, a.inj⟩, gr, fun b hb => hb, fun _ hb => hb⟩, hk'l⟩
  · have ne : b ≠ l := fun z => by
      rw [z, del_same] at hb
      cases hb
    rw [del_ne ne] at hb
    exact g.at'.kh b o hb
  · by_cases e : i = j
    · subst e
      rw [h] at hj
      cases hj
      have hl' : H' l = some (.lst xs) := g.at'.kh _ _ hk'l
      exact ⟨.ref l, h1, l, xs, rfl, del_same, hl', r.ex kk⟩
    · have ne := List.getElem?_set_ne (l := ρ) (a := some (Sl.kn (.list ds))) e
      obtain ⟨w, w1, w2⟩ := a.en j s hj
      refine ⟨w, w1, ?_⟩
      cases s with
      | kn d => exact w2.ex kk
      | ow q es =>
        obtain ⟨w', w1', w2'⟩ := g.at'.en j _ (ne.trans hj)
        rw [w1] at w1'
        cases w1'
        obtain ⟨l2, ys, rfl, k1, k2, k3⟩ := w2
        obtain ⟨l3, zs, e3, m1, m2, m3⟩ := w2'
        cases e3
        have n2 : l2 ≠ l := fun z => e (a.inj i j p q ds es l h hj h1 (z ▸ w1))
        exact ⟨l2, zs, rfl, by rw [del_ne n2]; exact m1, m2, RpA.del hk'l (hn j q es hj) m3⟩
      | obj C fs =>
        obtain ⟨p, dx, vs, rfl, k1, k2⟩ := w2
        exact ⟨p, dx, vs, rfl, kk _ _ k1, k2.ex kk⟩
      | objP pp C fs =>
        obtain ⟨dx, vs, rfl, k1, k2⟩ := w2
        exact ⟨dx, vs, rfl, kk _ _ k1, k2.ex kk⟩
      | raw u => exact w2
      | scr K ns =>
        obtain ⟨p, rfl, k1⟩ := w2
        exact ⟨p, rfl, sq_ex kk k1⟩
      | dic ks =>
        obtain ⟨p, rfl, k1⟩ := w2
        exact ⟨p, rfl, kk _ _ k1⟩
abbrev NoL (ρ : En) : Prop := ∀ (j : Nat) (q : Bool) (es : List PyData), ρ[j]? = some (some (.ow q es)) → nolstA es = true
theorem ed_thaw (h : ρ[i]? = some (some (.ow p ds))) (hn : NoL ρ) (k : EvD te (ρ.set i (some (.kn (.list ds)))) d (ρ.set i (some (.kn (.list ds))))) (hd : nolst d = true) : EvD te ρ d ρ := fun Hk σ H a Q q => by
  obtain ⟨v, h1, l, xs, rfl, hk, hl, r⟩ := a.en i _ h
  refine k _ σ H (a.froz h h1 hk hl r) Q fun v Hk' H' g rv => ?_
  obtain ⟨g2, hkl⟩ := Go.thaw a h h1 hk hl r hn g
  exact q v _ H' g2 (Rp.del hkl hd rv)
theorem en_thaw (h : ρ[i]? = some (some (.ow p ds))) (hn : NoL ρ) (k : EvN te (ρ.set i (some (.kn (.list ds)))) es (ρ.set i (some (.kn (.list ds))))) (hd : nolstA es = true) : EvN te ρ es ρ := fun Hk σ H a Q q => by
  obtain ⟨v, h1, l, xs, rfl, hk, hl, r⟩ := a.en i _ h
  refine k _ σ H (a.froz h h1 hk hl r) Q fun l2 ys Hk' H' g n nk hl2 rv => ?_
  obtain ⟨g2, hkl⟩ := Go.thaw a h h1 hk hl r hn g
  refine q l2 ys _ H' g2 n ?_ hl2 (RpA.del hkl hd rv)
  have ne : l2 ≠ l := fun z => by
    rw [z, hkl] at nk
    cases nk
  rw [del_ne ne]
  exact nk
/-- a new list, known -/
theorem EvN.kn (h : EvN te ρ ds ρ1) : EvD te ρ (.list ds) ρ1 := fun Hk σ H a Q q =>
  h Hk σ H a Q fun l xs Hk' H' g n nk hl r => by
    have e2 : Ex Hk' (upd Hk' l (.lst xs)) := Ex.new nk
    have notOwned : ¬ Owns σ ρ1 l := fun hx => by
      obtain ⟨_, ys, e4⟩ := a.owned (g.own l hx)
      rw [n] at e4
      cases e4
    refine q (.ref l) (upd Hk' l (.lst xs)) H' ⟨⟨g.at'.kh.sub hl, g.at'.len, fun j s hj => ?_, g.at'.inj⟩, ⟨g.gr.kk.trans e2, g.gr.keep, g.gr.live, fun b o hb mu no hk => ?_⟩, g.own, g.pin⟩ (.lst upd_same (r.ex e2))
    · obtain ⟨w, w1, w2⟩ := g.at'.en j s hj
      refine ⟨w, w1, ?_⟩
      cases s with
      | kn d => exact w2.ex e2
      | ow p es =>
        obtain ⟨l2, ys, rfl, k1, k2, k3⟩ := w2
        have ne : l2 ≠ l := fun z => notOwned ⟨j, p, es, hj, z ▸ w1⟩
        exact ⟨l2, ys, rfl, by rw [upd_ne ne]; exact k1, k2, k3.ex e2⟩
      | obj C fs =>
        obtain ⟨p, dx, vs, rfl, k1, k2⟩ := w2
        exact ⟨p, dx, vs, rfl, e2 _ _ k1, k2.ex e2⟩
      | objP pp C fs =>
        obtain ⟨dx, vs, rfl, k1, k2⟩ := w2
        exact ⟨dx, vs, rfl, e2 _ _ k1, k2.ex e2⟩
      | raw u => exact w2
      | scr K ns =>
        obtain ⟨p, rfl, k1⟩ := w2
        exact ⟨p, rfl, sq_ex e2 k1⟩
      | dic ks =>
        obtain ⟨p, rfl, k1⟩ := w2
        exact ⟨p, rfl, e2 _ _ k1⟩
    · rw [upd_ne (ne_of_none hb n)]
      exact g.gr.old b o hb mu no hk

/-! ### what is walked -/
/-- J gives ds, one after another, where Hk is known -/
structure WkD (J : It) (ds : List PyData) (Hk : Hp) : Prop where
  goes : ∀ i H, Ex Hk H → i < ds.length → J.go i H
  stops : ∀ H, Ex Hk H → J.stop ds.length H
  yields : ∀ i H x H' Hk1, Ex Hk Hk1 → Ex Hk1 H → i < ds.length → J.yld i H x H' → ∃ d Hk2, ds[i]? = some d ∧ Gr (fun _ => False) Hk1 H Hk2 H' ∧ Ex Hk2 H' ∧ Rp Hk2 x d
def EvI (wi : TI) (ρ : En) (ds : List PyData) (ρ' : En) : Prop := ∀ (Hk : Hp) (σ : St) (H : Hp), At ρ Hk σ H → ∀ R : It → Hp → Prop, (∀ J Hk' H', Go ρ Hk σ H ρ' Hk' H' → WkD J ds Hk' → R J H') → wi σ H R
theorem wk_seq {J : It} {xs : List V} {Hk : Hp} (r : RpA Hk xs ds) (hg : ∀ i H, Ex Hk H → i < xs.length → J.go i H) (hs : ∀ H, Ex Hk H → J.stop xs.length H) (hy : ∀ i H x H', Ex Hk H → J.yld i H x H' → H' = H ∧ xs[i]? = some x) : WkD J ds Hk := by
  have el := r.length
  refine ⟨fun i H e hi => hg i H e (by omega), fun H e => el ▸ hs H e, fun i H x H' Hk1 e1 e2 hi y => ?_⟩
  obtain ⟨rfl, hx⟩ := hy i H x H' (e1.trans e2) y
  obtain ⟨d, hd, rd⟩ := r.getV hx
  exact ⟨d, Hk1, hd, Gr.refl, e2, rd.ex e1⟩
theorem ei_list {K : PySem.W.Frag} (h : EvD te ρ (.list ds) ρ1) : EvI (iList K te) ρ ds ρ1 := fun Hk σ H a R q => h Hk σ H a _ fun v Hk' H' g r => by
  cases r with
  | @lst p xs _ hp r =>
    have sq : ∀ {H : Hp}, Ex Hk' H → SqL K H p xs := fun e => .of (e _ _ hp)
    exact ⟨p, rfl, ⟨xs, sq g.at'.kh⟩, q _ Hk' H' g (wk_seq r (fun i H e hi => ⟨xs, xs[i], sq e, by simp [hi]⟩) (fun H e => ⟨xs, sq e, Nat.le_refl _⟩) fun i H x H' e y => ⟨y.1, y.2 xs (sq e)⟩)⟩
theorem ei_tup {K : PySem.W.Frag} (h : EvD te ρ (.tuple ds) ρ1) : EvI (iTup K te) ρ ds ρ1 := fun Hk σ H a R q => h Hk σ H a _ fun v Hk' H' g r => by
  cases r with
  | @tup p xs _ hp r =>
    have sq : ∀ {H : Hp}, Ex Hk' H → SqT K H p xs := fun e => .of (e _ _ hp)
    exact ⟨p, rfl, ⟨xs, sq g.at'.kh⟩, q _ Hk' H' g (wk_seq r (fun i H e hi => ⟨xs, xs[i], sq e, by simp [hi]⟩) (fun H e => ⟨xs, sq e, Nat.le_refl _⟩) fun i H x H' e y => ⟨y.1, y.2 xs (sq e)⟩)⟩
def rng (n : Int) : List PyData := (List.range n.toNat).map fun i => .int (i : Nat)
theorem rng_len (n : Int) : (rng n).length = n.toNat := by simp [rng]
theorem ei_range {n : Int} (h : EvD te ρ (.int n) ρ1) (h1 : -(2 ^ 62) ≤ n) (h2 : n < 2 ^ 62) : EvI (iRng1 (tCons te tNil)) ρ (rng n) ρ1 := fun Hk σ H a R q => h Hk σ H a _ fun v Hk' H' g r => by
  cases r
  refine ⟨n, rfl, h1, h2, q _ Hk' H' g ⟨fun i H e hi => ?_, fun H e => ?_, fun i H x H' Hk1 e1 e2 hi y => ?_⟩⟩
  · show i < n.toNat
    have := rng_len n
    omega
  · show n.toNat ≤ (rng n).length
    rw [rng_len]
    exact Nat.le_refl _
  · obtain ⟨rfl, rfl⟩ := y
    have hi' : i < n.toNat := by
      have := rng_len n
      omega
    refine ⟨.int ((i : Nat) : Int), Hk1, by simp [rng, hi'], Gr.refl, e2, ?_⟩
    rw [Int.zero_add]
    exact .int _
end

/-! ### targets -/
def Agr (σ σ2 : St) (js : List Nat) : Prop := σ2.length = σ.length ∧ ∀ i, i ∉ js → σ2[i]? = σ[i]?
def TgD (g : TG) (d : PyData) (ρ ρa : En) (js : List Nat) : Prop := ∀ (Hk : Hp) (σ : St) (H : Hp) (v : V) (Q : St → Hp → Prop), At ρ Hk σ H → Rp Hk v d → (∀ σ2, GoS ρ Hk σ H ρa Hk σ2 H → (∀ a, Owns σ2 ρa a → Owns σ ρ a) → Agr σ σ2 js → Q σ2 H) → g v σ H Q
theorem own_set {ρ : En} {σ : St} {i : Nat} {v : V} {s : Sl} (n : ∀ p ds, s ≠ .ow p ds) (b : Addr) (h : Owns (σ.set i (some v)) (ρ.set i (some s)) b) : Owns σ ρ b := by
  obtain ⟨j, p, es, h1, h2⟩ := h
  rcases set_inv h1 with ⟨_, _, e2⟩ | ⟨e, h1⟩
  · exact absurd (Option.some.inj e2) (n p es)
  · rw [List.getElem?_set_ne e] at h2
    exact ⟨j, p, es, h1, h2⟩
theorem tg_name {ρ : En} {d : PyData} {j : Nat} (hp : ¬ Pin ρ j) : TgD (gName j) d ρ (ρ.set j (some (.kn d))) [j] := fun Hk σ H v Q a r q =>
  q _ (GoS.set a (s := .kn d) r (fun _ _ z => by cases z) hp) (own_set fun _ _ z => by cases z) ⟨List.length_set .., fun i hi => List.getElem?_set_ne fun e => hi (by simp [e])⟩
theorem tg_two {K : PySem.W.Frag} {ρ : En} {d e : PyData} {j k : Nat} (hp : ¬ Pin ρ j) (hp2 : ¬ Pin (ρ.set j (some (.kn d))) k) : TgD (gTup K 2 (gCons (gName j) (gCons (gName k) gNil))) (.tuple [d, e]) ρ ((ρ.set j (some (.kn d))).set k (some (.kn e))) [j, k] := fun Hk σ H v Q a r q => by
  cases r with
  | @tup p xs _ h1 r =>
    cases r with
    | cons r1 r =>
      cases r with
      | cons r2 r =>
        cases r
        have g1 := GoS.set a (i := j) (s := .kn d) r1 (fun _ _ z => by cases z) hp
        have g2 := GoS.set g1.at' (i := k) (s := .kn e) r2 (fun _ _ z => by cases z) hp2
        refine ⟨p, _, rfl, .of (a.kh _ _ h1), rfl, _, _, rfl, _, _, rfl, rfl, q _ (g1.trans g2) (fun b hb => own_set (s := .kn d) (fun _ _ z => by cases z) b (own_set (s := .kn e) (fun _ _ z => by cases z) b hb)) ⟨by simp, fun i hi => ?_⟩⟩
        simp only [List.mem_cons, List.not_mem_nil, or_false, not_or] at hi
        rw [List.getElem?_set_ne (Ne.symm hi.2), List.getElem?_set_ne (Ne.symm hi.1)]
theorem tg_three {K : PySem.W.Frag} {ρ : En} {d e f : PyData} {j k m : Nat} (hp : ¬ Pin ρ j) (hp2 : ¬ Pin (ρ.set j (some (.kn d))) k) (hp3 : ¬ Pin ((ρ.set j (some (.kn d))).set k (some (.kn e))) m) : TgD (gTup K 3 (gCons (gName j) (gCons (gName k) (gCons (gName m) gNil)))) (.tuple [d, e, f]) ρ (((ρ.set j (some (.kn d))).set k (some (.kn e))).set m (some (.kn f))) [j, k, m] := fun Hk σ H v Q a r q => by
  cases r with
  | @tup p xs _ h1 r =>
    cases r with
    | cons r1 r =>
      cases r with
      | cons r2 r =>
        cases r with
        | cons r3 r =>
          cases r
          have g1 := GoS.set a (i := j) (s := .kn d) r1 (fun _ _ z => by cases z) hp
          have g2 := GoS.set g1.at' (i := k) (s := .kn e) r2 (fun _ _ z => by cases z) hp2
          have g3 := GoS.set g2.at' (i := m) (s := .kn f) r3 (fun _ _ z => by cases z) hp3
          refine ⟨p, _, rfl, .of (a.kh _ _ h1), rfl, _, _, rfl, _, _, rfl, _, _, rfl, rfl, q _ ((g1.trans g2).trans g3) (fun b hb => own_set (s := .kn d) (fun _ _ z => by cases z) b (own_set (s := .kn e) (fun _ _ z => by cases z) b (own_set (s := .kn f) (fun _ _ z => by cases z) b hb))) ⟨by simp, fun i hi => ?_⟩⟩
          simp only [List.mem_cons, List.not_mem_nil, or_false, not_or] at hi
          rw [List.getElem?_set_ne (Ne.symm hi.2.2), List.getElem?_set_ne (Ne.symm hi.2.1), List.getElem?_set_ne (Ne.symm hi.1)]

/-! ### for -/
inductive LoopD (g : TG) (tb : TS) : List PyData → En → Oc → Prop
  | nil {ρ : En} : LoopD g tb [] ρ (.nx ρ)
  | next {d : PyData} {ds : List PyData} {ρ ρa ρ1 : En} {o : Oc} {js : List Nat} : TgD g d ρ ρa js → SD tb ρa (.nx ρ1) → LoopD g tb ds ρ1 o → LoopD g tb (d :: ds) ρ o
  | cont {d : PyData} {ds : List PyData} {ρ ρa ρ1 : En} {o : Oc} {js : List Nat} : TgD g d ρ ρa js → SD tb ρa (.ct ρ1) → LoopD g tb ds ρ1 o → LoopD g tb (d :: ds) ρ o
  | brk {d : PyData} {ds : List PyData} {ρ ρa ρ1 : En} {js : List Nat} : TgD g d ρ ρa js → SD tb ρa (.bk ρ1) → LoopD g tb (d :: ds) ρ (.nx ρ1)
  | ret {d r : PyData} {ds : List PyData} {ρ ρa ρ1 : En} {js : List Nat} : TgD g d ρ ρa js → SD tb ρa (.rt r ρ1) → LoopD g tb (d :: ds) ρ (.rt r ρ1)
theorem sd_for {wi : TI} {g : TG} {tb : TS} {ρ ρ1 : En} {ds : List PyData} {o : Oc} (hi : EvI wi ρ ds ρ1) (hl : LoopD g tb ds ρ1 o) (ho : ∀ r, o ≠ .bk r ∧ o ≠ .ct r) : SD (tFor wi g tb) ρ o := fun Hk σ H D a q =>
  hi Hk σ H a _ fun J Hk1 H1 g1 w => by
    -- the loop's word
    refine ⟨fun i m σ' H' => m = ds.length - i ∧ i ≤ ds.length ∧ ∃ ρ' Hk', LoopD g tb (ds.drop i) ρ' o ∧ GoS ρ1 Hk1 σ H1 ρ' Hk' σ' H', ⟨ds.length, rfl, Nat.zero_le _, ρ1, Hk1, hl, GoS.refl g1.at'⟩, ?_⟩
    rintro i m σ' H' ⟨rfl, hi, ρ', Hk', L, gs⟩
    have e1 : Ex Hk1 Hk' := gs.gr.kk
    by_cases hlt : i < ds.length
    · have hd : ds.drop i = ds[i] :: ds.drop (i + 1) := List.drop_eq_getElem_cons hlt
      rw [hd] at L
      refine .inr ⟨w.goes i H' (e1.trans gs.at'.kh) hlt, fun σ2 H2 => ∃ ρ2 Hk2, LoopD g tb (ds.drop (i + 1)) ρ2 o ∧ GoS ρ1 Hk1 σ H1 ρ2 Hk2 σ2 H2, fun σ2 H2 ⟨ρ2, Hk2, L2, g2⟩ => ⟨ds.length - (i + 1), by omega, rfl, hlt, ρ2, Hk2, L2, g2⟩, fun x H2 y => ?_⟩
      obtain ⟨d, Hk2, hdi, gr2, e2, rx⟩ := w.yields i H' x H2 Hk' e1 gs.at'.kh hlt y
      have ed : d = ds[i] := by
        rw [List.getElem?_eq_getElem hlt] at hdi
        exact (Option.some.inj hdi).symm
      have gs2 := gs.trans (gs.at'.go gr2 e2).s
      have fin : ∀ {ρ3 : En} {Hk3 : Hp} {σ3 : St} {H3 : Hp}, GoS ρ1 Hk1 σ H1 ρ3 Hk3 σ3 H3 → o.en = ρ3 → o.got D Hk3 σ3 H3 := fun {ρ3 Hk3 σ3 H3} g3 e => q Hk3 σ3 H3 (by rw [e]; exact g1.s.trans g3)
      cases L with
      | next ht hb hr =>
        refine ht Hk2 σ' H2 x _ gs2.at' (ed ▸ rx) fun σ3 g3 _ _ => ?_
        exact hb Hk2 σ3 H2 _ g3.at' fun Hk4 σ4 H4 g4 => ⟨_, Hk4, hr, (gs2.trans g3).trans g4⟩
      | cont ht hb hr =>
        refine ht Hk2 σ' H2 x _ gs2.at' (ed ▸ rx) fun σ3 g3 _ _ => ?_
        exact hb Hk2 σ3 H2 _ g3.at' fun Hk4 σ4 H4 g4 => ⟨_, Hk4, hr, (gs2.trans g3).trans g4⟩
      | brk ht hb =>
        refine ht Hk2 σ' H2 x _ gs2.at' (ed ▸ rx) fun σ3 g3 _ _ => ?_
        exact hb Hk2 σ3 H2 _ g3.at' fun Hk4 σ4 H4 g4 => fin ((gs2.trans g3).trans g4) rfl
      | ret ht hb =>
        refine ht Hk2 σ' H2 x _ gs2.at' (ed ▸ rx) fun σ3 g3 _ _ => ?_
        exact hb Hk2 σ3 H2 _ g3.at' fun Hk4 σ4 H4 g4 => fin ((gs2.trans g3).trans g4) rfl
    · have e : i = ds.length := by omega
      subst e
      rw [List.drop_length] at L
      cases L
      exact .inl ⟨w.stops H' (e1.trans gs.at'.kh), q _ _ _ (g1.s.trans gs)⟩
end DW

set_option maxRecDepth 100000
set_option maxHeartbeats 1000000
namespace DW
open PySem L2

/-! ### comprehensions -/
def wipeE (ρ : En) : List Nat → En
  | [] => ρ
  | v :: vs => (wipeE ρ vs).set v none
theorem At.wipe {ρ : En} {Hk : Hp} {σ : St} {H : Hp} (a : At ρ Hk σ H) : ∀ vs : List Nat, At (wipeE ρ vs) Hk (wipe σ vs) H
  | [] => a
  | v :: vs => by
    unfold wipeE L2.wipe
    exact (At.wipe a vs).forget
theorem wipe_get (σ : St) : ∀ (vs : List Nat) (i : Nat), i < σ.length → (L2.wipe σ vs)[i]? = if i ∈ vs then some none else σ[i]?
  | [], i, _ => by simp [L2.wipe]
  | v :: vs, i, hi => by
    unfold L2.wipe
    by_cases e : v = i
    · subst e
      rw [List.getElem?_set_self (by rw [wipe_length]; exact hi), if_pos (by simp)]
    · rw [List.getElem?_set_ne e, wipe_get σ vs i hi]
      by_cases hm : i ∈ vs
      · rw [if_pos hm, if_pos (by simp [hm])]
      · rw [if_neg hm, if_neg (by simp [hm]; exact fun z => e z.symm)]
theorem wipeE_get (ρ : En) : ∀ (vs : List Nat) (i : Nat), i < ρ.length → (wipeE ρ vs)[i]? = if i ∈ vs then some none else ρ[i]?
  | [], i, _ => by simp [wipeE]
  | v :: vs, i, hi => by
    unfold wipeE
    have hl : ∀ vs : List Nat, (wipeE ρ vs).length = ρ.length := fun vs => by
      induction vs with
      | nil => rfl
      | cons v vs ih => unfold wipeE; rw [List.length_set, ih]
    by_cases e : v = i
    · subst e
      rw [List.getElem?_set_self (by rw [hl]; exact hi), if_pos (by simp)]
    · rw [List.getElem?_set_ne e, wipeE_get ρ vs i hi]
      by_cases hm : i ∈ vs
      · rw [if_pos hm, if_pos (by simp [hm])]
      · rw [if_neg hm, if_neg (by simp [hm]; exact fun z => e z.symm)]
theorem wipe_agr {σ σ2 : St} {js vs : List Nat} (h : Agr (L2.wipe σ vs) σ2 js) (hs : ∀ j ∈ js, j ∈ vs) : L2.wipe σ2 vs = L2.wipe σ vs := by
  obtain ⟨h1, h2⟩ := h
  rw [wipe_length] at h1
  refine List.ext_getElem? fun i => ?_
  by_cases hi : i < σ.length
  · rw [wipe_get σ2 vs i (by omega), wipe_get σ vs i hi]
    by_cases hm : i ∈ vs
    · rw [if_pos hm, if_pos hm]
    · rw [if_neg hm, if_neg hm, h2 i fun z => hm (hs i z), wipe_get σ vs i hi, if_neg hm]
  · rw [List.getElem?_eq_none (by rw [wipe_length]; omega), List.getElem?_eq_none (by rw [wipe_length]; omega)]
/-- the turns of a comprehension over ds from the data ρ (the comprehension's own slots wiped): out is made, ρ' is left -/
inductive LcD (g : TG) (tt : TT) (te : TE) (vs : List Nat) : List PyData → En → List PyData → En → Prop
  | nil {ρ : En} : LcD g tt te vs [] ρ [] ρ
  | no {d : PyData} {ds out : List PyData} {ρ ρa ρb ρ1 ρ2 : En} {js : List Nat} : TgD g d ρ ρa js → (∀ j ∈ js, j ∈ vs) → EvB tt ρa false ρb → ρ1 = wipeE ρb vs → LcD g tt te vs ds ρ1 out ρ2 → LcD g tt te vs (d :: ds) ρ out ρ2
  | yes {d y : PyData} {ds out : List PyData} {ρ ρa ρb ρc ρ1 ρ2 : En} {js : List Nat} : TgD g d ρ ρa js → (∀ j ∈ js, j ∈ vs) → EvB tt ρa true ρb → EvD te ρb y ρc → ρ1 = wipeE ρc vs → LcD g tt te vs ds ρ1 out ρ2 → LcD g tt te vs (d :: ds) ρ (y :: out) ρ2
/-- what is left of the comprehension's slots -/
def Back (ρ1 ρ2 : En) (vs : List Nat) (ρ' : En) : Prop := ρ'.length = ρ2.length ∧ (∀ i, i ∉ vs → ρ'[i]? = ρ2[i]?) ∧ (∀ i, i ∈ vs → ρ'[i]? = ρ1[i]? ∧ (∀ p ds, ρ1[i]? ≠ some (some (.ow p ds))))
theorem LcD.len {g : TG} {tt : TT} {te : TE} {vs : List Nat} {ds out : List PyData} {ρ ρ' : En} (h : LcD g tt te vs ds ρ out ρ') : out.length ≤ ds.length := by
  induction h with
  | nil => exact Nat.le_refl _
  | no _ _ _ _ _ ih => simp only [List.length_cons]; omega
  | yes _ _ _ _ _ _ ih => simp only [List.length_cons]; omega
/-- a list comprehension: its list is new. The slots at vs hold what they held -/
theorem en_lc {wi : TI} {g : TG} {tt : TT} {te : TE} {vs : List Nat} {ρ ρ1 ρ2 ρ' : En} {ds out : List PyData} (hi : EvI wi ρ ds ρ1) (hl : LcD g tt te vs ds (wipeE ρ1 vs) out ρ2) (hb : Back ρ1 ρ2 vs ρ') (hz : ds.length < sizeLine) : EvN (tLc wi g tt te vs) ρ out ρ' := fun Hk σ H a Q q =>
  hi Hk σ H a _ fun J Hk1 H1 g1 w => fun D hD => by
    have a1 := g1.at'
    have hDk : Hk1 D = none := a1.kh.none hD
    -- the turn's state: known heap Hk', the list at D apart
    have aw := At.wipe a1 vs
    have ownW : ∀ b, Owns (wipe σ vs) (wipeE ρ1 vs) b → Owns σ ρ1 b := fun b hb => by
      obtain ⟨j, p, es, e1, e2⟩ := hb
      have hj : j < σ.length := by
        have h0 := (List.getElem?_eq_some_iff.mp e2).1
        rw [wipe_length] at h0
        exact h0
      rw [wipe_get σ vs j hj] at e2
      rw [wipeE_get ρ1 vs j (by rw [← a1.len]; exact hj)] at e1
      by_cases hm : j ∈ vs
      · rw [if_pos hm] at e2
        cases e2
      · rw [if_neg hm] at e1 e2
        exact ⟨j, p, es, e1, e2⟩
    have nD : ∀ {σz : St} {ρz : En}, (∀ b, Owns σz ρz b → Owns (wipe σ vs) (wipeE ρ1 vs) b) → ¬ Owns σz ρz D := fun {σz ρz} so hO => by
      obtain ⟨_, ys, e⟩ := a1.owned (ownW D (so D hO))
      rw [hD] at e
      cases e
    let St1 : List PyData → En → Hp → Hp → Prop := fun done ρt Hk' H' => ∃ xs, GoS (wipeE ρ1 vs) Hk1 (wipe σ vs) H1 ρt Hk' (wipe σ vs) H' ∧ (∀ b, Owns (wipe σ vs) ρt b → Owns (wipe σ vs) (wipeE ρ1 vs) b) ∧ H' D = some (.lst xs) ∧ Hk' D = none ∧ RpA Hk' xs done
    refine ⟨fun i m H' => m = ds.length - i ∧ i ≤ ds.length ∧ ∃ done rest ρt Hk', done ++ rest = out ∧ done.length ≤ i ∧ LcD g tt te vs (ds.drop i) ρt rest ρ2 ∧ St1 done ρt Hk' H', ⟨ds.length, rfl, Nat.zero_le _, [], out, wipeE ρ1 vs, Hk1, rfl, Nat.zero_le _, hl, [], (aw.newH hD).s, fun _ z => z, upd_same, hDk, .nil⟩, ?_⟩
    rintro i m H' ⟨rfl, hi, done, rest, ρt, Hk', eo, hdl, L, xs, gs, so, hx, hkD, rx⟩
    have e1 : Ex Hk1 Hk' := gs.gr.kk
    by_cases hlt : i < ds.length
    · have hd : ds.drop i = ds[i] :: ds.drop (i + 1) := List.drop_eq_getElem_cons hlt
      rw [hd] at L
      refine .inr ⟨w.goes i H' (e1.trans gs.at'.kh) hlt, fun H2 => i + 1 ≤ ds.length ∧ ∃ done rest ρt Hk', done ++ rest = out ∧ done.length ≤ i + 1 ∧ LcD g tt te vs (ds.drop (i + 1)) ρt rest ρ2 ∧ St1 done ρt Hk' H2, fun H2 ⟨h1, h2⟩ => ⟨ds.length - (i + 1), by omega, rfl, h1, h2⟩, fun x H2 y => ?_⟩
      obtain ⟨d, Hk2, hdi, gr2, e2, rx2⟩ := w.yields i H' x H2 Hk' e1 gs.at'.kh hlt y
      have ed : d = ds[i] := by
        rw [List.getElem?_eq_getElem hlt] at hdi
        exact (Option.some.inj hdi).symm
      have gs2 := gs.trans (gs.at'.go gr2 e2).s
      have hx2 : H2 D = some (.lst xs) := gr2.keep D _ hx fun z => z
      have hkD2 : Hk2 D = none := gr2.old D _ hx True.intro (fun z => z) hkD
      have rx3 : RpA Hk2 xs done := rx.ex gr2.kk
      -- from the end of a turn to the next
      have back : ∀ {ρz : En} {Hkz : Hp} {σz : St} {Hz : Hp}, GoS (wipeE ρ1 vs) Hk1 (wipe σ vs) H1 ρz Hkz σz Hz → (∀ b, Owns σz ρz b → Owns (wipe σ vs) (wipeE ρ1 vs) b) → wipe σz vs = wipe σ vs → GoS (wipeE ρ1 vs) Hk1 (wipe σ vs) H1 (wipeE ρz vs) Hkz (wipe σ vs) Hz ∧ ∀ b, Owns (wipe σ vs) (wipeE ρz vs) b → Owns (wipe σ vs) (wipeE ρ1 vs) b := fun {ρz Hkz σz Hz} g3 so3 ew => by
        have a3 := g3.at'.wipe vs
        rw [ew] at a3
        have hlen : (wipe σ vs).length = σz.length := by rw [← ew, wipe_length]
        have own3 : ∀ b, Owns (wipe σ vs) (wipeE ρz vs) b → Owns σz ρz b := fun b hb => by
          obtain ⟨j, p, es, e1, e2⟩ := hb
          have hj : j < ρz.length := by
            have h0 := (List.getElem?_eq_some_iff.mp e2).1
            rw [hlen, g3.at'.len] at h0
            exact h0
          rw [wipeE_get ρz vs j hj] at e1
          by_cases hm : j ∈ vs
          · rw [if_pos hm] at e1
            cases e1
          · rw [if_neg hm] at e1
            rw [← ew, wipe_get σz vs j (by rw [g3.at'.len]; exact hj), if_neg hm] at e2
            exact ⟨j, p, es, e1, e2⟩
        refine ⟨⟨a3, g3.gr, fun b hb => g3.own b (own3 b hb), fun j p => ⟨?_, rfl⟩⟩, fun b hb => so3 b (own3 b hb)⟩
        obtain ⟨⟨es, e1⟩, e2⟩ := g3.pin j p
        obtain ⟨es0, e0⟩ := p
        have hj : j < ρz.length := (List.getElem?_eq_some_iff.mp e1).1
        have hj1 : j < ρ1.length := by
          have h0 := g3.at'.len
          have h1 := a1.len
          have h2 : σz.length = σ.length := by rw [← wipe_length σz vs, ew, wipe_length]
          omega
        have hm : j ∉ vs := fun hm => by
          rw [wipeE_get ρ1 vs j hj1, if_pos hm] at e0
          cases e0
        exact ⟨es, by rw [wipeE_get ρz vs j hj, if_neg hm]; exact e1⟩
      cases L with
      | no ht hjs hbt e hr =>
        refine ht Hk2 (wipe σ vs) H2 x _ gs2.at' (ed ▸ rx2) fun σ3 g3 so3 hag => ⟨wipe_agr hag hjs, ?_⟩
        refine hbt Hk2 σ3 H2 g3.at' _ fun Hk4 H4 g4 => ?_
        rw [if_neg Bool.false_ne_true]
        subst e
        have so1 := fun b hb => so b (so3 b hb)
        obtain ⟨gb, sb⟩ := back ((gs2.trans g3).trans g4.s) (fun b hb => so1 b (g4.own b hb)) (wipe_agr hag hjs)
        exact ⟨hlt, done, rest, _, Hk4, eo, by omega, hr, xs, gb, sb, g4.gr.keep D _ hx2 (nD so1), g4.gr.old D _ hx2 True.intro (nD so1) hkD2, rx3.ex g4.gr.kk⟩
      | @yes _ yd _ rest' _ _ _ _ _ _ _ ht hjs hbt he e hr =>
        refine ht Hk2 (wipe σ vs) H2 x _ gs2.at' (ed ▸ rx2) fun σ3 g3 so3 hag => ⟨wipe_agr hag hjs, ?_⟩
        refine hbt Hk2 σ3 H2 g3.at' _ fun Hk4 H4 g4 => ?_
        rw [if_pos rfl]
        refine he Hk4 σ3 H4 g4.at' _ fun z Hk5 H5 g5 rz => ?_
        subst e
        have so1 := fun b hb => so b (so3 b hb)
        have so4 := fun b hb => so1 b (g4.own b hb)
        have hx4 : H4 D = some (.lst xs) := g4.gr.keep D _ hx2 (nD so1)
        have hx5 : H5 D = some (.lst xs) := g5.gr.keep D _ hx4 (nD so4)
        have hk4 : Hk4 D = none := g4.gr.old D _ hx2 True.intro (nD so1) hkD2
        have hk5 : Hk5 D = none := g5.gr.old D _ hx4 True.intro (nD so4) hk4
        have rx5 : RpA Hk5 xs done := (rx3.ex g4.gr.kk).ex g5.gr.kk
        have xl : xs.length = done.length := rx5.length
        -- the list at D is written
        obtain ⟨gb, sb⟩ := back (((gs2.trans g3).trans g4.s).trans g5.s) (fun b hb => so4 b (g5.own b hb)) (wipe_agr hag hjs)
        refine ⟨xs, hx5, by omega, hlt, done ++ [yd], rest', _, Hk5, by rw [List.append_assoc]; exact eo, by rw [List.length_append, List.length_singleton]; omega, hr, xs ++ [z], ?_, sb, upd_same, hk5, rx5.append (.one rz)⟩
        have nb := nD sb
        refine ⟨⟨gb.at'.kh.up hk5, gb.at'.len, fun j s hj => ?_, gb.at'.inj⟩, ⟨gb.gr.kk, fun b o hb no => ?_, fun b hb => ?_, gb.gr.old⟩, gb.own, gb.pin⟩
        · obtain ⟨w, w1, w2⟩ := gb.at'.en j s hj
          refine ⟨w, w1, ?_⟩
          cases s with
          | ow p es =>
            obtain ⟨l, ys, rfl, k1, k2, k3⟩ := w2
            have ne : l ≠ D := fun z => nb ⟨j, p, es, hj, z ▸ w1⟩
            exact ⟨l, ys, rfl, k1, by rw [upd_ne ne]; exact k2, k3⟩
          | kn d => exact w2
          | obj C fs => exact w2
          | objP pp C fs => exact w2
          | raw u => exact w2
          | scr K ns => exact w2
          | dic ks => exact w2
        · rw [upd_ne (ne_of_none hb hD)]
          exact gb.gr.keep b o hb no
        · by_cases eb : b = D
          · subst eb
            rw [upd_same]
            simp
          · rw [upd_ne eb]
            exact gb.gr.live b hb
    · have e : i = ds.length := by omega
      subst e
      rw [List.drop_length] at L
      cases L
      refine .inl ⟨w.stops H' (e1.trans gs.at'.kh), ?_⟩
      rw [List.append_nil] at eo
      subst eo
      obtain ⟨b1, b2, b3⟩ := hb
      have hlen : ρ1.length = ρ2.length := by
        have h1 := a1.len
        have h2 := gs.at'.len
        rw [wipe_length] at h2
        omega
      have low : ∀ {i : Nat} {s : Option Sl}, ρ'[i]? = some s → i < σ.length := fun {i s} h => by
        have h0 := (List.getElem?_eq_some_iff.mp h).1
        have h1 := a1.len
        omega
      have own2 : ∀ b, Owns σ ρ' b → Owns (wipe σ vs) ρ2 b := fun b hb => by
        obtain ⟨j, p, es, e1, e2⟩ := hb
        by_cases hm : j ∈ vs
        · obtain ⟨e3, e4⟩ := b3 j hm
          rw [e3] at e1
          exact absurd e1 (e4 p es)
        · rw [b2 j hm] at e1
          exact ⟨j, p, es, e1, by rw [wipe_get σ vs j (List.getElem?_eq_some_iff.mp e2).1, if_neg hm]; exact e2⟩
      have hDH : H D = none := by
        cases q : H D with
        | none => rfl
        | some u => exact absurd hD (g1.gr.live D (by rw [q]; simp))
      refine q D xs Hk' H' (g1.trans ⟨⟨gs.at'.kh, by rw [b1, ← hlen]; exact a1.len, fun j s hj => ?_, fun j k p q es fs b h1 h2 h3 h4 => ?_⟩, gs.gr.mono ownW, fun b hb => ownW b (so b (own2 b hb)), fun j p => ?_⟩) hDH hkD hx rx
      · by_cases hm : j ∈ vs
        · obtain ⟨e3, e4⟩ := b3 j hm
          rw [e3] at hj
          obtain ⟨w, w1, w2⟩ := a1.en j s hj
          refine ⟨w, w1, ?_⟩
          cases s with
          | ow p es => exact absurd hj (e4 p es)
          | kn d => exact w2.ex e1
          | obj C fs =>
            obtain ⟨p, dx, vs, rfl, k1, k2⟩ := w2
            exact ⟨p, dx, vs, rfl, e1 _ _ k1, k2.ex e1⟩
          | objP pp C fs =>
            obtain ⟨dx, vs, rfl, k1, k2⟩ := w2
            exact ⟨dx, vs, rfl, e1 _ _ k1, k2.ex e1⟩
          | raw u => exact w2
          | scr K ns =>
            obtain ⟨p, rfl, k1⟩ := w2
            exact ⟨p, rfl, sq_ex e1 k1⟩
          | dic ks =>
            obtain ⟨p, rfl, k1⟩ := w2
            exact ⟨p, rfl, e1 _ _ k1⟩
        · have hj' := low hj
          rw [b2 j hm] at hj
          obtain ⟨w, w1, w2⟩ := gs.at'.en j s hj
          rw [wipe_get σ vs j hj', if_neg hm] at w1
          exact ⟨w, w1, w2⟩
      · have nm : ∀ {j : Nat} {p : Bool} {es : List PyData}, ρ'[j]? = some (some (.ow p es)) → j ∉ vs := fun {j p es} h hm => by
          obtain ⟨e3, e4⟩ := b3 j hm
          rw [e3] at h
          exact e4 p es h
        have m1 := nm h1
        have m2 := nm h2
        have l1 := low h1
        have l2 := low h2
        rw [b2 j m1] at h1
        rw [b2 k m2] at h2
        exact gs.at'.inj j k p q es fs b h1 h2 (by rw [wipe_get σ vs j l1, if_neg m1]; exact h3) (by rw [wipe_get σ vs k l2, if_neg m2]; exact h4)
      · by_cases hm : j ∈ vs
        · obtain ⟨es, e⟩ := p
          exact absurd e ((b3 j hm).2 true es)
        · obtain ⟨es, e⟩ := p
          have hj1 : j < ρ1.length := (List.getElem?_eq_some_iff.mp e).1
          obtain ⟨⟨es2, e2⟩, _⟩ := gs.pin j ⟨es, by rw [wipeE_get ρ1 vs j hj1, if_neg hm]; exact e⟩
          exact ⟨es2, by rw [b2 j hm]; exact e2⟩
end DW

set_option maxRecDepth 100000
set_option maxHeartbeats 1000000
namespace DW
open PySem L2

/-! ### comprehensions that change nothing -/
section
variable {wi : TI} {g : TG} {tt : TT} {te : TE} {vs : List Nat} {ρ : En} {ds : List PyData} {p : PyData → Bool} {f : PyData → PyData}
theorem wipeE_len (ρ : En) : ∀ vs : List Nat, (wipeE ρ vs).length = ρ.length
  | [] => rfl
  | v :: vs => by
    unfold wipeE
    rw [List.length_set, wipeE_len ρ vs]
theorem lc_pure {A : PyData → En} : ∀ {ds : List PyData}, (∀ d ∈ ds, ∃ js, TgD g d (wipeE ρ vs) (A d) js ∧ (∀ j ∈ js, j ∈ vs) ∧ EvB tt (A d) (p d) (A d) ∧ (p d = true → EvD te (A d) (f d) (A d)) ∧ wipeE (A d) vs = wipeE ρ vs) →
    LcD g tt te vs ds (wipeE ρ vs) ((ds.filter p).map f) (wipeE ρ vs)
  | [], _ => .nil
  | d :: ds, h => by
    obtain ⟨js, h1, h2, h3, h4, h5⟩ := h d (by simp)
    have ih := lc_pure (ds := ds) fun e he => h e (by simp [he])
    cases hp : p d with
    | true =>
      rw [List.filter_cons_of_pos hp, List.map_cons]
      rw [hp] at h3
      exact .yes h1 h2 h3 (h4 hp) h5.symm ih
    | false =>
      rw [List.filter_cons_of_neg (by rw [hp]; exact Bool.false_ne_true)]
      rw [hp] at h3
      exact .no h1 h2 h3 h5.symm ih
theorem back_same (hno : ∀ i ∈ vs, NoOw ρ i) : Back ρ (wipeE ρ vs) vs ρ := by
  refine ⟨(wipeE_len ρ vs).symm, fun i hi => ?_, fun i hi => ⟨rfl, hno i hi⟩⟩
  by_cases h : i < ρ.length
  · rw [wipeE_get ρ vs i h, if_neg hi]
  · rw [List.getElem?_eq_none (by omega), List.getElem?_eq_none (by rw [wipeE_len]; omega)]
theorem en_pure {A : PyData → En} (hi : EvI wi ρ ds ρ) (h : ∀ d ∈ ds, ∃ js, TgD g d (wipeE ρ vs) (A d) js ∧ (∀ j ∈ js, j ∈ vs) ∧ EvB tt (A d) (p d) (A d) ∧ (p d = true → EvD te (A d) (f d) (A d)) ∧ wipeE (A d) vs = wipeE ρ vs)
    (hno : ∀ i ∈ vs, NoOw ρ i) (hz : ds.length < sizeLine) : EvN (tLc wi g tt te vs) ρ ((ds.filter p).map f) ρ := en_lc hi (lc_pure h) (back_same hno) hz
theorem eb_yes : EvB tYes ρ true ρ := fun Hk σ H a Q q => q Hk H (Go.refl a)
theorem set_wipe1 {j : Nat} {x : Option Sl} : wipeE ((wipeE ρ [j]).set j x) [j] = wipeE ρ [j] := by
  show ((ρ.set j none).set j x).set j none = ρ.set j none
  rw [List.set_set, List.set_set]
theorem not_pin {i : Nat} (h : NoOw ρ i) : ¬ Pin ρ i := fun ⟨ds, e⟩ => h true ds e
theorem noow_wipe {j : Nat} : NoOw (wipeE ρ [j]) j := fun p ds h => by
  have h : (ρ.set j none)[j]? = some (some (.ow p ds)) := h
  rcases set_inv h with ⟨_, _, z⟩ | ⟨e, _⟩
  · cases z
  · exact e rfl
theorem wipe_set1 {j : Nat} {x : Option Sl} : (wipeE ρ [j]).set j x = ρ.set j x := by
  show (ρ.set j none).set j x = ρ.set j x
  rw [List.set_set]
/-- one name as the target, a test -/
theorem en_filter {j : Nat} (hi : EvI wi ρ ds ρ) (ht : ∀ d ∈ ds, EvB tt (ρ.set j (some (.kn d))) (p d) (ρ.set j (some (.kn d)))) (he : ∀ d ∈ ds, p d = true → EvD te (ρ.set j (some (.kn d))) (f d) (ρ.set j (some (.kn d))))
    (hno : NoOw ρ j) (hz : ds.length < sizeLine) : EvN (tLc wi (gName j) tt te [j]) ρ ((ds.filter p).map f) ρ :=
  en_pure (A := fun d => ρ.set j (some (.kn d))) hi (fun d hd => ⟨[j], by
    have := tg_name (ρ := wipeE ρ [j]) (d := d) (not_pin noow_wipe)
    rw [wipe_set1] at this
    exact this, fun i h => h, ht d hd, he d hd, by rw [← wipe_set1, set_wipe1]⟩) (fun i h => by
      simp only [List.mem_singleton] at h
      subst h
      exact hno) hz
theorem en_map {j : Nat} (hi : EvI wi ρ ds ρ) (he : ∀ d ∈ ds, EvD te (ρ.set j (some (.kn d))) (f d) (ρ.set j (some (.kn d)))) (hno : NoOw ρ j) (hz : ds.length < sizeLine) : EvN (tLc wi (gName j) tYes te [j]) ρ (ds.map f) ρ := by
  have := en_filter (p := fun _ => true) hi (fun d hd => eb_yes) (fun d hd _ => he d hd) hno hz
  rwa [List.filter_eq_self.mpr (fun _ _ => rfl)] at this
/-- two names -/
theorem wipe_set2 {j k : Nat} {x y : Option Sl} (hjk : j ≠ k) : ((wipeE ρ [j, k]).set j x).set k y = (ρ.set j x).set k y := by
  show ((((ρ.set k none).set j none).set j x).set k y) = (ρ.set j x).set k y
  rw [List.set_set, List.set_comm _ _ hjk, List.set_set, List.set_comm _ _ hjk.symm]
theorem set_wipe2 {j k : Nat} {x y : Option Sl} (hjk : j ≠ k) : wipeE ((ρ.set j x).set k y) [j, k] = wipeE ρ [j, k] := by
  show (((ρ.set j x).set k y).set k none).set j none = (ρ.set k none).set j none
  rw [List.set_set, List.set_comm _ _ hjk.symm, List.set_set, List.set_comm _ _ hjk]
theorem noow_set {i j : Nat} {s : Option Sl} (h : NoOw ρ i) (hs : ∀ p ds, s ≠ some (.ow p ds)) : NoOw (ρ.set j s) i := fun p ds e => by
  rcases set_inv e with ⟨_, _, z⟩ | ⟨_, e⟩
  · exact hs p ds z
  · exact h p ds e
theorem noow_wipes : ∀ {vs : List Nat} {i : Nat}, i ∈ vs → NoOw (wipeE ρ vs) i
  | v :: vs, i, h => fun p ds e => by
    have e : ((wipeE ρ vs).set v none)[i]? = some (some (.ow p ds)) := e
    rcases set_inv e with ⟨_, _, z⟩ | ⟨n, e⟩
    · cases z
    · rcases List.mem_cons.mp h with q | q
      · exact n q.symm
      · exact noow_wipes q p ds e
theorem en_filter2 {K : PySem.W.Frag} {j k : Nat} {P : PyData → PyData → Bool} {F : PyData → PyData → PyData} {ps : List (PyData × PyData)} (hjk : j ≠ k) (hi : EvI wi ρ (ps.map fun q => .tuple [q.1, q.2]) ρ)
    (ht : ∀ q ∈ ps, EvB tt ((ρ.set j (some (.kn q.1))).set k (some (.kn q.2))) (P q.1 q.2) ((ρ.set j (some (.kn q.1))).set k (some (.kn q.2))))
    (he : ∀ q ∈ ps, P q.1 q.2 = true → EvD te ((ρ.set j (some (.kn q.1))).set k (some (.kn q.2))) (F q.1 q.2) ((ρ.set j (some (.kn q.1))).set k (some (.kn q.2))))
    (h1 : NoOw ρ j) (h2 : NoOw ρ k) (hz : ps.length < sizeLine) : EvN (tLc wi (gTup K 2 (gCons (gName j) (gCons (gName k) gNil))) tt te [j, k]) ρ ((ps.filter fun q => P q.1 q.2).map fun q => F q.1 q.2) ρ := by
  have := en_pure (g := gTup K 2 (gCons (gName j) (gCons (gName k) gNil))) (vs := [j, k]) (tt := tt) (te := te) (ρ := ρ) (p := fun d => match d with | .tuple [x, y] => P x y | _ => false) (f := fun d => match d with | .tuple [x, y] => F x y | _ => d)
    (A := fun d => match d with | .tuple [x, y] => (ρ.set j (some (.kn x))).set k (some (.kn y)) | _ => ρ) hi (fun d hd => ?_) (fun i hi => ?_) (by simpa using hz)
  · rw [List.filter_map, List.map_map] at this
    exact this
  · obtain ⟨q, hq, rfl⟩ := List.mem_map.mp hd
    refine ⟨[j, k], ?_, fun i h => h, ht q hq, fun z => he q hq z, set_wipe2 hjk⟩
    have := tg_two (K := K) (ρ := wipeE ρ [j, k]) (d := q.1) (e := q.2) (j := j) (k := k) (not_pin (noow_wipes (by simp))) (not_pin (noow_set (noow_wipes (by simp)) (fun _ _ z => by cases z)))
    rw [wipe_set2 hjk] at this
    exact this
  · simp only [List.mem_cons, List.not_mem_nil, or_false] at hi
    rcases hi with rfl | rfl
    · exact h1
    · exact h2
theorem en_map2 {K : PySem.W.Frag} {j k : Nat} {F : PyData → PyData → PyData} {ps : List (PyData × PyData)} (hjk : j ≠ k) (hi : EvI wi ρ (ps.map fun q => .tuple [q.1, q.2]) ρ)
    (he : ∀ q ∈ ps, EvD te ((ρ.set j (some (.kn q.1))).set k (some (.kn q.2))) (F q.1 q.2) ((ρ.set j (some (.kn q.1))).set k (some (.kn q.2))))
    (h1 : NoOw ρ j) (h2 : NoOw ρ k) (hz : ps.length < sizeLine) : EvN (tLc wi (gTup K 2 (gCons (gName j) (gCons (gName k) gNil))) tYes te [j, k]) ρ (ps.map fun q => F q.1 q.2) ρ := by
  have := en_filter2 (K := K) (te := te) (P := fun _ _ => true) hjk hi (fun _ _ => eb_yes) (fun q hq _ => he q hq) h1 h2 hz
  rwa [List.filter_eq_self.mpr (fun _ _ => rfl)] at this
theorem wipe_set3 {j k m : Nat} {x y z : Option Sl} (hjk : j ≠ k) (hjm : j ≠ m) (hkm : k ≠ m) : (((wipeE ρ [j, k, m]).set j x).set k y).set m z = ((ρ.set j x).set k y).set m z := by
  show ((((((ρ.set m none).set k none).set j none).set j x).set k y).set m z) = ((ρ.set j x).set k y).set m z
  rw [List.set_set]
  refine List.ext_getElem? fun i => ?_
  simp only [List.getElem?_set, List.length_set]
  by_cases e1 : m = i <;> by_cases e2 : k = i <;> by_cases e3 : j = i <;> simp [e1, e2, e3]
theorem set_wipe3 {j k m : Nat} {x y z : Option Sl} : wipeE (((ρ.set j x).set k y).set m z) [j, k, m] = wipeE ρ [j, k, m] := by
  show (((((ρ.set j x).set k y).set m z).set m none).set k none).set j none = ((ρ.set m none).set k none).set j none
  rw [List.set_set]
  refine List.ext_getElem? fun i => ?_
  simp only [List.getElem?_set, List.length_set]
  by_cases e1 : m = i <;> by_cases e2 : k = i <;> by_cases e3 : j = i <;> simp [e1, e2, e3]
/-- three names, a test -/
theorem en_filter3 {K : PySem.W.Frag} {j k m : Nat} {P : PyData → PyData → PyData → Bool} {F : PyData → PyData → PyData → PyData} {ps : List (PyData × PyData × PyData)} (hjk : j ≠ k) (hjm : j ≠ m) (hkm : k ≠ m) (hi : EvI wi ρ (ps.map fun q => .tuple [q.1, q.2.1, q.2.2]) ρ)
    (ht : ∀ q ∈ ps, EvB tt (((ρ.set j (some (.kn q.1))).set k (some (.kn q.2.1))).set m (some (.kn q.2.2))) (P q.1 q.2.1 q.2.2) (((ρ.set j (some (.kn q.1))).set k (some (.kn q.2.1))).set m (some (.kn q.2.2))))
    (he : ∀ q ∈ ps, P q.1 q.2.1 q.2.2 = true → EvD te (((ρ.set j (some (.kn q.1))).set k (some (.kn q.2.1))).set m (some (.kn q.2.2))) (F q.1 q.2.1 q.2.2) (((ρ.set j (some (.kn q.1))).set k (some (.kn q.2.1))).set m (some (.kn q.2.2))))
    (h1 : NoOw ρ j) (h2 : NoOw ρ k) (h3 : NoOw ρ m) (hz : ps.length < sizeLine) : EvN (tLc wi (gTup K 3 (gCons (gName j) (gCons (gName k) (gCons (gName m) gNil)))) tt te [j, k, m]) ρ ((ps.filter fun q => P q.1 q.2.1 q.2.2).map fun q => F q.1 q.2.1 q.2.2) ρ := by
  have := en_pure (g := gTup K 3 (gCons (gName j) (gCons (gName k) (gCons (gName m) gNil)))) (vs := [j, k, m]) (tt := tt) (te := te) (ρ := ρ) (p := fun d => match d with | .tuple [x, y, z] => P x y z | _ => false) (f := fun d => match d with | .tuple [x, y, z] => F x y z | _ => d)
    (A := fun d => match d with | .tuple [x, y, z] => ((ρ.set j (some (.kn x))).set k (some (.kn y))).set m (some (.kn z)) | _ => ρ) hi (fun d hd => ?_) (fun i hi => ?_) (by simpa using hz)
  · rw [List.filter_map, List.map_map] at this
    exact this
  · obtain ⟨q, hq, rfl⟩ := List.mem_map.mp hd
    refine ⟨[j, k, m], ?_, fun i h => h, ht q hq, fun z => he q hq z, set_wipe3⟩
    have := tg_three (K := K) (ρ := wipeE ρ [j, k, m]) (d := q.1) (e := q.2.1) (f := q.2.2) (j := j) (k := k) (m := m) (not_pin (noow_wipes (by simp))) (not_pin (noow_set (noow_wipes (by simp)) (fun _ _ z => by cases z))) (not_pin (noow_set (noow_set (noow_wipes (by simp)) (fun _ _ z => by cases z)) (fun _ _ z => by cases z)))
    rw [wipe_set3 hjk hjm hkm] at this
    exact this
  · simp only [List.mem_cons, List.not_mem_nil, or_false] at hi
    rcases hi with rfl | rfl | rfl
    · exact h1
    · exact h2
    · exact h3
end

/-! ### calls -/
def notOw : Sl → Prop
  | .ow _ _ => False
  | _ => True
/-- a def that changes nothing of its caller's: its arguments as slots, what it hands back -/
def spP (R : List Sl → PyData → Prop) : Sp := fun vs H Q _ => ∃ (ss : List Sl) (Hk : Hp) (d : PyData), R ss d ∧ (∀ s ∈ ss, notOw s) ∧ At (ss.map some) Hk (vs.map some) H ∧ ∀ v Hk' H', Gr (fun _ => False) Hk H Hk' H' → Ex Hk' H' → Rp Hk' v d → Q v H'
/-- arguments as slots -/
inductive ArS (ρ : En) : List Ar → List Sl → Prop
  | nil : ArS ρ [] []
  | d {d : PyData} {as : List Ar} {ss : List Sl} : ArS ρ as ss → ArS ρ (.d d :: as) (.kn d :: ss)
  | var {i : Nat} {s : Sl} {as : List Ar} {ss : List Sl} : ρ[i]? = some (some s) → ArS ρ as ss → ArS ρ (.var i :: as) (s :: ss)
theorem At.nil {Hk H : Hp} (e : Ex Hk H) : At [] Hk [] H := ⟨e, rfl, fun i s h => by simp at h, fun i j p q ds es a h => by simp at h⟩
theorem At.cons {ρ : En} {Hk : Hp} {σ : St} {H : Hp} {v : V} {s : Sl} (a : At ρ Hk σ H) (r : SlOk Hk H v s) (n : notOw s) : At (some s :: ρ) Hk (some v :: σ) H := by
  refine ⟨a.kh, by simp [a.len], fun i t h => ?_, fun i j p q ds es b h1 h2 h3 h4 => ?_⟩
  · cases i with
    | zero =>
      simp only [List.getElem?_cons_zero, Option.some.injEq] at h
      subst h
      exact ⟨v, by simp, r⟩
    | succ i =>
      rw [List.getElem?_cons_succ] at h
      obtain ⟨w, h1, h2⟩ := a.en i t h
      exact ⟨w, by rw [List.getElem?_cons_succ]; exact h1, h2⟩
  · cases i with
    | zero =>
      simp only [List.getElem?_cons_zero, Option.some.injEq] at h1
      subst h1
      exact n.elim
    | succ i =>
      cases j with
      | zero =>
        simp only [List.getElem?_cons_zero, Option.some.injEq] at h2
        subst h2
        exact n.elim
      | succ j =>
        rw [List.getElem?_cons_succ] at h1 h2 h3 h4
        rw [a.inj i j p q ds es b h1 h2 h3 h4]
theorem ArS.at' {ρ : En} {Hk : Hp} {σ : St} {H : Hp} (a : At ρ Hk σ H) : ∀ {vs : List V} {as : List Ar} {ss : List Sl}, ArAll Hk σ vs as → ArS ρ as ss → (∀ s ∈ ss, notOw s) → At (ss.map some) Hk (vs.map some) H
  | [], [], ss, h1, h2, n => by
    cases h2
    exact At.nil a.kh
  | [], _ :: _, ss, h1, h2, n => by cases h1
  | _ :: _, [], ss, h1, h2, n => by cases h1
  | v :: vs, b :: as, ss, h1, h2, n => by
    cases h1 with
    | cons r t =>
      cases h2 with
      | d h2 =>
        cases r with
        | d r => exact (ArS.at' a t h2 fun s hs => n s (by simp [hs])).cons (s := .kn _) r True.intro
      | var h h2 =>
        cases r with
        | var e =>
          obtain ⟨w, w1, w2⟩ := a.en _ _ h
          rw [e] at w1
          cases w1
          exact (ArS.at' a t h2 fun s hs => n s (by simp [hs])).cons w2 (n _ (by simp))
theorem ed_call {R : List Sl → PyData → Prop} {ta : TA} {E : XK} {ρ ρ1 : En} {as : List Ar} {ss : List Sl} {d : PyData} (ha : EvA ta ρ as ρ1) (hs : ArS ρ1 as ss) (hn : ∀ s ∈ ss, notOw s) (hR : R ss d) : EvD (tCall (spP R) [] E ta) ρ d ρ1 := fun Hk σ H a Q q =>
  ha Hk σ H a _ fun vs Hk1 H1 g1 r => by
    show spP R (vs ++ []) H1 Q E
    rw [List.append_nil]
    exact ⟨ss, Hk1, d, hR, hn, ArS.at' g1.at' r hs hn, fun v Hk2 H2 g2 e2 rv => q v Hk2 H2 (g1.trans (g1.at'.go g2 e2)) rv⟩
section
variable {ρ ρ1 ρ2 : En} {te : TE} {ta : TA} {d : PyData} {as : List Ar} {i : Nat}
theorem ea_nil : EvA tNil ρ [] ρ := fun Hk σ H a Q q => q [] Hk H (Go.refl a) .nil
theorem ea_cons (h : EvD te ρ d ρ1) (hr : EvA ta ρ1 as ρ2) : EvA (tCons te ta) ρ (.d d :: as) ρ2 := fun Hk σ H a Q q =>
  h Hk σ H a _ fun v Hk1 H1 g1 r => hr Hk1 σ H1 g1.at' _ fun vs Hk2 H2 g2 rs => q (v :: vs) Hk2 H2 (g1.trans g2) (.cons (.d (r.ex g2.gr.kk)) rs)
theorem ea_var {s : Sl} (h : ρ[i]? = some (some s)) (hr : EvA ta ρ as ρ2) : EvA (tCons (tVar i) ta) ρ (.var i :: as) ρ2 := fun Hk σ H a Q q => by
  obtain ⟨v, h1, _⟩ := a.en i _ h
  exact ⟨v, h1, hr Hk σ H a _ fun vs Hk2 H2 g2 rs => q (v :: vs) Hk2 H2 g2 (.cons (.var h1) rs)⟩
end

/-! ### defs -/
section
variable {P : Program} {w : World} {K : PySem.W.Frag} {mg : Str → Option Value} {base : Heap}
theorem At.start {ss : List Sl} {Hk : Hp} {vs : List V} {H : Hp} (a : At (ss.map some) Hk (vs.map some) H) (n : Nat) : At (ss.map some ++ List.replicate n none) Hk (vs.map some ++ List.replicate n none) H := by
  have hl : vs.length = ss.length := by simpa using a.len
  have low : ∀ {i : Nat} {s : Sl}, (ss.map some ++ List.replicate n none)[i]? = some (some s) → i < ss.length ∧ (ss.map some)[i]? = some (some s) := fun {i s} h => by
    by_cases hi : i < ss.length
    · exact ⟨hi, by rwa [List.getElem?_append_left (by simpa using hi)] at h⟩
    · rw [List.getElem?_append_right (by simpa using hi), List.getElem?_replicate] at h
      split at h <;> simp at h
  refine ⟨a.kh, by simp [hl], fun i s h => ?_, fun i j p q ds es b h1 h2 h3 h4 => ?_⟩
  · obtain ⟨hi, h⟩ := low h
    obtain ⟨v, h1, h2⟩ := a.en i s h
    exact ⟨v, by rw [List.getElem?_append_left (by simpa [hl] using hi)]; exact h1, h2⟩
  · obtain ⟨l1, h1⟩ := low h1
    obtain ⟨l2, h2⟩ := low h2
    rw [List.getElem?_append_left (by simpa [hl] using l1)] at h3
    rw [List.getElem?_append_left (by simpa [hl] using l2)] at h4
    exact a.inj i j p q ds es b h1 h2 h3 h4
theorem no_owns {ss : List Sl} {vs : St} {n : Nat} (hn : ∀ s ∈ ss, notOw s) (b : Addr) : ¬ Owns vs (ss.map some ++ List.replicate n none) b := fun ⟨i, p, ds, h1, _⟩ => by
  by_cases hi : i < ss.length
  · rw [List.getElem?_append_left (by simpa using hi), List.getElem?_map, List.getElem?_eq_getElem hi] at h1
    have h1 : some (some ss[i]) = some (some (Sl.ow p ds)) := h1
    have e : ss[i] = .ow p ds := Option.some.inj (Option.some.inj h1)
    have := hn ss[i] (List.getElem_mem hi)
    rw [e] at this
    exact this
  · rw [List.getElem?_append_right (by simpa using hi), List.getElem?_replicate] at h1
    split at h1 <;> simp at h1
/-- a def that changes nothing of its caller's keeps its promise, by its body's data -/
theorem okP {x qual : Str} {st : Stmt} {f : Addr} {fd : FuncData} {N ps : List Str} {k : Nat} {R : List Sl → PyData → Prop} (F : Fun K x qual st f fd) (S : FnScope N ps (defScope st)) (hl : ∀ ss d, R ss d → ss.length = ps.length)
    (hb : ∀ (cdv : Value) (A : Around) (outer : List Env) (s : Shared) (H : Hp) (E : XK), Room k (A.deeper (PyProof.Rows.envOfC qual (defScope st) s.heap.objs.size f cdv)) →
      ∃ t, PSs (cxOf CX0 P w K mg base N qual (defScope st) f cdv A outer s H E).nox (defBody st) t ∧ ∀ ss d, R ss d → (∀ s ∈ ss, notOw s) → ∃ ρ', SD t (ss.map some ++ List.replicate (N.length - ss.length) none) (.rt d ρ')) : FnOk P w K mg base CX0 (k + 1) f fd ps (spP R) := by
  refine F.ok S (fun vs H Q E h => ?_) fun cdv A outer s H vs Q E hr h => ?_
  · obtain ⟨ss, Hk, d, hR, _, a, _⟩ := h
    have := a.len
    rw [← hl ss d hR]
    simpa using this
  · obtain ⟨ss, Hk, d, hR, hn, a, q⟩ := h
    obtain ⟨t, ht, hS⟩ := hb cdv A outer s H E hr
    obtain ⟨ρ', hS⟩ := hS ss d hR hn
    have el : vs.length = ss.length := by simpa using a.len
    refine ⟨t, ht, ?_⟩
    show t _ (vs.map some ++ List.replicate (N.length - vs.length) none) H
    rw [el]
    refine hS Hk _ H _ (a.start _) fun Hk' σ' H' g v rv => q v Hk' H' ?_ g.at'.kh rv
    exact g.gr.mono fun b hb => no_owns hn b hb
end
end DW

set_option maxRecDepth 100000
set_option maxHeartbeats 1000000
namespace DW
open PySem PySem.Spec PyProof.Rows L2
section
variable {X : Cx}
/-! x in t, t a tuple of data -/
def rInDT (K : PySem.W.Frag) : R2 := fun x y H Q => ∃ d ds, Dp K H x d ∧ Dp K H y (.tuple ds) ∧ SeqAt.shaped d = true ∧ SeqAt.shaped (.tuple ds) = true ∧ Q (.bl (ds.any fun z => PyData.eqv z d)) H
def rNotInDT (K : PySem.W.Frag) : R2 := fun x y H Q => ∃ d ds, Dp K H x d ∧ Dp K H y (.tuple ds) ∧ SeqAt.shaped d = true ∧ SeqAt.shaped (.tuple ds) = true ∧ Q (.bl (!ds.any fun z => PyData.eqv z d)) H
theorem op_inDT (hu : X.A.units + 65 < cLine) : OpR X (compareOp .In) (rInDT X.K) := by
  rintro pins s σ H x y v u Q I rx ry ⟨d, ds, hd, he, sd, se, q⟩
  obtain ⟨as, r1⟩ := Dp.reads I d x v hd rx
  obtain ⟨bs, r2⟩ := Dp.reads I (.tuple ds) y u he ry
  exact SeqAt.in_tuple_reads r2 r1 (SeqAt.canLay_of_shaped se) (SeqAt.canLay_of_shaped sd) (room_in_shaped sd hu) ⟨.bl _, H, I, rfl, q⟩
theorem op_notInDT (hu : X.A.units + 65 < cLine) : OpR X (compareOp .NotIn) (rNotInDT X.K) := by
  rintro pins s σ H x y v u Q I rx ry ⟨d, ds, hd, he, sd, se, q⟩
  obtain ⟨as, r1⟩ := Dp.reads I d x v hd rx
  obtain ⟨bs, r2⟩ := Dp.reads I (.tuple ds) y u he ry
  exact SeqAt.notIn_tuple_reads r2 r1 (SeqAt.canLay_of_shaped se) (SeqAt.canLay_of_shaped sd) (room_in_shaped sd hu) ⟨.bl _, H, I, rfl, q⟩
/-! named readings of built-ins -/
def rLen (K : PySem.W.Frag) : List V → Hp → VK → Prop := fun xs H Q => ∃ p ys, xs = [.ref p] ∧ (SqL K H p ys ∨ SqT K H p ys) ∧ Q (.int ys.length) H
theorem cr_len : CallR X (.builtin "len") (rLen X.K) := call_len_seq
def rListOf (K : PySem.W.Frag) : List V → Hp → VK → Prop := fun xs H Q => ∃ p ys, xs = [.ref p] ∧ (SqL K H p ys ∨ SqT K H p ys) ∧ ∀ l, H l = none → Q (.ref l) (upd H l (.lst ys))
theorem cr_list : CallR X (.type "list") (rListOf X.K) := call_list_of
def rTupOf (K : PySem.W.Frag) : List V → Hp → VK → Prop := fun xs H Q => ∃ p ys, xs = [.ref p] ∧ ((SqL K H p ys ∧ ∀ l, H l = none → Q (.ref l) (upd H l (.tup ys))) ∨ (SqT K H p ys ∧ Q (.ref p) H))
theorem cr_tuple : CallR X (.type "tuple") (rTupOf X.K) := call_tuple_of
def rIsNon : R2 := fun x y H Q => y = .non ∧ Q (.bl (decide (x = .non))) H
theorem op_isNon : OpR X (compareOp .Is) rIsNon := op_isN
def rAdd2 : R2 := rI0 fun i j => .int (i + j)
theorem op_add2 : OpR X (binaryOp .Add) rAdd2 := op_add
def rSub2 : R2 := rI0 fun i j => .int (i - j)
theorem op_sub2 : OpR X (binaryOp .Sub) rSub2 := op_sub
def rMul2 : R2 := rI CMul fun i j => .int (i * j)
theorem op_mul2 : OpR X (binaryOp .Mult) rMul2 := op_mul
def rMod2 : R2 := rI (fun _ j => 0 < j) fun i j => .int (i % j)
theorem op_mod2 : OpR X (binaryOp .Mod) rMod2 := op_mod
def rLt2 : R2 := rI0 fun i j => .bl (decide (i < j))
theorem op_lt2 : OpR X (compareOp .Lt) rLt2 := op_lt
def rLe2 : R2 := rI0 fun i j => .bl (decide (i ≤ j))
theorem op_le2 : OpR X (compareOp .LtE) rLe2 := op_le
def rGt2 : R2 := rI0 fun i j => .bl (decide (j < i))
theorem op_gt2 : OpR X (compareOp .Gt) rGt2 := op_gt
def rGe2 : R2 := rI0 fun i j => .bl (decide (j ≤ i))
theorem op_ge2 : OpR X (compareOp .GtE) rGe2 := op_ge
def rInt1 : List V → Hp → VK → Prop := fun xs H Q => (∃ i, xs = [.int i] ∧ Q (.int i) H) ∨ ∃ k, xs = [.bl k] ∧ Q (.int (if k then 1 else 0)) H
theorem cr_int : CallR X (.type "int") rInt1 := call_int1
def rAbs : List V → Hp → VK → Prop := fun xs H Q => ∃ i, xs = [.int i] ∧ Q (.int (if i < 0 then -i else i)) H
theorem cr_abs : CallR X (.builtin "abs") rAbs := call_abs
end
end DW
namespace DW
open PySem L2

section
variable {ρ ρ1 ρ2 ρ3 ρ' : En} {ta tb tc te tx : TE} {tt tu : TT} {d e x y z : PyData} {ds es : List PyData} {K : PySem.W.Frag} {a b : Bool} {m n : Int} {j k : Nat}
/-! ### tests -/
theorem eb_test (h : EvD te ρ (.bool b) ρ1) : EvB (tTest te) ρ b ρ1 := fun Hk σ H a Q q => h Hk σ H a _ fun v Hk' H' g r => by
  cases r
  exact ⟨b, rfl, q Hk' H' g⟩
theorem eb_B (h : EvD te ρ (.bool b) ρ1) : EvB (tB te) ρ b ρ1 := fun Hk σ H a Q q => h Hk σ H a _ fun v Hk' H' g r => by
  cases r
  exact ⟨b, rfl, q Hk' H' g⟩
theorem eb_not (h : EvB tt ρ b ρ1) : EvB (tNot tt) ρ (!b) ρ1 := fun Hk σ H a Q q => h Hk σ H a _ fun Hk' H' g => q Hk' H' g
theorem eb_and (h : EvB tt ρ a ρ) (h2 : a = true → EvB tu ρ b ρ) : EvB (tAnd tt tu) ρ (a && b) ρ := fun Hk σ H A Q q => h Hk σ H A _ fun Hk' H' g => by
  cases a with
  | true =>
    rw [if_pos rfl]
    exact h2 rfl Hk' σ H' g.at' Q fun Hk2 H2 g2 => q Hk2 H2 (g.trans g2)
  | false =>
    rw [if_neg Bool.false_ne_true]
    exact q Hk' H' g
theorem eb_or (h : EvB tt ρ a ρ) (h2 : a = false → EvB tu ρ b ρ) : EvB (tOr tt tu) ρ (a || b) ρ := fun Hk σ H A Q q => h Hk σ H A _ fun Hk' H' g => by
  cases a with
  | true =>
    rw [if_pos rfl]
    exact q Hk' H' g
  | false =>
    rw [if_neg Bool.false_ne_true]
    exact h2 rfl Hk' σ H' g.at' Q fun Hk2 H2 g2 => q Hk2 H2 (g.trans g2)
theorem ed_andV (h : EvD ta ρ (.bool a) ρ) (h2 : a = true → EvD tb ρ (.bool b) ρ) : EvD (tAndV ta tb) ρ (.bool (a && b)) ρ := fun Hk σ H A Q q => h Hk σ H A _ fun v Hk' H' g r => by
  cases r
  refine ⟨a, rfl, ?_⟩
  cases a with
  | true =>
    rw [if_pos rfl]
    exact h2 rfl Hk' σ H' g.at' Q fun v2 Hk2 H2 g2 r2 => q v2 Hk2 H2 (g.trans g2) r2
  | false =>
    rw [if_neg Bool.false_ne_true]
    exact q _ Hk' H' g (.bl _)
theorem ed_notV (h : EvD ta ρ (.bool a) ρ1) : EvD (tNotV ta) ρ (.bool (!a)) ρ1 := fun Hk σ H A Q q => h Hk σ H A _ fun v Hk' H' g r => by
  cases r
  exact ⟨a, rfl, q _ Hk' H' g (.bl _)⟩
theorem ed_if (h : EvB tt ρ b ρ1) (h1 : b = true → EvD ta ρ1 d ρ2) (h2 : b = false → EvD tb ρ1 d ρ2) : EvD (tIf tt ta tb) ρ d ρ2 := fun Hk σ H A Q q => h Hk σ H A _ fun Hk' H' g => by
  cases b with
  | true =>
    rw [if_pos rfl]
    exact h1 rfl Hk' σ H' g.at' Q fun v2 Hk2 H2 g2 r2 => q v2 Hk2 H2 (g.trans g2) r2
  | false =>
    rw [if_neg Bool.false_ne_true]
    exact h2 rfl Hk' σ H' g.at' Q fun v2 Hk2 H2 g2 r2 => q v2 Hk2 H2 (g.trans g2) r2
theorem ed_chain (ha : EvD ta ρ (.int m) ρ1) (hb : EvD tb ρ1 (.int n) ρ2) {i : Int} (hc : EvD tc ρ2 (.int i) ρ2) : EvD (tChain rLe2 rLe2 ta tb tc) ρ (.bool (decide (m ≤ n) && decide (n ≤ i))) ρ2 := fun Hk σ H A Q q =>
  ha Hk σ H A _ fun u Hk1 H1 g1 r1 => hb Hk1 σ H1 g1.at' _ fun v Hk2 H2 g2 r2 => by
    cases r1
    cases r2
    refine ⟨m, n, rfl, rfl, decide (m ≤ n), rfl, ?_⟩
    by_cases h : m ≤ n
    · rw [decide_eq_true h, if_pos rfl]
      refine hc Hk2 σ H2 g2.at' _ fun w Hk3 H3 g3 r3 => ?_
      cases r3
      refine ⟨n, i, rfl, rfl, ?_⟩
      have := q (.bl (decide (n ≤ i))) Hk3 H3 ((g1.trans g2).trans g3)
      rw [decide_eq_true h, Bool.true_and] at this
      exact this (.bl _)
    · rw [decide_eq_false h, if_neg Bool.false_ne_true]
      have := q (.bl false) Hk2 H2 (g1.trans g2)
      rw [decide_eq_false h, Bool.false_and] at this
      exact this (.bl _)

/-! ### ints -/
theorem ed_add (ha : EvD ta ρ (.int m) ρ1) (hb : EvD tb ρ1 (.int n) ρ2) : EvD (tOp rAdd2 ta tb) ρ (.int (m + n)) ρ2 := ed_I0 (g := fun i j => .int (i + j)) (g' := fun i j => .int (i + j)) ha hb fun _ => .int _
theorem ed_sub (ha : EvD ta ρ (.int m) ρ1) (hb : EvD tb ρ1 (.int n) ρ2) : EvD (tOp rSub2 ta tb) ρ (.int (m - n)) ρ2 := ed_I0 (g := fun i j => .int (i - j)) (g' := fun i j => .int (i - j)) ha hb fun _ => .int _
theorem ed_mul (ha : EvD ta ρ (.int m) ρ1) (hb : EvD tb ρ1 (.int n) ρ2) (hc : CMul m n) : EvD (tOp rMul2 ta tb) ρ (.int (m * n)) ρ2 := ed_I (g := fun i j => .int (i * j)) (g' := fun i j => .int (i * j)) hc ha hb fun _ => .int _
theorem ed_mod (ha : EvD ta ρ (.int m) ρ1) (hb : EvD tb ρ1 (.int n) ρ2) (hc : 0 < n) : EvD (tOp rMod2 ta tb) ρ (.int (m % n)) ρ2 := ed_I (C := fun _ j => 0 < j) (g := fun i j => .int (i % j)) (g' := fun i j => .int (i % j)) hc ha hb fun _ => .int _
theorem ed_lt (ha : EvD ta ρ (.int m) ρ1) (hb : EvD tb ρ1 (.int n) ρ2) : EvD (tOp rLt2 ta tb) ρ (.bool (decide (m < n))) ρ2 := ed_I0 (g := fun i j => .bl (decide (i < j))) (g' := fun i j => .bool (decide (i < j))) ha hb fun _ => .bl _
theorem ed_le (ha : EvD ta ρ (.int m) ρ1) (hb : EvD tb ρ1 (.int n) ρ2) : EvD (tOp rLe2 ta tb) ρ (.bool (decide (m ≤ n))) ρ2 := ed_I0 (g := fun i j => .bl (decide (i ≤ j))) (g' := fun i j => .bool (decide (i ≤ j))) ha hb fun _ => .bl _
theorem ed_gt (ha : EvD ta ρ (.int m) ρ1) (hb : EvD tb ρ1 (.int n) ρ2) : EvD (tOp rGt2 ta tb) ρ (.bool (decide (n < m))) ρ2 := ed_I0 (g := fun i j => .bl (decide (j < i))) (g' := fun i j => .bool (decide (j < i))) ha hb fun _ => .bl _
theorem ed_ge (ha : EvD ta ρ (.int m) ρ1) (hb : EvD tb ρ1 (.int n) ρ2) : EvD (tOp rGe2 ta tb) ρ (.bool (decide (n ≤ m))) ρ2 := ed_I0 (g := fun i j => .bl (decide (j ≤ i))) (g' := fun i j => .bool (decide (j ≤ i))) ha hb fun _ => .bl _
theorem ed_eqI (ha : EvD ta ρ (.int m) ρ1) (hb : EvD tb ρ1 (.int n) ρ2) : EvD (tOp rEq ta tb) ρ (.bool (decide (m = n))) ρ2 := ed_opV ha hb fun Hk H u v Q e r1 r2 q => by
  cases r1
  cases r2
  refine ⟨rfl, ?_⟩
  have h : decide (V.int m = V.int n) = decide (m = n) := decide_eq_decide.mpr ⟨fun z => V.int.inj z, fun z => by rw [z]⟩
  rw [h]
  exact q _ (.bl _)
theorem ed_neI (ha : EvD ta ρ (.int m) ρ1) (hb : EvD tb ρ1 (.int n) ρ2) : EvD (tOp rNe ta tb) ρ (.bool (!decide (m = n))) ρ2 := ed_opV ha hb fun Hk H u v Q e r1 r2 q => by
  cases r1
  cases r2
  refine ⟨rfl, ?_⟩
  have h : decide (V.int m = V.int n) = decide (m = n) := decide_eq_decide.mpr ⟨fun z => V.int.inj z, fun z => by rw [z]⟩
  rw [h]
  exact q _ (.bl _)
theorem ed_neB (ha : EvD ta ρ (.bool a) ρ1) (hb : EvD tb ρ1 (.bool b) ρ2) : EvD (tOp rNe ta tb) ρ (.bool (!decide (a = b))) ρ2 := ed_opV ha hb fun Hk H u v Q e r1 r2 q => by
  cases r1
  cases r2
  refine ⟨rfl, ?_⟩
  have h : decide (V.bl a = V.bl b) = decide (a = b) := decide_eq_decide.mpr ⟨fun z => V.bl.inj z, fun z => by rw [z]⟩
  rw [h]
  exact q _ (.bl _)
theorem ed_neS {s t : Str} (ha : EvD ta ρ (.str s) ρ1) (hb : EvD tb ρ1 (.str t) ρ2) : EvD (tOp rNe ta tb) ρ (.bool (!decide (s = t))) ρ2 := ed_opV ha hb fun Hk H u v Q e r1 r2 q => by
  cases r1
  cases r2
  refine ⟨rfl, ?_⟩
  have h : decide (V.str s = V.str t) = decide (s = t) := decide_eq_decide.mpr ⟨fun z => V.str.inj z, fun z => by rw [z]⟩
  rw [h]
  exact q _ (.bl _)
/-! ### data compared -/
theorem ed_eqD (ha : EvD ta ρ x ρ1) (hb : EvD tb ρ1 y ρ2) (hx : SeqAt.shaped x = true) (hy : SeqAt.shaped y = true) : EvD (tOp (rEqD K) ta tb) ρ (.bool (PyData.eqv x y)) ρ2 := ed_opV ha hb fun Hk H u v Q e r1 r2 q =>
  ⟨x, y, (r1.ex e).dp, (r2.ex e).dp, hx, hy, q _ (.bl _)⟩
theorem ed_neD (ha : EvD ta ρ x ρ1) (hb : EvD tb ρ1 y ρ2) (hx : SeqAt.shaped x = true) (hy : SeqAt.shaped y = true) : EvD (tOp (rNeD K) ta tb) ρ (.bool (!PyData.eqv x y)) ρ2 := ed_opV ha hb fun Hk H u v Q e r1 r2 q =>
  ⟨x, y, (r1.ex e).dp, (r2.ex e).dp, hx, hy, q _ (.bl _)⟩
theorem ed_inL (ha : EvD ta ρ x ρ1) (hb : EvD tb ρ1 (.list ds) ρ2) (hx : SeqAt.shaped x = true) (hy : SeqAt.shaped (.list ds) = true) : EvD (tOp (rInD K) ta tb) ρ (.bool (ds.any fun z => PyData.eqv z x)) ρ2 := ed_opV ha hb fun Hk H u v Q e r1 r2 q =>
  ⟨x, ds, (r1.ex e).dp, (r2.ex e).dp, hx, hy, q _ (.bl _)⟩
theorem ed_niL (ha : EvD ta ρ x ρ1) (hb : EvD tb ρ1 (.list ds) ρ2) (hx : SeqAt.shaped x = true) (hy : SeqAt.shaped (.list ds) = true) : EvD (tOp (rNotInD K) ta tb) ρ (.bool (!ds.any fun z => PyData.eqv z x)) ρ2 := ed_opV ha hb fun Hk H u v Q e r1 r2 q =>
  ⟨x, ds, (r1.ex e).dp, (r2.ex e).dp, hx, hy, q _ (.bl _)⟩
theorem ed_inT (ha : EvD ta ρ x ρ1) (hb : EvD tb ρ1 (.tuple ds) ρ2) (hx : SeqAt.shaped x = true) (hy : SeqAt.shaped (.tuple ds) = true) : EvD (tOp (rInDT K) ta tb) ρ (.bool (ds.any fun z => PyData.eqv z x)) ρ2 := ed_opV ha hb fun Hk H u v Q e r1 r2 q =>
  ⟨x, ds, (r1.ex e).dp, (r2.ex e).dp, hx, hy, q _ (.bl _)⟩
theorem ed_niT (ha : EvD ta ρ x ρ1) (hb : EvD tb ρ1 (.tuple ds) ρ2) (hx : SeqAt.shaped x = true) (hy : SeqAt.shaped (.tuple ds) = true) : EvD (tOp (rNotInDT K) ta tb) ρ (.bool (!ds.any fun z => PyData.eqv z x)) ρ2 := ed_opV ha hb fun Hk H u v Q e r1 r2 q =>
  ⟨x, ds, (r1.ex e).dp, (r2.ex e).dp, hx, hy, q _ (.bl _)⟩
def isNone : PyData → Bool
  | .none => true
  | _ => false
theorem ed_isN (ha : EvD ta ρ x ρ1) : EvD (tOp rIsNon ta (tC .non)) ρ (.bool (isNone x)) ρ1 := ed_opV ha ed_c_non fun Hk H u v Q e r1 r2 q => by
  cases r2
  refine ⟨rfl, ?_⟩
  cases r1 <;> exact q _ (.bl _)

/-! ### subscripts, slices -/
theorem RpA.atI {Hk : Hp} {xs : List V} {i : Int} (r : RpA Hk xs ds) (h : L2.atI ds i = some d) : ∃ v, L2.atI xs i = some v ∧ Rp Hk v d := by
  unfold L2.atI at h ⊢
  rw [r.length]
  cases e : ixN ds.length i with
  | none =>
    rw [e] at h
    cases h
  | some j =>
    rw [e] at h
    exact r.get h
theorem ed_ixL (ha : EvD ta ρ (.list ds) ρ1) (hb : EvD tb ρ1 (.int m) ρ2) (h : L2.atI ds m = some d) : EvD (tOp (rIxL K) ta tb) ρ d ρ2 := ed_opV ha hb fun Hk H u v Q e r1 r2 q => by
  cases r2
  cases r1 with
  | @lst p xs _ hp r =>
    obtain ⟨w, h1, h2⟩ := r.atI h
    exact ⟨p, xs, m, w, rfl, rfl, .of (e _ _ hp), h1, q w h2⟩
theorem ed_ixT (ha : EvD ta ρ (.tuple ds) ρ1) (hb : EvD tb ρ1 (.int m) ρ2) (h : L2.atI ds m = some d) : EvD (tOp (rIxT K) ta tb) ρ d ρ2 := ed_opV ha hb fun Hk H u v Q e r1 r2 q => by
  cases r2
  cases r1 with
  | @tup p xs _ hp r =>
    obtain ⟨w, h1, h2⟩ := r.atI h
    exact ⟨p, xs, m, w, rfl, rfl, .of (e _ _ hp), h1, q w h2⟩
def cutD (ds : List PyData) (lo hi : Option Int) : List PyData := (ds.drop (HT.sIx ds.length 0 lo)).take (HT.sIx ds.length ds.length hi - HT.sIx ds.length 0 lo)
theorem RpA.cut {Hk : Hp} {xs : List V} (r : RpA Hk xs ds) (lo hi : Option Int) : RpA Hk (cutV xs lo hi) (cutD ds lo hi) := by
  unfold cutV cutD
  rw [r.length]
  exact (r.drop _).take _
/-- the parts of a slice: none, or an int -/
def EvP (to : TO) (ρ : En) (o : Option Int) : Prop := ∀ (Hk : Hp) (σ : St) (H : Hp), At ρ Hk σ H → ∀ Q : Option Int → Hp → Prop, (∀ Hk' H', Go ρ Hk σ H ρ Hk' H' → Q o H') → to σ H Q
theorem ep_no : EvP tNoPart ρ none := fun Hk σ H a Q q => q Hk H (Go.refl a)
theorem ep_int (h : EvD te ρ (.int m) ρ) : EvP (tPart te) ρ (some m) := fun Hk σ H a Q q => h Hk σ H a _ fun v Hk' H' g r => by
  cases r
  exact ⟨m, rfl, q Hk' H' g⟩
theorem en_slL {tl th : TO} {lo hi : Option Int} (ha : EvD ta ρ (.list ds) ρ1) (hl : EvP tl ρ1 lo) (hh : EvP th ρ1 hi) : EvN (tSl (rSlL K) ta tl th) ρ (cutD ds lo hi) ρ1 := fun Hk σ H a Q q =>
  ha Hk σ H a _ fun v Hk1 H1 g1 r => hl Hk1 σ H1 g1.at' _ fun Hk2 H2 g2 => hh Hk2 σ H2 g2.at' _ fun Hk3 H3 g3 => by
    have g := (g1.trans g2).trans g3
    cases r with
    | @lst p xs _ hp r =>
      have e := g2.gr.kk.trans g3.gr.kk
      refine ⟨p, xs, rfl, .of (g3.at'.kh _ _ (e _ _ hp)), fun l hn => ?_⟩
      have nk : Hk3 l = none := g3.at'.kh.none hn
      have n0 : H l = none := by
        cases q0 : H l with
        | none => rfl
        | some u => exact absurd hn (g.gr.live l (by rw [q0]; simp))
      exact q l _ Hk3 _ (g.trans (g3.at'.newH hn)) n0 nk upd_same ((r.ex e).cut lo hi)
theorem ed_slT {tl th : TO} {lo hi : Option Int} (ha : EvD ta ρ (.tuple ds) ρ1) (hl : EvP tl ρ1 lo) (hh : EvP th ρ1 hi) : EvD (tSl (rSlA K) ta tl th) ρ (.tuple (cutD ds lo hi)) ρ1 := fun Hk σ H a Q q =>
  ha Hk σ H a _ fun v Hk1 H1 g1 r => hl Hk1 σ H1 g1.at' _ fun Hk2 H2 g2 => hh Hk2 σ H2 g2.at' _ fun Hk3 H3 g3 => by
    have g := (g1.trans g2).trans g3
    cases r with
    | @tup p xs _ hp r =>
      have e := g2.gr.kk.trans g3.gr.kk
      refine ⟨p, xs, rfl, .of (g3.at'.kh _ _ (e _ _ hp)), fun hw => ?_, fun _ l hn => ?_⟩
      · refine q _ Hk3 H3 g ?_
        have ed : cutD ds lo hi = ds := by
          unfold cutD
          rw [← r.length, hw.1, hw.2, List.drop_zero, Nat.sub_zero, r.length, List.take_length]
        rw [ed]
        exact .tup (e _ _ hp) (r.ex e)
      · have nk : Hk3 l = none := g3.at'.kh.none hn
        have e4 : Ex Hk3 (upd Hk3 l (.tup (cutV xs lo hi))) := Ex.new nk
        exact q _ _ _ (g.trans (g3.at'.new hn)) (.tup upd_same (((r.ex e).cut lo hi).ex e4))

/-! ### displays, concatenations -/
theorem new_tup {Hk : Hp} {σ : St} {H : Hp} {xs : List V} {p : Addr} (g : At ρ1 Hk σ H) (r : RpA Hk xs ds) (hn : H p = none) : Go ρ1 Hk σ H ρ1 (upd Hk p (.tup xs)) (upd H p (.tup xs)) ∧ Rp (upd Hk p (.tup xs)) (.ref p) (.tuple ds) :=
  ⟨g.new hn, .tup upd_same (r.ex (Ex.new (g.kh.none hn)))⟩
theorem ed_tup {ta : TA} (h : EvA ta ρ (ds.map Ar.d) ρ1) (hz : ds.length ≤ sizeLine) : EvD (tTup ta) ρ (.tuple ds) ρ1 := fun Hk σ H a Q q =>
  h Hk σ H a _ fun vs Hk1 H1 g1 r => by
    have r2 := r.data
    refine ⟨by rw [r2.length]; exact hz, fun p hp => ?_⟩
    obtain ⟨g2, r3⟩ := new_tup g1.at' r2 hp
    exact q _ _ _ (g1.trans g2) r3
theorem en_lst {ta : TA} (h : EvA ta ρ (ds.map Ar.d) ρ1) (hz : ds.length ≤ sizeLine) : EvN (tLst ta) ρ ds ρ1 := fun Hk σ H a Q q =>
  h Hk σ H a _ fun vs Hk1 H1 g1 r => by
    have r2 := r.data
    refine ⟨by rw [r2.length]; exact hz, fun l hn => ?_⟩
    have n0 : H l = none := by
      cases q0 : H l with
      | none => rfl
      | some u => exact absurd hn (g1.gr.live l (by rw [q0]; simp))
    exact q l _ Hk1 _ (g1.trans (g1.at'.newH hn)) n0 (g1.at'.kh.none hn) upd_same r2
theorem ed_catT (ha : EvD ta ρ (.tuple ds) ρ1) (hb : EvD tb ρ1 (.tuple es) ρ2) (hz : ds.length + es.length ≤ sizeLine) : EvD (tOp (rCatA K) ta tb) ρ (.tuple (ds ++ es)) ρ2 := ed_op ha hb fun Hk H u v Q e r1 r2 q => by
  cases r1 with
  | @tup p xs _ hp rx =>
    cases r2 with
    | @tup p2 ys _ hp2 ry =>
      refine ⟨p, p2, xs, ys, rfl, rfl, .of (e _ _ hp), .of (e _ _ hp2), by rw [rx.length, ry.length]; exact hz, fun hx => ?_, fun _ hy => ?_, fun _ _ l hn => ?_⟩
      · have hd : ds = [] := List.eq_nil_of_length_eq_zero (by rw [← rx.length, hx]; rfl)
        subst hd
        exact q _ Hk H Gr.refl e (.tup hp2 ry)
      · have hd : es = [] := List.eq_nil_of_length_eq_zero (by rw [← ry.length, hy]; rfl)
        subst hd
        rw [List.append_nil] at q
        exact q _ Hk H Gr.refl e (.tup hp rx)
      · have nk := e.none hn
        exact q _ (upd Hk l (.tup (xs ++ ys))) _ (Gr.new e hn) e.both (.tup upd_same ((rx.append ry).ex (Ex.new nk)))
theorem en_cat (ha : EvD ta ρ (.list ds) ρ1) (hb : EvD tb ρ1 (.list es) ρ2) (hz : ds.length + es.length ≤ sizeLine) : EvN (tOp rCat ta tb) ρ (ds ++ es) ρ2 := fun Hk σ H a Q q =>
  ha Hk σ H a _ fun u Hk1 H1 g1 r1 => hb Hk1 σ H1 g1.at' _ fun v Hk2 H2 g2 r2 => by
    have g := g1.trans g2
    have r1 := r1.ex g2.gr.kk
    cases r1 with
    | @lst p xs _ hp rx =>
      cases r2 with
      | @lst p2 ys _ hp2 ry =>
        refine ⟨p, p2, xs, ys, rfl, rfl, g2.at'.kh _ _ hp, g2.at'.kh _ _ hp2, by rw [rx.length, ry.length]; exact hz, fun l hn => ?_⟩
        have n0 : H l = none := by
          cases q0 : H l with
          | none => rfl
          | some u => exact absurd hn (g.gr.live l (by rw [q0]; simp))
        exact q l _ Hk2 _ (g.trans (g2.at'.newH hn)) n0 (g2.at'.kh.none hn) upd_same (rx.append ry)
theorem RpA.rep {Hk : Hp} {xs : List V} (r : RpA Hk xs ds) : ∀ k : Nat, RpA Hk (List.replicate k xs).flatten (List.replicate k ds).flatten
  | 0 => .nil
  | k + 1 => by
    rw [List.replicate_succ, List.replicate_succ, List.flatten_cons, List.flatten_cons]
    exact r.append (r.rep k)
theorem en_rep (ha : EvD ta ρ (.list ds) ρ1) (hb : EvD tb ρ1 (.int m) ρ2) (h0 : 0 ≤ m) (h1 : m < 2 ^ 63) (hz : ds.length * m.toNat ≤ sizeLine) : EvN (tOp rRep ta tb) ρ (List.replicate m.toNat ds).flatten ρ2 := fun Hk σ H a Q q =>
  ha Hk σ H a _ fun u Hk1 H1 g1 r1 => hb Hk1 σ H1 g1.at' _ fun v Hk2 H2 g2 r2 => by
    have g := g1.trans g2
    have r1 := r1.ex g2.gr.kk
    cases r2
    cases r1 with
    | @lst p xs _ hp rx =>
      refine ⟨p, m, xs, rfl, rfl, g2.at'.kh _ _ hp, by omega, h1, by rw [rx.length]; exact hz, fun l hn => ?_⟩
      have n0 : H l = none := by
        cases q0 : H l with
        | none => rfl
        | some u => exact absurd hn (g.gr.live l (by rw [q0]; simp))
      exact q l _ Hk2 _ (g.trans (g2.at'.newH hn)) n0 (g2.at'.kh.none hn) upd_same (rx.rep _)

/-! ### built-ins of one argument -/
theorem ed_cb {r : List V → Hp → VK → Prop} (h : EvD te ρ x ρ1) (hr : ∀ (Hk H : Hp) (u : V) (Q : VK), Ex Hk H → Rp Hk u x → (∀ w Hk' H', Gr (fun _ => False) Hk H Hk' H' → Ex Hk' H' → Rp Hk' w z → Q w H') → r [u] H Q) : EvD (tCB r (tCons te tNil)) ρ z ρ1 := fun Hk σ H a Q q =>
  h Hk σ H a _ fun u Hk1 H1 g1 r1 => hr Hk1 H1 u Q g1.at'.kh r1 fun w Hk2 H2 g2 e2 r2 => q w Hk2 H2 (g1.trans (g1.at'.go g2 e2)) r2
theorem ed_lenL (h : EvD te ρ (.list ds) ρ1) : EvD (tCB (rLen K) (tCons te tNil)) ρ (.int ds.length) ρ1 := ed_cb h fun Hk H u Q e r q => by
  cases r with
  | @lst p xs _ hp r =>
    refine ⟨p, xs, rfl, .inl (.of (e _ _ hp)), ?_⟩
    rw [r.length]
    exact q _ Hk H Gr.refl e (.int _)
theorem ed_lenT (h : EvD te ρ (.tuple ds) ρ1) : EvD (tCB (rLen K) (tCons te tNil)) ρ (.int ds.length) ρ1 := ed_cb h fun Hk H u Q e r q => by
  cases r with
  | @tup p xs _ hp r =>
    refine ⟨p, xs, rfl, .inr (.of (e _ _ hp)), ?_⟩
    rw [r.length]
    exact q _ Hk H Gr.refl e (.int _)
theorem ed_tupL (h : EvD te ρ (.list ds) ρ1) : EvD (tCB (rTupOf K) (tCons te tNil)) ρ (.tuple ds) ρ1 := ed_cb h fun Hk H u Q e r q => by
  cases r with
  | @lst p xs _ hp r =>
    refine ⟨p, xs, rfl, .inl ⟨.of (e _ _ hp), fun l hn => ?_⟩⟩
    exact q _ (upd Hk l (.tup xs)) _ (Gr.new e hn) e.both (.tup upd_same (r.ex (Ex.new (e.none hn))))
theorem ed_tupT (h : EvD te ρ (.tuple ds) ρ1) : EvD (tCB (rTupOf K) (tCons te tNil)) ρ (.tuple ds) ρ1 := ed_cb h fun Hk H u Q e r q => by
  cases r with
  | @tup p xs _ hp r => exact ⟨p, xs, rfl, .inr ⟨.of (e _ _ hp), q _ Hk H Gr.refl e (.tup hp r)⟩⟩
theorem en_list {l : Bool} (h : EvD te ρ (if l then .list ds else .tuple ds) ρ1) : EvN (tCB (rListOf K) (tCons te tNil)) ρ ds ρ1 := fun Hk σ H a Q q =>
  h Hk σ H a _ fun u Hk1 H1 g1 r1 => by
    have go : ∀ (l : Addr) (xs : List V), RpA Hk1 xs ds → H1 l = none → Q (.ref l) (upd H1 l (.lst xs)) := fun l xs r hn => by
      have n0 : H l = none := by
        cases q0 : H l with
        | none => rfl
        | some u => exact absurd hn (g1.gr.live l (by rw [q0]; simp))
      exact q l _ Hk1 _ (g1.trans (g1.at'.newH hn)) n0 (g1.at'.kh.none hn) upd_same r
    cases l with
    | true =>
      rw [if_pos rfl] at r1
      cases r1 with
      | @lst p xs _ hp r => exact ⟨p, xs, rfl, .inl (.of (g1.at'.kh _ _ hp)), fun l hn => go l xs r hn⟩
    | false =>
      rw [if_neg Bool.false_ne_true] at r1
      cases r1 with
      | @tup p xs _ hp r => exact ⟨p, xs, rfl, .inr (.of (g1.at'.kh _ _ hp)), fun l hn => go l xs r hn⟩
theorem en_listL (h : EvD te ρ (.list ds) ρ1) : EvN (tCB (rListOf K) (tCons te tNil)) ρ ds ρ1 := en_list (l := true) h
theorem en_listT (h : EvD te ρ (.tuple ds) ρ1) : EvN (tCB (rListOf K) (tCons te tNil)) ρ ds ρ1 := en_list (l := false) h
theorem ed_all {bs : List Bool} (h : EvD te ρ (.list (bs.map .bool)) ρ1) : EvD (tCB (rAll K) (tCons te tNil)) ρ (.bool (bs.all id)) ρ1 := ed_cb h fun Hk H u Q e r q => by
  cases r with
  | @lst p xs _ hp r =>
    have ex := r.bls_inv
    subst ex
    exact ⟨p, bs, rfl, .of (e _ _ hp), q _ Hk H Gr.refl e (.bl _)⟩
theorem ed_sum {ns : List Int} (h : EvD te ρ (.list (ns.map .int)) ρ1) : EvD (tCB (rSum K) (tCons te tNil)) ρ (.int ns.sum) ρ1 := ed_cb h fun Hk H u Q e r q => by
  cases r with
  | @lst p xs _ hp r =>
    have ex := r.ints_inv
    subst ex
    exact ⟨p, ns, rfl, .of (e _ _ hp), q _ Hk H Gr.refl e (.int _)⟩
theorem ed_int (h : EvD te ρ (.int m) ρ1) : EvD (tCB rInt1 (tCons te tNil)) ρ (.int m) ρ1 := ed_cb h fun Hk H u Q e r q => by
  cases r
  exact .inl ⟨m, rfl, q _ Hk H Gr.refl e (.int _)⟩
theorem ed_abs (h : EvD te ρ (.int m) ρ1) : EvD (tCB rAbs (tCons te tNil)) ρ (.int (if m < 0 then -m else m)) ρ1 := ed_cb h fun Hk H u Q e r q => by
  cases r
  exact ⟨m, rfl, q _ Hk H Gr.refl e (.int _)⟩

/-! ### fields -/
theorem ed_fld {C : Addr} {fs : List (Str × PyData)} {f : Str} {i : Nat} (h : ρ[i]? = some (some (.obj C fs))) (hc : Cls K C) (hn : NoAttr K C f) (hl : fs.lookup f = some d) : EvD (tFld K (tVar i) f) ρ d ρ := fun Hk σ H a Q q => by
  obtain ⟨v, h1, p, dx, vs, rfl, h2, h3⟩ := a.en i _ h
  obtain ⟨w, w1, w2⟩ := h3.look hl
  exact ⟨_, h1, p, C, dx, vs, w, rfl, a.kh _ _ h2, hc, hn, w1, q w Hk H (Go.refl a) w2⟩
end

/-! ### owned lists are changed -/
section
variable {ρ ρ1 ρ2 ρ3 ρ' : En} {ta tb tc te tx : TE} {d e x y z : PyData} {ds es : List PyData} {K : PySem.W.Frag} {i j k : Nat} {p : Bool}
theorem Go.write {Hk : Hp} {σ : St} {H : Hp} {l : Addr} {xs : List V} (a : At ρ Hk σ H) (h : ρ[i]? = some (some (.ow p ds))) (h1 : σ[i]? = some (some (.ref l))) (r : RpA Hk xs es) : Go ρ Hk σ H (ρ.set i (some (.ow p es))) Hk (upd H l (.lst xs)) := by
  have own : Owns σ ρ l := ⟨i, p, ds, h, h1⟩
  obtain ⟨hk, ys, hy⟩ := a.owned own
  have own' : ∀ b, Owns σ (ρ.set i (some (.ow p es))) b → Owns σ ρ b := fun b hb => by
    obtain ⟨j, q, fs, e1, e2⟩ := hb
    rcases set_inv e1 with ⟨e, _, z⟩ | ⟨_, e1⟩
    · subst e
      rw [h1] at e2
      cases e2
      exact own
    · exact ⟨j, q, fs, e1, e2⟩
  refine ⟨⟨a.kh.up hk, by rw [List.length_set]; exact a.len, fun j s hj => ?_, fun j k q q2 fs gs b e1 e2 e3 e4 => ?_⟩, ⟨Ex.refl _, fun b o hb no => ?_, fun b hb => ?_, fun _ _ _ _ _ z => z⟩, own', fun j pj => ?_⟩
  · rcases set_inv hj with ⟨e, _, e2⟩ | ⟨e, hj⟩
    · subst e
      cases e2
      exact ⟨.ref l, h1, l, xs, rfl, hk, upd_same, r⟩
    · obtain ⟨w, w1, w2⟩ := a.en j s hj
      refine ⟨w, w1, ?_⟩
      cases s with
      | ow q fs =>
        obtain ⟨l2, zs, rfl, k1, k2, k3⟩ := w2
        have ne : l2 ≠ l := fun z => e (a.inj i j p q ds fs l h hj h1 (z ▸ w1))
        exact ⟨l2, zs, rfl, k1, by rw [upd_ne ne]; exact k2, k3⟩
      | kn d => exact w2
      | obj C fs => exact w2
      | objP pp C fs => exact w2
      | raw u => exact w2
      | scr K ns => exact w2
      | dic ks => exact w2
  · have back : ∀ {m : Nat} {q : Bool} {fs : List PyData}, (ρ.set i (some (.ow p es)))[m]? = some (some (.ow q fs)) → ∃ q' fs', ρ[m]? = some (some (.ow q' fs')) := fun {m q fs} hm => by
      rcases set_inv hm with ⟨e, _, z⟩ | ⟨_, hm⟩
      · subst e
        exact ⟨p, ds, h⟩
      · exact ⟨q, fs, hm⟩
    obtain ⟨_, _, f1⟩ := back e1
    obtain ⟨_, _, f2⟩ := back e2
    exact a.inj j k _ _ _ _ b f1 f2 e3 e4
  · have ne : b ≠ l := fun z => no (z ▸ own)
    rw [upd_ne ne]
    exact hb
  · by_cases e : b = l
    · subst e
      rw [upd_same]
      simp
    · rw [upd_ne e]
      exact hb
  · obtain ⟨fs, e1⟩ := pj
    by_cases e : i = j
    · subst e
      rw [h] at e1
      cases e1
      exact ⟨es, List.getElem?_set_self (List.getElem?_eq_some_iff.mp h).1⟩
    · exact ⟨fs, by rw [List.getElem?_set_ne e]; exact e1⟩
/-- xs.append(e) -/
theorem sd_app (h : EvD te ρ d ρ1) (ho : ρ[i]? = some (some (.ow p es))) (hi : ρ1[i]? = some (some (.ow p ds))) (hz : ds.length < sizeLine) : SD (tDrop (tBM K "list" rAppend (tVar i) (tCons te tNil))) ρ (.nx (ρ1.set i (some (.ow p (ds ++ [d]))))) := fun Hk σ H D a q => by
  obtain ⟨v, h1, l, xs, rfl, hk, hl, r⟩ := a.en i _ ho
  refine ⟨.ref l, h1, .inl ⟨rfl, _, SqL.of hl⟩, h Hk σ H a _ fun w Hk1 H1 g1 rw1 => ?_⟩
  obtain ⟨v2, h2, l2, ys, e2, hk2, hl2, r2⟩ := g1.at'.en i _ hi
  rw [h1] at h2
  cases h2
  cases e2
  refine ⟨l, ys, w, rfl, rfl, hl2, by rw [r2.length]; exact hz, ?_⟩
  exact q Hk1 σ _ (g1.trans (Go.write g1.at' hi h1 (r2.append (.one rw1)))).s
/-- xs.extend(e), e a new list -/
theorem sd_ext (h : EvD te ρ (.list es) ρ) (ho : ρ[i]? = some (some (.ow p ds))) (hz : ds.length + es.length ≤ sizeLine) : SD (tDrop (tBM K "list" rExtend (tVar i) (tCons te tNil))) ρ (.nx (ρ.set i (some (.ow p (ds ++ es))))) := fun Hk σ H D a q => by
  obtain ⟨v, h1, l, xs, rfl, hk, hl, r⟩ := a.en i _ ho
  refine ⟨.ref l, h1, .inl ⟨rfl, _, SqL.of hl⟩, h Hk σ H a _ fun w Hk1 H1 g1 rw1 => ?_⟩
  obtain ⟨v2, h2, l2, ys, e2, hk2, hl2, r2⟩ := g1.at'.en i _ ho
  rw [h1] at h2
  cases h2
  cases e2
  cases rw1 with
  | @lst b zs _ hb rz =>
    refine ⟨l, b, ys, zs, rfl, rfl, hl2, g1.at'.kh _ _ hb, by rw [r2.length, rz.length]; exact hz, ?_⟩
    exact q Hk1 σ _ (g1.trans (Go.write g1.at' ho h1 (r2.append rz))).s
end
end DW

set_option maxRecDepth 100000
set_option maxHeartbeats 1000000
/-! enumerate and zip (of two, of three) over lists and tuples in any mix. -/
namespace KX
open PySem PySem.Spec PyProof.Rows L2
def SqA (K : PySem.W.Frag) (l : Bool) (H : Hp) (a : Addr) (xs : List V) : Prop := if l = true then SqL K H a xs else SqT K H a xs
def HasA (l : Bool) (h : Heap) (a : Addr) (its : Array Value) : Prop := if l = true then h.IsList a its else h.IsTuple a its
def ItrA (l : Bool) (h : Heap) (I a : Addr) (i : Nat) : Prop := if l = true then h.IsListIter I a i else h.IsTupleIter I a i
def begO (l : Bool) (a : Addr) : Obj := { cls := .type (if l = true then "list_iterator" else "tuple_iterator"), data := .fields #[.ref a, .int 0 0] }
theorem seqA {X : Cx} {pins : List (Addr × Obj)} {σ : L2.St} {H : Hp} {s : Shared} {l : Bool} {a : Addr} {xs : List V} (I : Inv X pins σ H s) (h : SqA X.K l H a xs) : ∃ its : List Value, Vals xs its ∧ HasA l s.heap a its.toArray ∧ a < s.heap.objs.size := by
  cases l with
  | true =>
    obtain ⟨its, r, p, _⟩ := I.list h
    exact ⟨its, r, p.isList, p.lt⟩
  | false =>
    obtain ⟨its, r, p, _⟩ := I.tuple h
    exact ⟨its, r, p, p.lt⟩
theorem seqA_inj {X : Cx} {pins : List (Addr × Obj)} {σ : L2.St} {H : Hp} {s : Shared} {l : Bool} {a : Addr} {xs ys : List V} (I : Inv X pins σ H s) (h : SqA X.K l H a xs) (h' : SqA X.K l H a ys) : xs = ys := by
  cases l with
  | true => exact I.list_inj h h'
  | false => exact I.tuple_inj h h'
theorem begins_A (l : Bool) (a : Addr) (items : Array Value) : Begins (.ref a) (begO l a) fun h => HasA l h a items := by
  cases l with
  | true => exact begins_list a items
  | false => exact begins_tuple a items
theorem itrA_of {l : Bool} {h : Heap} {I a : Addr} (e : h.get? I = some (begO l a)) : ItrA l h I a 0 := by
  cases l with
  | true => exact ⟨_, e, rfl, rfl⟩
  | false => exact ⟨_, e, rfl, rfl⟩
theorem ItrA.at' {l : Bool} {h h' : Heap} {I a : Addr} {i : Nat} (x : ItrA l h I a i) (k : ∀ o, h.get? I = some o → h'.get? I = some o) : ItrA l h' I a i := by
  cases l with
  | true => exact Heap.IsListIter.at x k
  | false => exact Heap.IsTupleIter.at x k
theorem ItrA.obj {l : Bool} {h : Heap} {I a : Addr} {i : Nat} (x : ItrA l h I a i) : ∃ o, h.get? I = some o ∧ ∀ v, o.data ≠ .cell v := by
  cases l with
  | true =>
    obtain ⟨o, e, _, d⟩ := x
    exact ⟨o, e, fun v q => by rw [d] at q; cases q⟩
  | false =>
    obtain ⟨o, e, _, d⟩ := x
    exact ⟨o, e, fun v q => by rw [d] at q; cases q⟩
theorem draws_A {prog : Program} {w : World} {A : Around} (hh : A.handled = none) (l : Bool) (it a : Addr) (hne : a ≠ it) (items : Array Value) :
    Draws prog w A it [it, a] items.size (fun i v => items[i]? = some v) (fun i h => ItrA l h it a i ∧ HasA l h a items) := by
  cases l with
  | true => exact Draws.list hh it a hne items
  | false => exact Draws.tuple hh it a hne items
/-- a turn that gives a new tuple, from the library's own walk -/
theorem item_of {X : Cx} {pins : List (Addr × Obj)} {σ : L2.St} {H : Hp} {s : Shared} {E : Value → Shared → Prop} {tg : Expr} {it : Addr} {FP wr fp : List Addr} {n i : Nat} {Y : Nat → Heap → Value → Heap → Prop} {St : Nat → Heap → Prop} {vs : List V} {R : V → Hp → Heap → Prop}
    (I : Inv X pins σ H s) (hf : ∀ b ∈ fp, FpOk X pins H b) (W : GoesN X.prog X.w X.A tg it FP wr n Y St) (hwr : ∀ b ∈ wr, b ∈ fp) (hi : i < n) (st : St i s.heap) (hlt : ∀ b ∈ fp, b < s.heap.objs.size) (hz : vs.length ≤ sizeLine)
    (hY : ∀ v h', Y i s.heap v h' → ∃ (T : Addr) (us : List Value), v = .ref T ∧ s.heap.objs.size ≤ T ∧ h'.IsTuple T us.toArray ∧ Vals vs us)
    (hR : ∀ T h', H T = none → St (i + 1) h' → R (.ref T) (upd H T (.tup vs)) h') :
    wpAny (model X.prog X.w) X.A (pyNext (.ref it)) (fun r s1 => ∃ u, r = some u ∧ wpAny (model X.prog X.w) X.A (letOwnedTupleGo tg (.ref it) u) (fun _ s2 => ∃ x H', Inv X pins σ H' s2 ∧ RelV x u ∧ R x H' s2.heap ∧ ∀ b ∈ fp, H' b = none) E s1) E s := by
  refine W.goes i s (fun u s2 => ∃ x H', Inv X pins σ H' s2 ∧ RelV x u ∧ R x H' s2.heap ∧ ∀ b ∈ fp, H' b = none) E hi st fun v h' tk hy st' hk _ => ?_
  obtain ⟨T, us, rfl, hT, ht, r⟩ := hY v h' hy
  have hn : H T = none := I.hok.fresh hT
  have new : ObjOk X.prog X.w (upd H T (.tup vs)) h' T (.tup vs) := ⟨hz, us, r, ht⟩
  have I1 : Inv X pins σ (upd H T (.tup vs)) { s with heap := h', toks := tk } := I.turnedNew (ch := fp) (fun b o hb e => hk b o (fun z => hb (hwr b z)) e) hf hT new
  refine ⟨.ref T, _, I1, rfl, hR T h' hn st', fun b hb => ?_⟩
  rw [upd_ne (Nat.ne_of_lt (Nat.lt_of_lt_of_le (hlt b hb) hT))]
  exact (hf b hb).1
theorem done_of {X : Cx} {pins : List (Addr × Obj)} {σ : L2.St} {H : Hp} {s : Shared} {E : Value → Shared → Prop} {tg : Expr} {it : Addr} {FP wr fp : List Addr} {n : Nat} {Y : Nat → Heap → Value → Heap → Prop} {St : Nat → Heap → Prop}
    (I : Inv X pins σ H s) (hf : ∀ b ∈ fp, FpOk X pins H b) (W : GoesN X.prog X.w X.A tg it FP wr n Y St) (hwr : ∀ b ∈ wr, b ∈ fp) (st : St n s.heap) :
    wpAny (model X.prog X.w) X.A (pyNext (.ref it)) (fun r s1 => r = none ∧ Inv X pins σ H s1) E s := by
  refine W.stops s (fun s1 => Inv X pins σ H s1) E st fun h' tk hk _ => ?_
  exact I.turnedL (ch := fp) (fun b o hb e => hk b o (fun z => hb (hwr b z)) e) hf

/-! ### enumerate -/
def IteA (K : PySem.W.Frag) (l : Bool) (a : Addr) : It :=
  ⟨fun i H => ∃ (xs : List V) (x : V), SqA K l H a xs ∧ xs[i]? = some x, fun i H v H' => ∃ T x, v = .ref T ∧ H T = none ∧ H' = upd H T (.tup [.int (i : Nat), x]) ∧ ∀ xs, SqA K l H a xs → xs[i]? = some x, fun i H => ∃ xs : List V, SqA K l H a xs ∧ xs.length = i⟩
theorem turn_enumA {P : Program} {w : World} {K : PySem.W.Frag} {elts : List Expr} {kk : Nat} {tpos : Pos} {l : Bool} (a e it : Addr) (h1 : e ≠ it) (h2 : a ≠ it) (h3 : a ≠ e) :
    Turn P w K (.Tuple elts kk tpos) (IteA K l a) [e, it] e (fun i h => (∃ old, IsEnum h e it ((0 : Int) + (i : Int)) old) ∧ ItrA l h it a i) where
  mem := by simp
  obj := fun i h st b hb => by
    obtain ⟨⟨old, he⟩, hi⟩ := st
    have e' : b = e ∨ b = it := by simpa using hb
    rcases e' with q | q
    · rw [q]; exact ⟨_, he, fun v q => nomatch q⟩
    · rw [q]; exact hi.obj
  keep := fun i h h' st k => by
    obtain ⟨⟨old, he⟩, hi⟩ := st
    exact ⟨⟨old, k e (by simp) _ he⟩, hi.at' fun o q => k it (by simp) o q⟩
  item := by
    rintro X rfl rfl rfl hc i pins s σ H E I hf ⟨⟨old, he⟩, hi⟩ ⟨xs, x, hq, hx⟩
    obtain ⟨its, rv, hA, hlt⟩ := seqA I hq
    obtain ⟨u, hu, ru⟩ := rv.get hx
    have hin : i < its.toArray.size := by
      have := (List.getElem?_eq_some_iff.mp hu).1
      simpa using this
    have W := GoesN.enumFrom (elts := elts) (x1 := kk) (pos := tpos) 0 (draws_A (prog := X.prog) (w := X.w) (A := X.A.in1) (I.ok.hd hc) l it a h2 its.toArray) e h1 (by simp [h1, Ne.symm h3]) (by simp)
    refine thn (item_of (fp := [e, it]) (vs := [.int (i : Nat), x]) (R := fun x' H' h' => (∃ T, x' = .ref T ∧ H T = none ∧ H' = upd H T (.tup [.int (i : Nat), x])) ∧ (∃ old, IsEnum h' e it ((0 : Int) + ((i + 1 : Nat) : Int)) old) ∧ ItrA l h' it a (i + 1)) I hf W (fun b hb => hb) hin ⟨⟨old, he⟩, hi, hA⟩ (fun b hb => ?_) (by show 2 ≤ sizeLine; decide) (fun v h' hy => ?_) fun T h' hn st => ?_) fun r s1 ⟨v, er, hv⟩ => ⟨v, er, thn hv fun _ s2 ⟨x', H', I2, r2, ⟨⟨T, e1, e2, e3⟩, st2⟩, n2⟩ => ⟨x', H', I2, r2, ⟨T, x, e1, e2, e3, fun ys hy => by rw [seqA_inj I hy hq]; exact hx⟩, st2, n2⟩⟩
    · have e' : b = e ∨ b = it := by simpa using hb
      rcases e' with q | q
      · rw [q]; exact Heap.lt_size he
      · rw [q]
        obtain ⟨o, ho, _⟩ := hi.obj
        exact Heap.lt_size ho
    · obtain ⟨T, t, y, ev, hT, hy, ht⟩ := hy
      have ey : y = u := by
        have h4 : its.toArray[i]? = some u := by simpa using hu
        rw [h4] at hy
        exact (Option.some.inj hy).symm
      subst ey
      exact ⟨T, [.int (0 + (i : Int)) t, y], ev, hT, ht, .cons ⟨t, by rw [Int.zero_add]⟩ (.cons ru .nil)⟩
    · exact ⟨⟨T, rfl, hn, rfl⟩, st.1, st.2.1⟩
  done := by
    rintro X rfl rfl rfl hc i pins s σ H E I hf ⟨⟨old, he⟩, hi⟩ ⟨xs, hq, hl⟩
    obtain ⟨its, rv, hA, hlt⟩ := seqA I hq
    have W := GoesN.enumFrom (elts := elts) (x1 := kk) (pos := tpos) 0 (draws_A (prog := X.prog) (w := X.w) (A := X.A.in1) (I.ok.hd hc) l it a h2 its.toArray) e h1 (by simp [h1, Ne.symm h3]) (by simp)
    have en : its.toArray.size = i := by
      have := rv.length
      simp
      omega
    exact done_of (fp := [e, it]) I hf W (fun b hb => hb) (by rw [en]; exact ⟨⟨old, he⟩, hi, hA⟩)
  self := fun A i s Q E st h => let ⟨⟨_, he⟩, _⟩ := st; wpAny_pyIter_enum he h
theorem meets_enumerate_newA {v : Value} {o : Obj} {Hh : Heap → Prop} (B : Begins v o Hh) :
    Meets (Builtin.«enumerate.__new__» ⟨[.type "enumerate", v], []⟩) (fun _ R s => Hh s.heap ∧
      R (.ok (.ret (.ref (s.heap.push o).objs.size))) { s with heap := (s.heap.push o).push { cls := .type "enumerate", data := .fields #[.none, .bool false, .ref s.heap.objs.size, rawInt 0, .none, .none] } }) :=
  .of_wp fun prog w A R s h => by
    obtain ⟨hp, g, d, tk, os⟩ := s
    obtain ⟨h1, h⟩ := h
    have hsub := sub_enumerate
    have q1 : ∀ {A' : Around} {E : Value → Shared → Prop} {Q : Value → Shared → Prop}, Q (.ref hp.objs.size) ⟨hp.push o, g, d, tk, os⟩ → wpAny (model prog w) A' (pyIter v) Q E ⟨hp, g, d, tk, os⟩ :=
      fun q => B.iter prog w _ _ ⟨hp, g, d, tk, os⟩ _ h1 q
    wp_walk using q1
    refine wpAny_stack_any fun st => wpAny_pure ?_
    split
    · rename_i c _ _ _ _ _
      cases (c == Value.type "enumerate")
      · wp_walk using q1
        exact ⟨_, rfl, h⟩
      · wp_walk using q1
        exact ⟨_, rfl, h⟩
    · wp_walk using q1
      exact ⟨_, rfl, h⟩
theorem enum_beginsA {prog : Program} {w : World} {A : Around} {E : Value → Shared → Prop} {s : Shared} {v : Value} {o : Obj} {Hh : Heap → Prop} {Q : Value → Shared → Prop} (B : Begins v o Hh) (h1 : Hh s.heap)
    (h : ∀ h', IsEnum h' (s.heap.objs.size + 1) s.heap.objs.size 0 .none → h'.get? s.heap.objs.size = some o → (∀ b u, s.heap.get? b = some u → h'.get? b = some u) → Q (.ref (s.heap.objs.size + 1)) { s with heap := h' }) :
    wpAny (model prog w) A (call (.type "enumerate") [v]) Q E s := by
  refine callType_new F.called_enumerate (by decide) (F.typeCall_enumerate_1 _) (F.newCall_enumerate_1 _) (fun obj => F.args_object_init_2 obj _) F.entry_enumerate_new
    (meets_enumerate_newA B) ⟨h1, ?_⟩
  have hz : (s.heap.push o).objs.size = s.heap.objs.size + 1 := Heap.size_push ..
  show _ ∧ _
  rw [hz]
  have he : IsEnum ((s.heap.push o).push { cls := .type "enumerate", data := .fields #[.none, .bool false, .ref s.heap.objs.size, rawInt 0, .none, .none] }) (s.heap.objs.size + 1) s.heap.objs.size 0 .none := by
    have := Heap.get?_push_size (s.heap.push o) (o := { cls := .type "enumerate", data := .fields #[.none, .bool false, .ref s.heap.objs.size, rawInt 0, .none, .none] }) rfl
    rw [hz] at this
    exact this
  exact ⟨⟨_, he, rfl⟩, h _ he (Heap.get?_push_of_some _ (Heap.get?_push_size _ B.free)) fun b u x => Heap.get?_push_of_some _ (Heap.get?_push_of_some _ x)⟩
def iEnumA (K : PySem.W.Frag) (ta : TA) : TI := fun σ H R => ta σ H fun vs H1 => ∃ (l : Bool) (a : Addr) (xs : List V), vs = [.ref a] ∧ SqA K l H1 a xs ∧ R (IteA K l a) H1
theorem pi_enumA {X : Cx} {e : Expr} {ta : TA} {p pos tpos : Pos} {elts : List Expr} {kk : Nat} (hg : Gl X "enumerate") (hm : X.mg "enumerate" = none) (ha : PA X [e] ta) (hs : starEach [e] X.env = [(false, eval e X.env)] := by rfl) :
    PI X (.Tuple elts kk tpos) (.Call (.Name "enumerate" p) [e] [] pos) (iEnumA X.K ta) := by
  refine ⟨fun pins s σ H R I h => ?_⟩
  refine Call_ (ld_blt I hg hm boot_enumerate (PyProof.Rows.callWith_type1 (thn (ha.run pos pins s σ H _ I h) fun us s1 ⟨vs, H1, I1, r1, q1⟩ => ?_) hs rfl))
  obtain ⟨l, a, xs, ex, hq, q⟩ := q1
  subst ex
  cases r1 with
  | cons r rr =>
    cases rr
    cases r
    obtain ⟨its, rv, hA, hlt⟩ := seqA I1 hq
    refine enum_beginsA (begins_A l a its.toArray) hA fun h' he hit hk => wpAny_pyIter_enum he ?_
    have I2 : Inv X pins σ H1 { s1 with heap := h' } := I1.kept (t' := s1.toks) hk
    refine ⟨s1.heap.objs.size + 1, [s1.heap.objs.size + 1, s1.heap.objs.size], _, _, H1, rfl, I2, turn_enumA (l := l) a (s1.heap.objs.size + 1) s1.heap.objs.size (Nat.succ_ne_self _) (Nat.ne_of_lt hlt) (Nat.ne_of_lt (Nat.lt_succ_of_lt hlt)), ⟨⟨.none, he⟩, itrA_of hit⟩, fun b hb => ?_, q⟩
    have hle : s1.heap.objs.size ≤ b := by
      have e' : b = s1.heap.objs.size + 1 ∨ b = s1.heap.objs.size := by simpa using hb
      rcases e' with z | z
      · rw [z]; exact Nat.le_succ _
      · rw [z]; exact Nat.le_refl _
    exact I1.fpOk hle (I1.hok.fresh hle)
end KX

set_option maxRecDepth 100000
set_option maxHeartbeats 1000000
namespace KX
open PySem PySem.Spec PyProof.Rows L2
/-! ### zip of three -/
def Itz3 (K : PySem.W.Frag) (l m n : Bool) (a b c : Addr) : It :=
  ⟨fun i H => ∃ (xs ys zs : List V) (x y z : V), SqA K l H a xs ∧ SqA K m H b ys ∧ SqA K n H c zs ∧ xs[i]? = some x ∧ ys[i]? = some y ∧ zs[i]? = some z,
    fun i H v H' => ∃ T x y z, v = .ref T ∧ H T = none ∧ H' = upd H T (.tup [x, y, z]) ∧ (∀ xs, SqA K l H a xs → xs[i]? = some x) ∧ (∀ ys, SqA K m H b ys → ys[i]? = some y) ∧ ∀ zs, SqA K n H c zs → zs[i]? = some z,
    fun i H => ∃ xs ys zs : List V, SqA K l H a xs ∧ SqA K m H b ys ∧ SqA K n H c zs ∧ min (min xs.length ys.length) zs.length = i⟩
theorem turn_zip3 {P : Program} {w : World} {K : PySem.W.Frag} {elts : List Expr} {kk : Nat} {tpos : Pos} {l m n : Bool} {a b c z TI TO i1 i2 i3 : Addr} (D : ZipSep3 z TI TO i1 i2 i3 [i1, a] [i2, b] [i3, c]) (na : a ≠ i1) (nb : b ≠ i2) (nc : c ≠ i3) :
    Turn P w K (.Tuple elts kk tpos) (Itz3 K l m n a b c) [z, TI, TO, i1, i2, i3] z (fun i h => IsZip h z TI TO .none ∧ IsTupOf3 h TI (.ref i1) (.ref i2) (.ref i3) ∧ (∃ x y u, IsTupOf3 h TO x y u) ∧ ItrA l h i1 a i ∧ ItrA m h i2 b i ∧ ItrA n h i3 c i) where
  mem := by simp
  obj := fun i h st d hd => by
    obtain ⟨hz, hTI, ⟨x, y, u, hTO⟩, h1, h2, h3⟩ := st
    have e' : d = z ∨ d = TI ∨ d = TO ∨ d = i1 ∨ d = i2 ∨ d = i3 := by simpa using hd
    rcases e' with q | q | q | q | q | q
    · rw [q]; exact ⟨_, hz, fun v q => nomatch q⟩
    · rw [q]; exact ⟨_, hTI, fun v q => nomatch q⟩
    · rw [q]; exact ⟨_, hTO, fun v q => nomatch q⟩
    · rw [q]; exact h1.obj
    · rw [q]; exact h2.obj
    · rw [q]; exact h3.obj
  keep := fun i h h' st k => by
    obtain ⟨hz, hTI, ⟨x, y, u, hTO⟩, h1, h2, h3⟩ := st
    exact ⟨k z (by simp) _ hz, k TI (by simp) _ hTI, ⟨x, y, u, k TO (by simp) _ hTO⟩, h1.at' fun o q => k i1 (by simp) o q, h2.at' fun o q => k i2 (by simp) o q, h3.at' fun o q => k i3 (by simp) o q⟩
  item := by
    rintro X rfl rfl rfl hc i pins s σ H E I hf ⟨hz, hTI, ⟨x0, y0, u0, hTO⟩, h1, h2, h3⟩ ⟨xs, ys, zs, x, y, t, hqx, hqy, hqz, hx, hy, ht⟩
    obtain ⟨its, rv, hA, la⟩ := seqA I hqx
    obtain ⟨its2, rv2, hA2, lb⟩ := seqA I hqy
    obtain ⟨its3, rv3, hA3, lc⟩ := seqA I hqz
    obtain ⟨u, hu, ru⟩ := rv.get hx
    obtain ⟨u2, hu2, ru2⟩ := rv2.get hy
    obtain ⟨u3, hu3, ru3⟩ := rv3.get ht
    have hh := I.ok.hd hc
    have hin : i < min (min its.toArray.size its2.toArray.size) its3.toArray.size := by
      have q1 := (List.getElem?_eq_some_iff.mp hu).1
      have q2 := (List.getElem?_eq_some_iff.mp hu2).1
      have q3 := (List.getElem?_eq_some_iff.mp hu3).1
      simp
      omega
    have W := GoesN.zip3 (elts := elts) (x1 := kk) (pos := tpos) D (draws_A (prog := X.prog) (w := X.w) (A := X.A.in1) hh l i1 a na its.toArray) (draws_A (prog := X.prog) (w := X.w) (A := X.A.in1) hh m i2 b nb its2.toArray) (draws_A (prog := X.prog) (w := X.w) (A := X.A.in1) hh n i3 c nc its3.toArray)
    refine thn (item_of (fp := [z, TI, TO, i1, i2, i3]) (vs := [x, y, t]) (R := fun x' H' h' => (∃ T, x' = .ref T ∧ H T = none ∧ H' = upd H T (.tup [x, y, t])) ∧ (IsZip h' z TI TO .none ∧ IsTupOf3 h' TI (.ref i1) (.ref i2) (.ref i3) ∧ (∃ x y u, IsTupOf3 h' TO x y u) ∧ ItrA l h' i1 a (i + 1) ∧ ItrA m h' i2 b (i + 1) ∧ ItrA n h' i3 c (i + 1))) I hf W (fun d hd => ?_) hin ⟨hz, hTI, ⟨_, _, _, hTO⟩, ⟨h1, hA⟩, ⟨h2, hA2⟩, ⟨h3, hA3⟩⟩ (fun d hd => ?_) (by show 3 ≤ sizeLine; decide) (fun v h' hy => ?_) fun T h' hn st => ?_) fun r s1 ⟨v, er, hv⟩ => ⟨v, er, thn hv fun _ s2 ⟨x', H', I2, r2, ⟨⟨T, e1, e2, e3⟩, st2⟩, n2⟩ => ⟨x', H', I2, r2, ⟨T, x, y, t, e1, e2, e3, fun q hq => by rw [seqA_inj I hq hqx]; exact hx, fun q hq => by rw [seqA_inj I hq hqy]; exact hy, fun q hq => by rw [seqA_inj I hq hqz]; exact ht⟩, st2, n2⟩⟩
    · have e' : d = z ∨ d = TO ∨ d = i1 ∨ d = i2 ∨ d = i3 := by simpa using hd
      rcases e' with q | q | q | q | q <;> simp [q]
    · have e' : d = z ∨ d = TI ∨ d = TO ∨ d = i1 ∨ d = i2 ∨ d = i3 := by simpa using hd
      rcases e' with q | q | q | q | q | q
      · rw [q]; exact Heap.lt_size hz
      · rw [q]; exact Heap.lt_size hTI
      · rw [q]; exact Heap.lt_size hTO
      · rw [q]; obtain ⟨o, ho, _⟩ := h1.obj; exact Heap.lt_size ho
      · rw [q]; obtain ⟨o, ho, _⟩ := h2.obj; exact Heap.lt_size ho
      · rw [q]; obtain ⟨o, ho, _⟩ := h3.obj; exact Heap.lt_size ho
    · obtain ⟨T, p, q, r, ev, hT, hp, hq, hr, ht⟩ := hy
      have g1 : its.toArray[i]? = some u := by simpa using hu
      have g2 : its2.toArray[i]? = some u2 := by simpa using hu2
      have g3 : its3.toArray[i]? = some u3 := by simpa using hu3
      rw [g1] at hp
      rw [g2] at hq
      rw [g3] at hr
      cases hp
      cases hq
      cases hr
      exact ⟨T, [u, u2, u3], ev, hT, ht, .cons ru (.cons ru2 (.cons ru3 .nil))⟩
    · exact ⟨⟨T, rfl, hn, rfl⟩, st.1, st.2.1, st.2.2.1, st.2.2.2.1.1, st.2.2.2.2.1.1, st.2.2.2.2.2.1⟩
  done := by
    rintro X rfl rfl rfl hc i pins s σ H E I hf ⟨hz, hTI, ⟨x0, y0, u0, hTO⟩, h1, h2, h3⟩ ⟨xs, ys, zs, hqx, hqy, hqz, he⟩
    obtain ⟨its, rv, hA, la⟩ := seqA I hqx
    obtain ⟨its2, rv2, hA2, lb⟩ := seqA I hqy
    obtain ⟨its3, rv3, hA3, lc⟩ := seqA I hqz
    have hh := I.ok.hd hc
    have W := GoesN.zip3 (elts := elts) (x1 := kk) (pos := tpos) D (draws_A (prog := X.prog) (w := X.w) (A := X.A.in1) hh l i1 a na its.toArray) (draws_A (prog := X.prog) (w := X.w) (A := X.A.in1) hh m i2 b nb its2.toArray) (draws_A (prog := X.prog) (w := X.w) (A := X.A.in1) hh n i3 c nc its3.toArray)
    have en : min (min its.toArray.size its2.toArray.size) its3.toArray.size = i := by
      have q1 := rv.length
      have q2 := rv2.length
      have q3 := rv3.length
      simp
      omega
    exact done_of (fp := [z, TI, TO, i1, i2, i3]) I hf W (fun d hd => by
      have e' : d = z ∨ d = TO ∨ d = i1 ∨ d = i2 ∨ d = i3 := by simpa using hd
      rcases e' with q | q | q | q | q <;> simp [q]) (by rw [en]; exact ⟨hz, hTI, ⟨_, _, _, hTO⟩, ⟨h1, hA⟩, ⟨h2, hA2⟩, ⟨h3, hA3⟩⟩)
  self := fun A i s Q E st h => wpAny_pyIter_zip st.1 h
def iZip3 (K : PySem.W.Frag) (ta : TA) : TI := fun σ H R => ta σ H fun vs H1 => ∃ (l m n : Bool) (a b c : Addr) (xs ys zs : List V), vs = [.ref a, .ref b, .ref c] ∧ SqA K l H1 a xs ∧ SqA K m H1 b ys ∧ SqA K n H1 c zs ∧ R (Itz3 K l m n a b c) H1
theorem zip3_go {X : Cx} {pins : List (Addr × Obj)} {σ : L2.St} {H1 : Hp} {s1 : Shared} {E : Value → Shared → Prop} {l m n : Bool} {a b c : Addr} {xs ys zs : List V} {Q : Value → Shared → Prop} (I1 : Inv X pins σ H1 s1) (hqx : SqA X.K l H1 a xs) (hqy : SqA X.K m H1 b ys) (hqz : SqA X.K n H1 c zs)
    (h : ∀ (it : Addr) (fp : List Addr) (tn : Nat → Heap → Prop) (s2 : Shared), Inv X pins σ H1 s2 → (∀ (tg : Expr), (∃ elts kk tpos, tg = .Tuple elts kk tpos) → Turn X.prog X.w X.K tg (Itz3 X.K l m n a b c) fp it tn) → tn 0 s2.heap → (∀ b ∈ fp, FpOk X pins H1 b) → (∃ TI TO, IsZip s2.heap it TI TO .none) → Q (.ref it) s2) :
    wpAny (model X.prog X.w) X.A (call (.type "zip") [.ref a, .ref b, .ref c]) Q E s1 := by
  obtain ⟨its, rv, hA, la⟩ := seqA I1 hqx
  obtain ⟨its2, rv2, hA2, lb⟩ := seqA I1 hqy
  obtain ⟨its3, rv3, hA3, lc⟩ := seqA I1 hqz
  refine zip_begins3 (begins_A l a its.toArray) (begins_A m b its2.toArray) (begins_A n c its3.toArray) hA hA2 hA3 fun h' hz hTI hTO h1 h2 h3 hsz hk => ?_
  have I2 : Inv X pins σ H1 { s1 with heap := h' } := I1.kept (t' := s1.toks) hk
  have D : ZipSep3 (s1.heap.objs.size + 5) (s1.heap.objs.size + 3) (s1.heap.objs.size + 4) s1.heap.objs.size (s1.heap.objs.size + 1) (s1.heap.objs.size + 2) [s1.heap.objs.size, a] [s1.heap.objs.size + 1, b] [s1.heap.objs.size + 2, c] :=
    zip_sep3 (fp1 := [a]) (fp2 := [b]) (fp3 := [c]) (fun d hd => by simp at hd; rw [hd]; exact la) (fun d hd => by simp at hd; rw [hd]; exact lb) (fun d hd => by simp at hd; rw [hd]; exact lc)
  have na : a ≠ s1.heap.objs.size := Nat.ne_of_lt la
  have nb : b ≠ s1.heap.objs.size + 1 := Nat.ne_of_lt (Nat.lt_succ_of_lt lb)
  have nc : c ≠ s1.heap.objs.size + 2 := Nat.ne_of_lt (Nat.lt_succ_of_lt (Nat.lt_succ_of_lt lc))
  refine h (s1.heap.objs.size + 5) [s1.heap.objs.size + 5, s1.heap.objs.size + 3, s1.heap.objs.size + 4, s1.heap.objs.size, s1.heap.objs.size + 1, s1.heap.objs.size + 2] (fun i h => IsZip h (s1.heap.objs.size + 5) (s1.heap.objs.size + 3) (s1.heap.objs.size + 4) .none ∧ IsTupOf3 h (s1.heap.objs.size + 3) (.ref s1.heap.objs.size) (.ref (s1.heap.objs.size + 1)) (.ref (s1.heap.objs.size + 2)) ∧ (∃ x y z, IsTupOf3 h (s1.heap.objs.size + 4) x y z) ∧ ItrA l h s1.heap.objs.size a i ∧ ItrA m h (s1.heap.objs.size + 1) b i ∧ ItrA n h (s1.heap.objs.size + 2) c i) { s1 with heap := h' } I2 (fun tg ⟨elts, kk, tpos, e⟩ => by rw [e]; exact turn_zip3 D na nb nc) ⟨hz, hTI, ⟨_, _, _, hTO⟩, itrA_of h1, itrA_of h2, itrA_of h3⟩ (fun d hd => ?_) ⟨_, _, hz⟩
  have hle : s1.heap.objs.size ≤ d := by
    have e' : d = s1.heap.objs.size + 5 ∨ d = s1.heap.objs.size + 3 ∨ d = s1.heap.objs.size + 4 ∨ d = s1.heap.objs.size ∨ d = s1.heap.objs.size + 1 ∨ d = s1.heap.objs.size + 2 := by simpa using hd
    rcases e' with q | q | q | q | q | q <;> rw [q] <;> first | exact Nat.le_refl _ | exact Nat.le_add_right _ _
  exact I1.fpOk hle (I1.hok.fresh hle)
theorem pi_zip3 {X : Cx} {e e2 e3 : Expr} {ta : TA} {p pos tpos : Pos} {elts : List Expr} {kk : Nat} (hg : Gl X "zip") (hm : X.mg "zip" = none) (ha : PA X [e, e2, e3] ta)
    (hs : starEach [e, e2, e3] X.env = (false, eval e X.env) :: starEach [e2, e3] X.env := by rfl) (hpl : (backTo pos (starEach [e2, e3] X.env)).any (·.1) = false := by rfl) :
    PI X (.Tuple elts kk tpos) (.Call (.Name "zip" p) [e, e2, e3] [] pos) (iZip3 X.K ta) := by
  refine ⟨fun pins s σ H R I h => ?_⟩
  refine Call_ (ld_blt I hg hm PyProof.Rows.boot_zip (PyProof.Rows.callWith_type1 (thn (ha.run pos pins s σ H _ I h) fun us s1 ⟨vs, H1, I1, r1, q1⟩ => ?_) hs hpl))
  obtain ⟨l, m, n, a, b, c, xs, ys, zs, ex, hqx, hqy, hqz, q⟩ := q1
  subst ex
  obtain rfl : us = [.ref a, .ref b, .ref c] := by
    cases r1 with
    | cons p1 r1 =>
      cases r1 with
      | cons p2 r1 =>
        cases r1 with
        | cons p3 r1 =>
          cases r1
          cases p1
          cases p2
          cases p3
          rfl
  exact zip3_go I1 hqx hqy hqz fun it fp tn s2 I2 T st f2 ⟨TI, TO, hz⟩ => wpAny_pyIter_zip hz ⟨it, fp, tn, _, H1, rfl, I2, T _ ⟨_, _, _, rfl⟩, st, f2, q⟩

/-! ### zip of two -/
def Itz2 (K : PySem.W.Frag) (l m : Bool) (a b : Addr) : It :=
  ⟨fun i H => ∃ (xs ys : List V) (x y : V), SqA K l H a xs ∧ SqA K m H b ys ∧ xs[i]? = some x ∧ ys[i]? = some y,
    fun i H v H' => ∃ T x y, v = .ref T ∧ H T = none ∧ H' = upd H T (.tup [x, y]) ∧ (∀ xs, SqA K l H a xs → xs[i]? = some x) ∧ (∀ ys, SqA K m H b ys → ys[i]? = some y),
    fun i H => ∃ xs ys : List V, SqA K l H a xs ∧ SqA K m H b ys ∧ min xs.length ys.length = i⟩
theorem turn_zip2 {P : Program} {w : World} {K : PySem.W.Frag} {elts : List Expr} {kk : Nat} {tpos : Pos} {l m : Bool} {a b z TI TO i1 i2 : Addr} (D : ZipSep2 z TI TO i1 i2 [i1, a] [i2, b]) (na : a ≠ i1) (nb : b ≠ i2) :
    Turn P w K (.Tuple elts kk tpos) (Itz2 K l m a b) [z, TI, TO, i1, i2] z (fun i h => IsZip h z TI TO .none ∧ IsTupOf2 h TI (.ref i1) (.ref i2) ∧ (∃ x y, IsTupOf2 h TO x y) ∧ ItrA l h i1 a i ∧ ItrA m h i2 b i) where
  mem := by simp
  obj := fun i h st d hd => by
    obtain ⟨hz, hTI, ⟨x, y, hTO⟩, h1, h2⟩ := st
    have e' : d = z ∨ d = TI ∨ d = TO ∨ d = i1 ∨ d = i2 := by simpa using hd
    rcases e' with q | q | q | q | q
    · rw [q]; exact ⟨_, hz, fun v q => nomatch q⟩
    · rw [q]; exact ⟨_, hTI, fun v q => nomatch q⟩
    · rw [q]; exact ⟨_, hTO, fun v q => nomatch q⟩
    · rw [q]; exact h1.obj
    · rw [q]; exact h2.obj
  keep := fun i h h' st k => by
    obtain ⟨hz, hTI, ⟨x, y, hTO⟩, h1, h2⟩ := st
    exact ⟨k z (by simp) _ hz, k TI (by simp) _ hTI, ⟨x, y, k TO (by simp) _ hTO⟩, h1.at' fun o q => k i1 (by simp) o q, h2.at' fun o q => k i2 (by simp) o q⟩
  item := by
    rintro X rfl rfl rfl hc i pins s σ H E I hf ⟨hz, hTI, ⟨x0, y0, hTO⟩, h1, h2⟩ ⟨xs, ys, x, y, hqx, hqy, hx, hy⟩
    obtain ⟨its, rv, hA, la⟩ := seqA I hqx
    obtain ⟨its2, rv2, hA2, lb⟩ := seqA I hqy
    obtain ⟨u, hu, ru⟩ := rv.get hx
    obtain ⟨u2, hu2, ru2⟩ := rv2.get hy
    have hh := I.ok.hd hc
    have hin : i < min its.toArray.size its2.toArray.size := by
      have q1 := (List.getElem?_eq_some_iff.mp hu).1
      have q2 := (List.getElem?_eq_some_iff.mp hu2).1
      simp
      omega
    have W := GoesN.zip2 (elts := elts) (x1 := kk) (pos := tpos) D (draws_A (prog := X.prog) (w := X.w) (A := X.A.in1) hh l i1 a na its.toArray) (draws_A (prog := X.prog) (w := X.w) (A := X.A.in1) hh m i2 b nb its2.toArray)
    refine thn (item_of (fp := [z, TI, TO, i1, i2]) (vs := [x, y]) (R := fun x' H' h' => (∃ T, x' = .ref T ∧ H T = none ∧ H' = upd H T (.tup [x, y])) ∧ (IsZip h' z TI TO .none ∧ IsTupOf2 h' TI (.ref i1) (.ref i2) ∧ (∃ x y, IsTupOf2 h' TO x y) ∧ ItrA l h' i1 a (i + 1) ∧ ItrA m h' i2 b (i + 1))) I hf W (fun d hd => ?_) hin ⟨hz, hTI, ⟨_, _, hTO⟩, ⟨h1, hA⟩, ⟨h2, hA2⟩⟩ (fun d hd => ?_) (by show 2 ≤ sizeLine; decide) (fun v h' hy => ?_) fun T h' hn st => ?_) fun r s1 ⟨v, er, hv⟩ => ⟨v, er, thn hv fun _ s2 ⟨x', H', I2, r2, ⟨⟨T, e1, e2, e3⟩, st2⟩, n2⟩ => ⟨x', H', I2, r2, ⟨T, x, y, e1, e2, e3, fun q hq => by rw [seqA_inj I hq hqx]; exact hx, fun q hq => by rw [seqA_inj I hq hqy]; exact hy⟩, st2, n2⟩⟩
    · have e' : d = z ∨ d = TO ∨ d = i1 ∨ d = i2 := by simpa using hd
      rcases e' with q | q | q | q <;> simp [q]
    · have e' : d = z ∨ d = TI ∨ d = TO ∨ d = i1 ∨ d = i2 := by simpa using hd
      rcases e' with q | q | q | q | q
      · rw [q]; exact Heap.lt_size hz
      · rw [q]; exact Heap.lt_size hTI
      · rw [q]; exact Heap.lt_size hTO
      · rw [q]; obtain ⟨o, ho, _⟩ := h1.obj; exact Heap.lt_size ho
      · rw [q]; obtain ⟨o, ho, _⟩ := h2.obj; exact Heap.lt_size ho
    · obtain ⟨T, p, q, ev, hT, hp, hq, ht⟩ := hy
      have g1 : its.toArray[i]? = some u := by simpa using hu
      have g2 : its2.toArray[i]? = some u2 := by simpa using hu2
      rw [g1] at hp
      rw [g2] at hq
      cases hp
      cases hq
      exact ⟨T, [u, u2], ev, hT, ht, .cons ru (.cons ru2 .nil)⟩
    · exact ⟨⟨T, rfl, hn, rfl⟩, st.1, st.2.1, st.2.2.1, st.2.2.2.1.1, st.2.2.2.2.1⟩
  done := by
    rintro X rfl rfl rfl hc i pins s σ H E I hf ⟨hz, hTI, ⟨x0, y0, hTO⟩, h1, h2⟩ ⟨xs, ys, hqx, hqy, he⟩
    obtain ⟨its, rv, hA, la⟩ := seqA I hqx
    obtain ⟨its2, rv2, hA2, lb⟩ := seqA I hqy
    have hh := I.ok.hd hc
    have W := GoesN.zip2 (elts := elts) (x1 := kk) (pos := tpos) D (draws_A (prog := X.prog) (w := X.w) (A := X.A.in1) hh l i1 a na its.toArray) (draws_A (prog := X.prog) (w := X.w) (A := X.A.in1) hh m i2 b nb its2.toArray)
    have en : min its.toArray.size its2.toArray.size = i := by
      have q1 := rv.length
      have q2 := rv2.length
      simp
      omega
    exact done_of (fp := [z, TI, TO, i1, i2]) I hf W (fun d hd => by
      have e' : d = z ∨ d = TO ∨ d = i1 ∨ d = i2 := by simpa using hd
      rcases e' with q | q | q | q <;> simp [q]) (by rw [en]; exact ⟨hz, hTI, ⟨_, _, hTO⟩, ⟨h1, hA⟩, ⟨h2, hA2⟩⟩)
  self := fun A i s Q E st h => wpAny_pyIter_zip st.1 h
def iZip2 (K : PySem.W.Frag) (ta : TA) : TI := fun σ H R => ta σ H fun vs H1 => ∃ (l m : Bool) (a b : Addr) (xs ys : List V), vs = [.ref a, .ref b] ∧ SqA K l H1 a xs ∧ SqA K m H1 b ys ∧ R (Itz2 K l m a b) H1
theorem pi_zip2 {X : Cx} {e e2 : Expr} {ta : TA} {p pos tpos : Pos} {elts : List Expr} {kk : Nat} (hg : Gl X "zip") (hm : X.mg "zip" = none) (ha : PA X [e, e2] ta)
    (hs : starEach [e, e2] X.env = (false, eval e X.env) :: starEach [e2] X.env := by rfl) (hpl : (backTo pos (starEach [e2] X.env)).any (·.1) = false := by rfl) :
    PI X (.Tuple elts kk tpos) (.Call (.Name "zip" p) [e, e2] [] pos) (iZip2 X.K ta) := by
  refine ⟨fun pins s σ H R I h => ?_⟩
  refine Call_ (ld_blt I hg hm PyProof.Rows.boot_zip (PyProof.Rows.callWith_type1 (thn (ha.run pos pins s σ H _ I h) fun us s1 ⟨vs, H1, I1, r1, q1⟩ => ?_) hs hpl))
  obtain ⟨l, m, a, b, xs, ys, ex, hqx, hqy, q⟩ := q1
  subst ex
  obtain rfl : us = [.ref a, .ref b] := by
    cases r1 with
    | cons p1 r1 =>
      cases r1 with
      | cons p2 r1 =>
        cases r1
        cases p1
        cases p2
        rfl
  obtain ⟨its, rv, hA, la⟩ := seqA I1 hqx
  obtain ⟨its2, rv2, hA2, lb⟩ := seqA I1 hqy
  refine zip_begins2 (begins_A l a its.toArray) (begins_A m b its2.toArray) hA hA2 fun h' hz hTI hTO h1 h2 hsz hk => wpAny_pyIter_zip hz ?_
  have I2 : Inv X pins σ H1 { s1 with heap := h' } := I1.kept (t' := s1.toks) hk
  have D : ZipSep2 (s1.heap.objs.size + 4) (s1.heap.objs.size + 2) (s1.heap.objs.size + 3) s1.heap.objs.size (s1.heap.objs.size + 1) [s1.heap.objs.size, a] [s1.heap.objs.size + 1, b] :=
    zip_sep2 (fp1 := [a]) (fp2 := [b]) (fun d hd => by simp at hd; rw [hd]; exact la) (fun d hd => by simp at hd; rw [hd]; exact lb)
  have na : a ≠ s1.heap.objs.size := Nat.ne_of_lt la
  have nb : b ≠ s1.heap.objs.size + 1 := Nat.ne_of_lt (Nat.lt_succ_of_lt lb)
  refine ⟨s1.heap.objs.size + 4, [s1.heap.objs.size + 4, s1.heap.objs.size + 2, s1.heap.objs.size + 3, s1.heap.objs.size, s1.heap.objs.size + 1], _, _, H1, rfl, I2, turn_zip2 D na nb, ⟨hz, hTI, ⟨_, _, hTO⟩, itrA_of h1, itrA_of h2⟩, fun d hd => ?_, q⟩
  have hle : s1.heap.objs.size ≤ d := by
    have e' : d = s1.heap.objs.size + 4 ∨ d = s1.heap.objs.size + 2 ∨ d = s1.heap.objs.size + 3 ∨ d = s1.heap.objs.size ∨ d = s1.heap.objs.size + 1 := by simpa using hd
    rcases e' with q | q | q | q | q <;> rw [q] <;> first | exact Nat.le_refl _ | exact Nat.le_add_right _ _
  exact I1.fpOk hle (I1.hok.fresh hle)
end KX

set_option maxRecDepth 100000
set_option maxHeartbeats 1000000
/-! sorted(xs), xs a list or a tuple of alike data, tuples among which the first may be empty. -/
namespace KX
open PySem PySem.Spec PyProof.Rows L2 PySem.W PySem.Calls SeqAt

section
variable {prog : Program} {w : World} {A : Around} {E : Value → Shared → Prop} {s : Shared}
theorem call_tuple_lt {Q : Value → Shared → Prop} {l b : Addr} {items items2 : Array Value} {e r : Nat → Bool} (hl : s.heap.IsTuple l items) (hb : s.heap.IsTuple b items2)
    (he : ∀ j (h1 : j < items.size) (h2 : j < items2.size), SeqAt.EqAt A.in1 s items[j] items2[j] (e j)) (hr : ∀ j (h1 : j < items.size) (h2 : j < items2.size), e j = false → RcLt A.in1 s items[j] items2[j] (r j))
    (h : Q (.bool (firstLt e r (decide (items.size < items2.size)) (List.range (min items.size items2.size)))) s) : wpAny (model prog w) A (call (.builtin "tuple.__lt__") [.ref l, .ref b]) Q E s := by
  obtain ⟨⟨cls, dd, data, sl⟩, ho, hc, n, hd⟩ := id hl
  obtain ⟨⟨cls2, dd2, data2, sl2⟩, ho2, hc2, n2, hd2⟩ := id hb
  simp only at hc hd hc2 hd2
  subst hc hd hc2 hd2
  exact call_meets F.slot_tuple_lt ⟨_, ho, rfl⟩ F.entry_tuple_lt (F.args_tuple_lt_2 _ _) (tuple_ltAt l b items items2 n n2 dd dd2 sl sl2 e r) ⟨ho, ho2, he, hr, h⟩
theorem oneLt_tuples {xs ys : List PyData} {a b : Value} {as bs : List Addr} {Q : Bool → Shared → Prop} (ra : Reads s.heap a (.tuple xs) as) (rb : Reads s.heap b (.tuple ys) bs) (h : alike (.tuple xs) (.tuple ys) = true)
    (hu : A.units + min (PyData.tuple xs).depth (PyData.tuple ys).depth < cLine) (hq : Q (dataLt (.tuple xs) (.tuple ys)) s) : wpAny (model prog w) A (oneLt' true a b) Q E s := by
  have hal : alikeAll xs ys = true := by simpa [alike] using h
  cases ra with
  | @tuple l o vs n _ as₁ h1 h2 h3 h4 =>
    cases rb with
    | @tuple l' o' vs' n' _ bs₁ k1 k2 k3 k4 =>
      have n1 : vs.size = xs.length := by simpa using SeqAt.ReadsAll.length _ _ _ h4
      have n2 : vs'.size = ys.length := by simpa using SeqAt.ReadsAll.length _ _ _ k4
      rw [dataLt_tuple, ← firstLt_toks xs ys hal, ← n1, ← n2] at hq
      rw [oneLt'_eq]
      simp only [if_true]
      refine wpAny_bind (wpAny_cRoomFor (SeqAt.room_here hu) ?_)
      refine wpAny_bind (wpAny_callSpecialIfBound?_slot (T := "tuple") ⟨_, h1, h2⟩ F.slot_tuple_lt (call_tuple_lt (e := pairEq xs ys) (r := fun j => dataLt (xs.getD j .none) (ys.getD j .none)) ⟨_, h1, h2, _, h3⟩ ⟨_, k1, k2, _, k3⟩ (fun j j1 j2 => ?_) (fun j j1 j2 hj => ?_) ?_))
      · have := eqAt_alikeAll xs ys A.in1 s vs.toList vs'.toList _ _ h4 k4 hal (SeqAt.room_in hu) j (by simpa using j1) (by simpa using j2)
        simpa using this
      · have := rcLt_alikeAll xs ys A.in1 s vs.toList vs'.toList _ _ h4 k4 hal (SeqAt.room_in hu) j (by simpa using j1) (by simpa using j2) hj
        simpa using this
      · exact wpAny_truthy_bool hq
/-- what is sorted: tuples with an item at least, or tuples the first of which is empty -/
def SortOk (ds : List PyData) : Prop := (∀ d, d ∈ ds → ∃ x r, d = .tuple (x :: r)) ∨ ∃ ds', ds = .tuple [] :: ds' ∧ ∀ d ∈ ds', ∃ xs, d = .tuple xs
theorem firsts_any : ∀ {vs : List Value} {ds : List PyData}, EachIs (fun v d => ∃ as, Reads s.heap v d as) vs ds → (∀ d ∈ ds, ∃ xs, d = .tuple xs) → ∀ {Q : List (Option Value) → Shared → Prop}, (∀ fs : List (Option Value), fs.length = vs.length → (∀ ds', ds = .tuple [] :: ds' → fs[0]? = some none) → Q fs s) → wpAny (model prog w) A (vs.mapM firstOfTuple') Q E s
  | _, _, .nil, _, Q, h => by
    rw [List.mapM_nil]
    exact wpAny_pure (h [] rfl fun _ e => by cases e)
  | v :: vs, d :: ds, .cons ⟨as, r⟩ t, ht, Q, h => by
    obtain ⟨xs, rfl⟩ := ht d (by simp)
    rw [List.mapM_cons]
    refine wpAny_bind ?_
    cases r with
    | @tuple a o its n _ as₁ h1 h2 h3 h4 =>
      rw [kas_first_eq]
      refine wpAny_bind (Looks.here (show Looks (model prog w) s.heap (typeOf (.ref a)) o.cls from (Looks.ld h1).andThen .now) ?_)
      rw [h2, if_neg (by first | decide | simp)]
      refine wpAny_bind (listItems_at h1 h3 (wpAny_pure ?_))
      refine wpAny_bind (firsts_any t (fun d hd => ht d (by simp [hd])) fun fs hl _ => wpAny_pure (h (its[0]? :: fs) (by simp [hl]) fun ds' e => ?_))
      have e1 : xs = [] := PyData.tuple.inj (List.cons.inj e).1
      subst e1
      have : its.size = 0 := by simpa using SeqAt.ReadsAll.length _ _ _ h4
      have e0 : its[0]? = none := Array.getElem?_eq_none (by omega)
      rw [e0]
      rfl
theorem kind_empty {vs : List Value} {ds ds' : List PyData} {Q : SortKind → Shared → Prop} (e : EachIs (fun v d => ∃ as, Reads s.heap v d as) vs ds) (hd : ds = .tuple [] :: ds') (ht : ∀ d ∈ ds, ∃ xs, d = .tuple xs) (h2 : 2 ≤ vs.length) (h : Q oneType' s) : wpAny (model prog w) A (keyKind' vs.toArray) Q E s := by
  obtain ⟨v₁, v₂, rest, rfl⟩ : ∃ v₁ v₂ rest, vs = v₁ :: v₂ :: rest := by
    match vs, h2 with
    | [], h2 => simp at h2
    | [_], h2 => simp at h2
    | v₁ :: v₂ :: rest, _ => exact ⟨v₁, v₂, rest, rfl⟩
  rw [kat_kind_eq, List.mapM_toArray, map_eq_pure_bind]
  refine wpAny_bind (wpAny_bind (firsts_any e ht fun fs hl h0 => wpAny_pure ?_))
  have f0 := h0 ds' hd
  obtain ⟨f, fr, rfl⟩ : ∃ f fr, fs = f :: fr := by
    cases fs with
    | nil => simp at hl
    | cons f fr => exact ⟨f, fr, rfl⟩
  have ef : f = none := by simpa using f0
  subst ef
  have hall : ((none :: fr).toArray.all fun x : Option Value => x.isSome) = false := by simp
  have h00 : ((none :: fr).toArray[0]?.bind id : Option Value) = none := by simp
  simp only [hall, h00, Bool.false_eq_true, if_false, Option.isSome_none]
  rw [oneTypeOnly'_eq, List.mapM_toArray, map_eq_pure_bind]
  refine wpAny_bind (wpAny_bind (wpAny_bind (kas_mapM (r := Value.type "tuple") _ (fun v hv Q' hq => ?_) (wpAny_pure ?_))))
  · obtain ⟨d, hd, as, r⟩ := e.left v hv
    obtain ⟨xs, rfl⟩ := ht d hd
    exact (looks_reads r).here hq
  · have hall : ((List.map (fun _ => Value.type "tuple") (v₁ :: v₂ :: rest)).toArray.all fun x => x == Value.type "tuple") = true := by
      simp only [List.all_toArray, List.all_map, List.all_eq_true]
      intro _ _
      exact beq_self_eq_true _
    have h0 : (List.map (fun _ => Value.type "tuple") (v₁ :: v₂ :: rest)).toArray[0]? = some (Value.type "tuple") := by simp
    rw [h0]
    simp only [hall, if_true]
    exact wpAny_pure (wpAny_pure h)
theorem sortsAt {vs : List Value} {ds : List PyData} (e : EachIs (fun v d => ∃ as, Reads s.heap v d as) vs ds) (hal : AllAlike ds) (hk : SortOk ds) (hu : ∀ d, d ∈ ds → A.units + d.depth < cLine) : SortsAt prog w A s (dataKind s.heap ds) vs := by
  rcases hk with hk | ⟨ds', rfl, ht⟩
  · exact SortsAt.data e hal (.inl hk) hu
  · have ht' : ∀ d ∈ PyData.tuple [] :: ds', ∃ xs, d = .tuple xs := fun d hd => by
      rcases List.mem_cons.mp hd with rfl | hd
      · exact ⟨[], rfl⟩
      · exact ht d hd
    have room : ∀ {d d' : PyData}, d ∈ PyData.tuple [] :: ds' → A.units + min d.depth d'.depth < cLine := fun {d d'} hd => Nat.lt_of_le_of_lt (Nat.add_le_add_left (Nat.min_le_left _ _) _) (hu d hd)
    refine ⟨fun v hv => ?_, oneType', ?_, fun h2 E Q hq => kind_empty e rfl ht' h2 hq⟩
    · obtain ⟨d, hd, as, r⟩ := e.left v hv
      exact ⟨_, dataKind_some hal hd r⟩
    · intro E x y a b Q ha hb hq
      obtain ⟨d, as, hd, ra, rfl⟩ := dataKind_inv ha
      obtain ⟨d', as', hd', rb, rfl⟩ := dataKind_inv hb
      rw [keyLt'_oneType]
      have h1 := hal d hd d' hd'
      have h2 := room (d' := d') hd
      obtain ⟨xs, rfl⟩ := ht' d hd
      obtain ⟨ys, rfl⟩ := ht' d' hd'
      exact oneLt_tuples ra rb h1 h2 hq
theorem collect_A {l : Bool} {a : Addr} {vs : List Value} {Q : List Value → Shared → Prop} (hl : HasA l s.heap a vs.toArray)
    (h : Q vs { s with heap := (s.heap.push (seqObj "list" #[] 0)).update s.heap.objs.size (Obj.mapSeq (· ++ vs.toArray)) }) (hsz : vs.length ≤ sizeLine) :
    wpAny (model prog w) A (collect (.ref a)) Q E s := by
  cases l with
  | true => exact collect_list hl h hsz
  | false =>
    obtain ⟨o, ho, hc, n, hd⟩ := (id hl : s.heap.IsTuple a vs.toArray)
    unfold collect
    refine wpAny_bind (wpAny_runValue (codeAny_builtin entry_proto_collect' ?_))
    show wpAny _ _ (do again (.builtin "list.__iadd__" ⟨[← newList [], .ref a], []⟩)) _ _ s
    refine wpAny_bind (wpAny_newList (wpAny_pure ⟨Code.quiet_builtin _ (by decide +kernel), codeAny_builtin entry_list_iadd' ?_⟩))
    show wpAny _ _ (Builtin.List.listExtendWith (.ref s.heap.objs.size) (.ref a) (.ref s.heap.objs.size)) _ _ { s with heap := s.heap.push (seqObj "list" #[] 0) }
    unfold Builtin.List.listExtendWith
    have ho' : (s.heap.push (seqObj "list" #[] 0)).get? a = some o := Heap.get?_push_of_some _ ho
    refine wpAny_bind (wpAny_typeOf (T := "tuple") ⟨o, ho', hc⟩ ?_)
    have ht : (Value.type "tuple" == Value.type "tuple") = true := by rfl
    rw [if_pos (by rw [ht]; simp)]
    refine wpAny_bind (listItems_at ho' hd ?_)
    refine wpAny_bind (listItems_at (xs := #[]) (n := 0) (Heap.get?_push_size _ rfl) rfl ?_)
    rw [if_neg (by simp)]
    refine wpAny_bind (listUpdate_at (xs := #[]) (n := 0) (Heap.get?_push_size _ rfl) rfl ?_ (Nat.zero_le _) (by show (#[] ++ vs.toArray).size ≤ sizeLine + 1; simp only [Array.size_append, List.size_toArray, List.length_nil]; omega))
    refine wpAny_pure ?_
    show wpAny (model prog w) A (do
        let o ← load s.heap.objs.size
        match o.data with
        | .seq xs _ => pure xs.toList
        | _ => unsupported "internal:collect") Q E { s with heap := (s.heap.push (seqObj "list" #[] 0)).update s.heap.objs.size (Obj.mapSeq (· ++ vs.toArray)) }
    refine wpAny_bind (wpAny_load (get?_update_seq (Heap.get?_push_size _ rfl) _) ?_)
    show wpAny _ _ (pure ((#[] : Array Value) ++ vs.toArray).toList) Q E _
    rw [show ((#[] : Array Value) ++ vs.toArray).toList = vs by simp]
    exact wpAny_pure h
theorem sorted_A {β : Type} {enc : β → PyData} {bs : List β} {R : Value → β → Prop} {l : Bool} {a : Addr} {vs : List Value} {Q : Value → Shared → Prop} (hl : HasA l s.heap a vs.toArray) (e : EachIs R vs bs) (er : EachIs (fun v b => ∃ as, Reads s.heap v (enc b) as) vs bs) (hal : AllAlike (bs.map enc)) (hk : SortOk (bs.map enc)) (hL : bs.length ≤ sizeLine)
    (hu : ∀ b, b ∈ bs → A.units + 2 + (enc b).depth < cLine) (h : ∀ out, out.length = bs.length → EachIs R out (bs.mergeSort (dataLe false enc)) → Q (.ref (s.heap.objs.size + 1)) { s with heap := sortedAll s.heap vs (List.toArray out) }) :
    wpAny (model prog w) A (call (.builtin "sorted") [.ref a]) Q E s := by
  have hL' : vs.length ≤ sizeLine := by rw [e.length]; exact hL
  have er' : EachIs (fun v b => ∃ as, Reads (sortingHeap (copyHeap s.heap vs) (s.heap.objs.size + 1) vs) v (enc b) as) vs bs := er.mono fun _ _ ⟨as, r⟩ => ⟨as, PyProof.Rows.Reads.keeps (fun _ _ => sorting_copy_old) r⟩
  refine call_function_entry_kw kind_sorted plain_sorted entry_sorted (args_sorted1 _) ?_
  unfold Builtin.«sorted»
  refine wpAny_bind (m := checkCount "sorted" 1 1 _) (wpAny_pure ?_)
  refine wpAny_bind (collect_A hl ?_ hL')
  refine wpAny_bind (wpAny_newList ?_ hL')
  have hsz : ((s.heap.push (seqObj "list" #[] 0)).update s.heap.objs.size (Obj.mapSeq (· ++ vs.toArray))).objs.size = s.heap.objs.size + 1 := by
    rw [Heap.size_update, size_push']
  show wpAny _ _ _ _ _ { s with heap := copyHeap s.heap vs }
  rw [hsz]
  refine wpAny_bind (wpAny_holding (wpAny_call_entry_kw slot_list_sort ⟨_, copyHeap_at s.heap vs, rfl⟩ entry_list_sort ?_ (args_list_sort _)))
  refine list_sort_vals (s := { s with heap := copyHeap s.heap vs }) (κ := dataKind (sortingHeap (copyHeap s.heap vs) (s.heap.objs.size + 1) vs) (bs.map enc)) (copyHeap_at s.heap vs)
    (sortsAt (s := { s with heap := sortingHeap (copyHeap s.heap vs) (s.heap.objs.size + 1) vs }) (each_map (R := fun v d => ∃ as, Reads (sortingHeap (copyHeap s.heap vs) (s.heap.objs.size + 1) vs) v d as) enc er') hal hk (bound_map hu)) hL' ⟨_, rfl, wpAny_pure ⟨_, rfl, ?_⟩⟩
  exact h _ (by rw [sortVals_length false rfl]; exact e.length) (sortVals_data false e er' hal)
end

section
variable {X : Cx} {pins : List (Addr × Obj)} {σ : L2.St} {H : Hp} {s : Shared}
def rSortD (K : PySem.W.Frag) : List V → Hp → VK → Prop := fun vs H Q => ∃ (p : Addr) (l : Bool) (xs : List V) (ds : List PyData), vs = [.ref p] ∧ SqA K l H p xs ∧ DpAll K H xs ds ∧ AllAlike ds ∧ SortOk ds ∧ (∀ d ∈ ds, d.depth ≤ 60) ∧ ds.length ≤ sizeLine ∧
  ∀ q, H q = none → Q (.ref q) (upd H q (.lst (((xs.zip ds).mergeSort fun a b => dataLe false (fun z : V × PyData => z.2) a b).map Prod.fst)))
theorem each_zip {h : Heap} : ∀ {xs : List V} {us : List Value} {ds : List PyData} {as : List Addr}, Vals xs us → ReadsAll h us ds as → EachIs (fun v (b : V × PyData) => RelV b.1 v) us (xs.zip ds) ∧ EachIs (fun v (b : V × PyData) => ∃ as, Reads h v b.2 as) us (xs.zip ds)
  | _, _, _, _, .nil, r => by
    cases r
    exact ⟨.nil, .nil⟩
  | _, _, _, _, .cons r t, rd => by
    cases rd with
    | cons h1 h2 =>
      obtain ⟨a, b⟩ := each_zip t h2
      exact ⟨.cons r a, .cons ⟨_, h1⟩ b⟩
theorem vals_each : ∀ {us : List Value} {bs : List (V × PyData)}, EachIs (fun v (b : V × PyData) => RelV b.1 v) us bs → Vals (bs.map Prod.fst) us
  | _, _, .nil => .nil
  | _, _, .cons r t => .cons r (vals_each t)
theorem cr_sortedD (hu : X.A.units + 64 < cLine) : CallR X (.builtin "sorted") (rSortD X.K) := by
  intro pins s σ H vs us Q I r h
  obtain ⟨p, l, xs, ds, rfl, hs, hd, hal, hk, hdp, hz, q⟩ := h
  rw [Vals.ref1 r]
  obtain ⟨its, rv, hA, _⟩ := seqA I hs
  obtain ⟨as, rd⟩ := Dp.readsAll I ds _ its hd rv
  obtain ⟨e1, e2⟩ := each_zip rv rd
  have el : xs.length = ds.length := by
    have a := rv.length
    have b := SeqAt.ReadsAll.length ds its as rd
    omega
  have em : (xs.zip ds).map Prod.snd = ds := List.map_snd_zip (by omega)
  refine sorted_A (enc := fun z : V × PyData => z.2) hA e1 e2 (by rw [em]; exact hal) (by rw [em]; exact hk) (by simp; omega) (fun b hb => ?_) fun out hlen eo => ?_
  · have := hdp b.2 (List.of_mem_zip (a := b.1) (b := b.2) hb).2
    omega
  · obtain ⟨ep, he'⟩ := PyProof.Rows.sortedAll_at s.heap its out.toArray
    have rv' := vals_each eo
    refine ⟨.ref _, upd H (s.heap.objs.size + 1) (.lst _), I.laid (t' := s.toks) (fun _ _ => PyProof.Rows.sortedAll_old) (Nat.le_succ _) ⟨?_, out, ep, rv', he'⟩, rfl, q _ (I.hok.fresh (Nat.le_succ _))⟩
    have := rv'.length
    simp at this hlen ⊢
    omega
end
end KX

set_option maxRecDepth 100000
set_option maxHeartbeats 1000000
/-! dict comprehensions whose keys are tuples (turned from the hand layer's dict comprehensions, whose keys are ints or texts). -/
namespace L2
open PySem PySem.Spec PyProof.Rows
theorem d_dictSetT {X : Cx} {pins : List (Addr × Obj)} {σ : St} {H : Hp} {s : Shared} {E : Value → Shared → Prop} {D b : Addr} {kvs : List (List Key × V)} {k : List Key} {v : V} {u r : Value} {Q : Unit → Shared → Prop} (hu : X.A.units + 1 < cLine) (I : Inv X pins σ H s) (hD : H D = some (.dT kvs)) (hb : H b = some (.tup (k.map kV))) (hz : kvs.length < sizeLine)
    (ry : RelV (.ref b) u) (rv : RelV v r) (h : ∀ s', Inv X pins σ (upd H D (.dT (putK kvs k v))) s' → Q () s') : wpAny (model X.prog X.w) X.A (dictSet D u r) Q E s := by
  cases (show u = Value.ref b from ry)
  obtain ⟨z, hd, xs, rel, dd⟩ := dt_of I.hok hD
  have hzv : xs.length ≤ sizeLine := by rw [← Paired.length rel]; exact z
  have hl : (putK kvs k v).length ≤ sizeLine := by have := length_putK kvs k v; omega
  refine wpAny_dictSet_heap (hsz := hzv) (show (tupleKind (mixKind X.prog X.w)).room X.A from ?_) (key_of I.hok hb) dd fun h' dd' hs => h _ ?_
  · exact Nat.lt_of_succ_lt hu
  · obtain ⟨q, es, ep, hq, h2, h3, h4, _, h5⟩ := dd'
    refine d_write I (by rw [hD]; exact True.intro) hs ⟨q, hq⟩ ⟨hl, hd, _, (rel.put k hb rv).keeps fun c ys ec => ?_, q, es, ep, hq, h2, h3, h4, h5⟩
    rw [upd_ne (ne_of ec hD (fun z => nomatch z))]
    exact ec
section
variable {X : Cx}
/-- {k: v for target in iter if ..}, keys tuples: D the new dict -/
def tDcT (wi : TI) (g : TG) (tt : TT) (tk tv : TE) (vs : List Nat) : TE := fun σ H Q => wi σ H fun J H1 => ∀ D, H1 D = none → ∃ W : Nat → Nat → Hp → Prop, (∃ m, W 0 m (upd H1 D (.dT []))) ∧ ∀ i m H, W i m H →
  (J.stop i H ∧ Q (.ref D) H) ∨ (J.go i H ∧ ∃ Nx : Hp → Prop, (∀ H', Nx H' → ∃ m', m' < m ∧ W (i + 1) m' H') ∧ ∀ x H', J.yld i H x H' → g x (wipe σ vs) H' fun σ2 H2 => wipe σ2 vs = wipe σ vs ∧ tt σ2 H2 fun b H3 =>
    if b = true then tk σ2 H3 fun y H4 => tv σ2 H4 fun z H5 => ∃ (kvs : List (List Key × V)) (k : List Key) (b : Addr), y = .ref b ∧ H5 D = some (.dT kvs) ∧ H5 b = some (.tup (k.map kV)) ∧ kvs.length < sizeLine ∧ Nx (upd H5 D (.dT (putK kvs k z))) else Nx H3)
theorem dcT_core {pins : List (Addr × Obj)} {s : Shared} {σ : St} {H : Hp} {Q : VK} {kx vx tg iter : Expr} {ifs : List Expr} {scope : Scope} {own : List (Str × Nat)} {pos pos' : Pos} {wi : TI} {g : TG} {tt : TT} {tk tv : TE} {use : Option (Value → Sem Unit)} {Qf : Value → Shared → Prop}
    (hu : X.A.units + 1 < cLine) (hc : X.calm = true) (hN : X.N.Nodup) (I : Inv X pins σ H s) (hi : PI X tg iter wi) (ok : BlkOk X.N X.env.scope scope own)
    (hg : ∀ (s : Shared) (H : Hp) (C : Addr) (cl : List (Str × Addr)) (fp : List Addr), PG (X.blk s H scope (compEnvC scope cl C X.env) fp) tg g) (ht : ∀ (s : Shared) (H : Hp) (C : Addr) (cl : List (Str × Addr)) (fp : List Addr), PTs (X.blk s H scope (compEnvC scope cl C X.env) fp) ifs tt)
    (hk : ∀ (s : Shared) (H : Hp) (C : Addr) (cl : List (Str × Addr)) (fp : List Addr), PE (X.blk s H scope (compEnvC scope cl C X.env) fp) kx tk)
    (he : ∀ (s : Shared) (H : Hp) (C : Addr) (cl : List (Str × Addr)) (fp : List Addr), PE (X.blk s H scope (compEnvC scope cl C X.env) fp) vx tv) (hs : ∀ x, foldedSetIterable iter X.env x = pure x)
    (h : tDcT wi g tt tk tv (own.map (·.2)) σ H Q)
    (hRR : ∀ D C s' m H', Inv X pins σ H' s' → Q (.ref D) H' → s'.heap.Ns C m → FpOk X pins H' C → compPost (model X.prog X.w) X.A X.xe use Qf (.ref D) C (.ok .next) s') :
    wpAny (model X.prog X.w) X.A (comprehension (.DictComp kx vx [⟨tg, iter, ifs, 0⟩] scope pos) scope X.env pos' newDict false (eval iter X.env) use) Qf X.xe s := by
  have hfree : ∀ y ∈ scope.names, y.2 = .free → ∃ c, X.env.cells.lookup y.1 = some c := fun y hy e => by
    rcases ok.free y hy e with k | k
    · exact I.ok.has _ (.inl k)
    · exact I.ok.has _ (.inr k)
  refine wpAny_comprehension_free (use := use) rfl hs (closure_ok hfree) ok.kind (fun y hy e => by rw [ok.uniq y hy, e])
    (thn (hi.run pins s σ H _ I h) fun xv s1 hx => thn hx fun itv s2 h2 => ?_)
  obtain ⟨it, fp, tn, J, H2, e, I2, T, st2, f2, q⟩ := h2
  subst e
  refine wpAny_newObj_type (newEnv_comp ?_)
  generalize hD : s2.heap.objs.size = D
  have hDn : H2 D = none := I2.hok.fresh (Nat.le_of_eq hD)
  obtain ⟨W, ⟨m0, w0⟩, turn⟩ := q D hDn
  -- the new list
  generalize hs3 : ({ s2 with heap := s2.heap.push { cls := .type "dict", data := .dict #[] } } : Shared) = s3
  have I3 : Inv X pins σ (upd H2 D (.dT [])) s3 := by
    rw [← hs3]
    refine I2.laid (t' := s2.toks) (fun b o e => Heap.get?_push_of_some _ e) (Nat.le_of_eq hD) ?_
    rw [← hD]
    exact dt_empty s2.heap I2.big
  have h3 : s3.heap = s2.heap.push { cls := .type "dict", data := .dict #[] } := by rw [← hs3]
  have sz : ∀ b ∈ fp, b < s2.heap.objs.size := fun b hb => by
    obtain ⟨o, e, _⟩ := T.obj _ _ st2 b hb
    exact Heap.lt_size e
  have f3 : ∀ b ∈ fp, FpOk X pins (upd H2 D (.dT [])) b ∧ b < s3.heap.objs.size := fun b hb => by
    have hlt := sz b hb
    refine ⟨⟨?_, (f2 b hb).2⟩, by rw [h3, Heap.size_push]; exact Nat.lt_succ_of_lt hlt⟩
    rw [upd_ne (by rw [← hD]; exact Nat.ne_of_lt hlt)]
    exact (f2 b hb).1
  have st3 : tn 0 s3.heap := T.keep _ _ _ st2 fun b _ o e => by rw [h3]; exact Heap.get?_push_of_some _ e
  have I4 := block_start I3 ok hN f3
  have pg := hg s3 (upd H2 D (.dT [])) s3.heap.objs.size (cellsFrom (s3.heap.objs.size + 1) scope.names (cloFrom X.env.cells scope.names [])) fp
  have pt := ht s3 (upd H2 D (.dT [])) s3.heap.objs.size (cellsFrom (s3.heap.objs.size + 1) scope.names (cloFrom X.env.cells scope.names [])) fp
  have pk := hk s3 (upd H2 D (.dT [])) s3.heap.objs.size (cellsFrom (s3.heap.objs.size + 1) scope.names (cloFrom X.env.cells scope.names [])) fp
  have pe := he s3 (upd H2 D (.dT [])) s3.heap.objs.size (cellsFrom (s3.heap.objs.size + 1) scope.names (cloFrom X.env.cells scope.names [])) fp
  show codeAny _ _ (.compStart (.DictComp kx vx [⟨tg, iter, ifs, 0⟩] scope pos) 0 (.ref it) (.ref D) (compEnvC scope (cellsFrom (s3.heap.objs.size + 1) scope.names (cloFrom X.env.cells scope.names [])) s3.heap.objs.size X.env)) (compPost (model X.prog X.w) X.A X.xe use Qf (.ref D) s3.heap.objs.size) { s3 with heap := pushCells (s3.heap.push { cls := .type "dict", data := .dict #[] }) scope.names }
  have nfp : ∀ b ∈ fp, (upd H2 D (.dT [])) b = none := fun b hb => (f3 b hb).1.1
  generalize hce : compEnvC scope (cellsFrom (s3.heap.objs.size + 1) scope.names (cloFrom X.env.cells scope.names [])) s3.heap.objs.size X.env = ce at I4 pg pt pk pe ⊢
  have cL : ce.locals = s3.heap.objs.size := by subst hce; rfl
  generalize hH3 : upd H2 D (.dT []) = H3 at I3 I4 pg pt pk pe w0 nfp f3
  generalize hs4 : ({ s3 with heap := pushCells (s3.heap.push { cls := .type "dict", data := .dict #[] }) scope.names } : Shared) = s4 at I4 ⊢
  have st4 : tn 0 s4.heap := T.keep _ _ _ st3 fun b _ o e => by rw [← hs4]; exact pushCells_keeps _ _ _ _ (Heap.get?_push_of_some _ e)
  have stat : ∀ {σ' : St} {H' : Hp} {s' : Shared}, Inv (X.blk s3 H3 scope ce fp) [] σ' H' s' → (∀ b ∈ fp, H' b = none) → ∀ b ∈ fp, FpOk (X.blk s3 H3 scope ce fp) [] H' b := fun {σ' H' s'} I' hn b hb =>
    ⟨hn b hb, (I'.ok.exf b hb).1, I'.ok.exfs b hb, .inl hb, fun x c e => (I'.ok.exf b hb).2 x c e, fun p hp => absurd (show p ∈ ([] : List (Addr × Obj)) ++ [] from hp) (by simp)⟩
  have loop : codeAny (model X.prog X.w) X.A (.compLoop (.DictComp kx vx [⟨tg, iter, ifs, 0⟩] scope pos) 0 (.ref it) (.ref D) ce) (compPost (model X.prog X.w) X.A X.xe use Qf (.ref D) s3.heap.objs.size) s4 := by
    refine compLoop_anyD (fun n s' => ∃ i H', Inv (X.blk s3 H3 scope ce fp) [] (wipe σ (own.map (·.2))) H' s' ∧ tn i s'.heap ∧ (∀ b ∈ fp, H' b = none) ∧ W i n H') ?_ m0 ⟨0, H3, I4, st4, nfp, w0⟩
    rintro n s5 ⟨i, H5, I5, st5, n5, w5⟩
    rcases turn i n H5 w5 with ⟨stop, qq⟩ | ⟨go, Nx, hNx, step⟩
    · have td := T.done (X.blk s3 H3 scope ce fp) rfl rfl rfl hc i [] s5 _ H5 (fun _ _ => False) I5 (stat I5 n5) st5 stop
      refine thnF td fun r s6 ⟨hr, I6⟩ => ?_
      subst hr
      -- back in the def's context
      have I7 : Inv X pins σ H5 s6 := I3.call' (ch := fp) I6.os I6.base I6.hok I6.bare fun b hb => ⟨(f3 b hb).1.2.2.2.1, (f3 b hb).1.2.1, (f3 b hb).1.2.2.2.2.1, (f3 b hb).1.2.2.2.2.2⟩
      have nC : H5 s3.heap.objs.size = none := by
        have z : H5 ce.locals = none := I6.free
        rw [cL] at z
        exact z
      obtain ⟨m, hn, _⟩ := I6.loc
      have hn : s6.heap.Ns ce.locals m := hn
      rw [cL] at hn
      exact hRR D s3.heap.objs.size s6 m H5 I7 qq hn (I3.fpOk (Nat.le_refl _) nC)
    · have ti := T.item (X.blk s3 H3 scope ce fp) rfl rfl rfl hc i [] s5 _ H5 (fun _ _ => False) I5 (stat I5 n5) st5 go
      refine thnF ti fun r s6 ⟨u, hr, h6⟩ => ?_
      subst hr
      refine thnF h6 fun _ s7 ⟨x, H7, I7, r7, y7, st7, n7⟩ => ?_
      have I7' := I7.pinned (stat I7 n7) (T.obj _ _ st7)
      refine thnF (pg.run _ s7 _ H7 x u _ I7' r7 (step x H7 y7)) fun _ s8 ⟨σ8, H8, I8, hw8, q8⟩ => ?_
      refine thnF (pt.run _ s8 σ8 H8 _ I8 q8) fun b s9 ⟨H9, I9, q9⟩ => ?_
      -- the turn's end
      have fin : ∀ {s' : Shared} {H' : Hp}, Inv (X.blk s3 H3 scope ce fp) ([] ++ pinsAt fp s7.heap) σ8 H' s' → Nx H' → ∃ m, m < n ∧ ∃ i H', Inv (X.blk s3 H3 scope ce fp) [] (wipe σ (own.map (·.2))) H' s' ∧ tn i s'.heap ∧ (∀ b ∈ fp, H' b = none) ∧ W i m H' := fun {s' H'} I' nx => by
        obtain ⟨m', hm, w'⟩ := hNx H' nx
        have pin' : ∀ b ∈ fp, ∀ o, s7.heap.get? b = some o → s'.heap.get? b = some o ∧ H' b = none := fun b hb o e =>
          let z := I'.pin (b, o) (List.mem_append_right _ (List.mem_append_right _ (mem_pinsAt hb e)))
          ⟨z.1, z.2.1⟩
        have hl : (wipe σ (own.map (·.2))).length = σ8.length := by rw [← hw8, wipe_length]
        refine ⟨m', hm, i + 1, H', (I'.unpinned (pins := [])).weak hl (fun j v e => ?_), T.keep _ _ _ st7 fun b hb o e => (pin' b hb o e).1, fun b hb => ?_, w'⟩
        · rw [← hw8] at e
          exact (wipe_some e).1
        · obtain ⟨o, e, _⟩ := T.obj _ _ st7 b hb
          exact (pin' b hb o e).2
      cases b with
      | false =>
        simp only [Bool.false_eq_true, if_false] at q9 ⊢
        exact fin I9 q9
      | true =>
        simp only [if_true] at q9 ⊢
        refine thnF (pk.run _ s9 σ8 H9 _ I9 q9) fun z s10 ⟨yk, H10, I10, r10, q10⟩ => ?_
        refine thnF (pe.run _ s10 σ8 H10 _ I10 q10) fun z2 s11 ⟨yv, H11, I11, r11, kvs, k, bk, ek, hD11, hb11, hz11, nx⟩ => ?_
        subst ek
        exact d_dictSetT (X := X.blk s3 H3 scope ce fp) hu I11 hD11 hb11 hz11 r10 r11 fun s12 I12 => fin I12 nx
  exact codeAny_compStart_dict loop (T.self X.A 0 _ _ _ st4 loop)
theorem pe_dcT {kx vx tg iter : Expr} {ifs : List Expr} {scope : Scope} {own : List (Str × Nat)} {pos : Pos} {wi : TI} {g : TG} {tt : TT} {tk tv : TE} (hu : X.A.units + 1 < cLine) (hc : X.calm = true) (hN : X.N.Nodup) (hi : PI X tg iter wi) (ok : BlkOk X.N X.env.scope scope own)
    (hg : ∀ (s : Shared) (H : Hp) (C : Addr) (cl : List (Str × Addr)) (fp : List Addr), PG (X.blk s H scope (compEnvC scope cl C X.env) fp) tg g) (ht : ∀ (s : Shared) (H : Hp) (C : Addr) (cl : List (Str × Addr)) (fp : List Addr), PTs (X.blk s H scope (compEnvC scope cl C X.env) fp) ifs tt)
    (hk : ∀ (s : Shared) (H : Hp) (C : Addr) (cl : List (Str × Addr)) (fp : List Addr), PE (X.blk s H scope (compEnvC scope cl C X.env) fp) kx tk)
    (he : ∀ (s : Shared) (H : Hp) (C : Addr) (cl : List (Str × Addr)) (fp : List Addr), PE (X.blk s H scope (compEnvC scope cl C X.env) fp) vx tv) (hs : ∀ x, foldedSetIterable iter X.env x = pure x := by intro _; rfl) :
    PE X (.DictComp kx vx [⟨tg, iter, ifs, 0⟩] scope pos) (tDcT wi g tt tk tv (own.map (·.2))) := by
  refine ⟨fun pins s σ H Q I h => ?_⟩
  rw [arm_eval_DictComp]
  refine dcT_core hu hc hN I hi ok hg ht hk he hs h fun D C s' m H' I' q hn f => ⟨m, hn, fun h'' sb => ?_⟩
  obtain ⟨f0, f1, f2, f3, f4, f5⟩ := f
  exact ⟨.ref D, H', I'.turned (t' := s'.toks) (fun b o hb e => (sb.2 b hb).trans e) f0 f1 f3 f4 f5, rfl, q⟩
/-- name = {k: v for ..} -/
theorem ps_setDcT {i : Nat} {y : Str} {py : Pos} {kx vx tg iter : Expr} {ifs : List Expr} {scope : Scope} {own : List (Str × Nat)} {pos spos : Pos} {wi : TI} {g : TG} {tt : TT} {tk tv : TE} (hu : X.A.units + 1 < cLine) (hc : X.calm = true) (hN : X.N.Nodup) (hy : X.N[i]? = some y) (hyl : X.env.scope.names.lookup y = some .local)
    (hsw : swapsWith (.DictComp kx vx [⟨tg, iter, ifs, 0⟩] scope pos) (some (.Name y py)) spos.line X.env = pure true) (hi : PI X tg iter wi) (ok : BlkOk X.N X.env.scope scope own)
    (hg : ∀ (s : Shared) (H : Hp) (C : Addr) (cl : List (Str × Addr)) (fp : List Addr), PG (X.blk s H scope (compEnvC scope cl C X.env) fp) tg g) (ht : ∀ (s : Shared) (H : Hp) (C : Addr) (cl : List (Str × Addr)) (fp : List Addr), PTs (X.blk s H scope (compEnvC scope cl C X.env) fp) ifs tt)
    (hk : ∀ (s : Shared) (H : Hp) (C : Addr) (cl : List (Str × Addr)) (fp : List Addr), PE (X.blk s H scope (compEnvC scope cl C X.env) fp) kx tk)
    (he : ∀ (s : Shared) (H : Hp) (C : Addr) (cl : List (Str × Addr)) (fp : List Addr), PE (X.blk s H scope (compEnvC scope cl C X.env) fp) vx tv) (hs : ∀ x, foldedSetIterable iter X.env x = pure x := by intro _; rfl) :
    PS X (.Assign [.Name y py] (.DictComp kx vx [⟨tg, iter, ifs, 0⟩] scope pos) spos) (tAsg (tDcT wi g tt tk tv (own.map (·.2))) (gName i)) := by
  refine ⟨fun pins s σ H D I h => ?_⟩
  rw [exec_Assign_Name_used _ _ _ _ hsw]
  refine wpAny_bind (wpAny_standAt (wpAny_bind ?_))
  show wpAny _ X.A (do let _ ← comprehension (.DictComp kx vx [⟨tg, iter, ifs, 0⟩] scope pos) scope X.env (firstIterPos [⟨tg, iter, ifs, 0⟩] pos) newDict false (eval iter X.env) (some (assign (.Name y py) X.env))) _ _ s
  have h : tDcT wi g tt tk tv (own.map (·.2)) σ H (fun x H1 => gName i x σ H1 D.nx) := h
  refine wpAny_bind (thn (dcT_core (Qf := fun _ s' => SP X pins D .next s') hu hc hN I hi ok hg ht hk he hs h fun L C s' m H' I' q hn f => ?_) fun _ s' hq => wpAny_pure (wpAny_pure hq))
  show wpAny _ _ (assign (.Name y py) X.env (.ref L)) _ _ _
  refine wpAny_assign_Name (store_ok2 (v := V.ref L) I' hN hy (.inl hyl) rfl (fun s2 I2 ⟨a, sb, ha⟩ => ?_) (.inr hyl))
  obtain ⟨f0, f1, f2, f3, f4, f5⟩ := f
  have haC : C ≠ a := by
    rcases ha with z | z
    · rw [z]; exact f1
    · exact fun e => f4 y a z e.symm
  refine ⟨m, hn.sameBut sb haC, fun h3 sb3 => ?_⟩
  exact ⟨_, H', I2.turned (t' := s2.toks) (fun b o hb e => (sb3.2 b hb).trans e) f0 f1 f3 f4 f5, q⟩
theorem sw_trueD {kx vx : Expr} {gs : List Comprehension} {scope : Scope} {pos py : Pos} {y : Str} {l : Nat} {env : Env} (hk : env.scope.kind = .function) (hy : env.scope.names.lookup y = some .local) (hl : (py.line == pos.line) = true)
    (ha : (scope.names.any fun (n, k) => n == y && (k == .local || k == .cell)) = false) : swapsWith (.DictComp kx vx gs scope pos) (some (.Name y py)) l env = pure true := by
  have ky : env.kindOf y = some .local := hy
  have hb : env.blockKind = .function := by unfold Env.blockKind; rw [hk]; rfl
  unfold swapsWith
  simp only [hb, ky, ha, Expr.pos, hl]
  rfl
end
end L2

set_option maxRecDepth 100000
set_option maxHeartbeats 1000000
/-! list(zip(xs, ys, zs)): a zip whose tuples are held. -/
namespace KX
open PySem PySem.Spec PyProof.Rows L2 PySem.W PySem.Calls
open Sem (wp)

section
variable {prog : Program} {w : World} {A : Around} {E : Value → Shared → Prop} {s : Shared} {z TI TO i1 i2 i3 T : Addr} {fp1 fp2 fp3 : List Addr} {n1 n2 n3 i : Nat} {P1 P2 P3 : Nat → Value → Prop} {St1 St2 St3 : Nat → Heap → Prop} {f : Bool} {oT : Obj}
theorem zip3_item_held {Q : Value → Shared → Prop} (S : ZipSep3 z TI TO i1 i2 i3 fp1 fp2 fp3) (D1 : Draws prog w A i1 fp1 n1 P1 St1) (D2 : Draws prog w A i2 fp2 n2 P2 St2) (D3 : Draws prog w A i3 fp3 n3 P3 St3)
    (hz : IsZipHeld s.heap z TI TO T f) (hT : s.heap.get? T = some oT) (hTI : IsTupOf3 s.heap TI (.ref i1) (.ref i2) (.ref i3)) (st1 : St1 i s.heap) (st2 : St2 i s.heap) (st3 : St3 i s.heap) (hlt1 : i < n1) (hlt2 : i < n2) (hlt3 : i < n3)
    (hQ : ∀ x1 x2 x3 h' tk, P1 i x1 → P2 i x2 → P3 i x3 → IsZipHeld h' z TI TO T true → St1 (i + 1) h' → St2 (i + 1) h' → St3 (i + 1) h' → IsTupOf3 h' s.heap.objs.size x1 x2 x3 → h'.objs.size = s.heap.objs.size + 1 →
      (∀ c o, c ≠ z → c ≠ i1 → c ≠ i2 → c ≠ i3 → s.heap.get? c = some o → h'.get? c = some o) → Q (.ref s.heap.objs.size) { s with heap := h', toks := tk }) :
    wpAny (model prog w) A (Builtin.«zip.__next__» ⟨[.ref z], []⟩) (fun fin s' => ∃ v, fin = .done (.ret v) ∧ Q v s') E s := by
  obtain ⟨hp, g, d, tk0, os⟩ := s
  show wpAny _ _ (field (.ref z) 2 >>= _) _ _ _
  refine wpAny_bind (wpAny_field hz rfl (x := .bool false) rfl ?_)
  show wpAny _ _ (field (.ref z) 3 >>= _) _ _ _
  refine wpAny_bind (wpAny_field hz rfl (x := .ref TI) rfl ?_)
  refine wpAny_bind (wpAny_seqItems hTI rfl ?_)
  show wpAny _ _ (Builtin.SmallTypes.ownedTupleIsFree (.ref z) >>= _) _ _ _
  refine wpAny_bind (wpAny_tupleHeld_zip hz hT fun g0 hz0 hs0 => ?_)
  replace hs0 : Heap.SameBut z hp g0 := hs0
  simp only [Bool.false_eq_true, if_false]
  refine wpAny_bind ?_
  rw [← Array.forIn_toList]
  simp only [List.forIn_cons, List.forIn_nil]
  refine wpAny_bind (wpAny_bind (wpAny_holding ?_))
  show wpAny _ _ (Builtin.SmallTypes.nextOf (.ref i1) >>= _) _ _ ⟨g0, g, d, tk0, os⟩
  refine wpAny_bind (D1.item i _ _ _ hlt1 (D1.over st1 hs0 S.zf1) fun x1 p1 tk1 hx1 sn1 hp1 => wpAny_pure ?_)
  replace hp1 : Heap.SameBut i1 g0 p1 := hp1
  refine wpAny_pure ?_
  refine wpAny_bind (wpAny_bind (wpAny_holding ?_))
  show wpAny _ _ (Builtin.SmallTypes.nextOf (.ref i2) >>= _) _ _ ⟨p1, g, d, tk1, os⟩
  refine wpAny_bind (D2.item i _ _ _ hlt2 (D2.over (D2.over st2 hs0 S.zf2) hp1 S.sep1_2) fun x2 p2 tk2 hx2 sn2 hp2 => wpAny_pure ?_)
  replace hp2 : Heap.SameBut i2 p1 p2 := hp2
  refine wpAny_pure ?_
  refine wpAny_bind (wpAny_bind (wpAny_holding ?_))
  show wpAny _ _ (Builtin.SmallTypes.nextOf (.ref i3) >>= _) _ _ ⟨p2, g, d, tk2, os⟩
  refine wpAny_bind (D3.item i _ _ _ hlt3 (D3.over (D3.over (D3.over st3 hs0 S.zf3) hp1 S.sep1_3) hp2 S.sep2_3) fun x3 p3 tk3 hx3 sn3 hp3 => wpAny_pure ?_)
  replace hp3 : Heap.SameBut i3 p2 p3 := hp3
  refine wpAny_pure (wpAny_pure ?_)
  show wpAny _ _ (newTuple [x1, x2, x3] >>= _) _ _ ⟨p3, g, d, tk3, os⟩
  refine wpAny_bind (wpAny_newTuple ?_)
  have hsz : p3.objs.size = hp.objs.size := by rw [hp3.1, hp2.1, hp1.1, hs0.1]
  have hzz : IsZipHeld p3 z TI TO T true := hp3.extBut _ _ S.zi3 (hp2.extBut _ _ S.zi2 (hp1.extBut _ _ S.zi1 hz0))
  have hkk : ∀ c o, c ≠ z → c ≠ i1 → c ≠ i2 → c ≠ i3 → hp.get? c = some o → p3.get? c = some o := fun c o cz c1 c2 c3 e =>
    hp3.extBut _ _ c3 (hp2.extBut _ _ c2 (hp1.extBut _ _ c1 (hs0.extBut _ _ cz e)))
  have hj1 : St1 (i + 1) p3 := D1.over (D1.over sn1 hp2 S.sep2_1) hp3 S.sep3_1
  have hj2 : St2 (i + 1) p3 := D2.over sn2 hp3 S.sep3_2
  have up : ∀ c o, p3.get? c = some o → (p3.push { cls := .type "tuple", data := .seq #[x1, x2, x3] }).get? c = some o := fun c o e => Heap.get?_push_of_some _ e
  have ht : IsTupOf3 (p3.push { cls := .type "tuple", data := .seq #[x1, x2, x3] }) p3.objs.size x1 x2 x3 := Heap.get?_push_size _ rfl
  have hz4 : (p3.push { cls := .type "tuple", data := .seq #[x1, x2, x3] }).objs.size = p3.objs.size + 1 := Heap.size_push ..
  refine wpAny_pure ⟨_, rfl, ?_⟩
  show Q (.ref p3.objs.size) ⟨p3.push { cls := .type "tuple", data := .seq #[x1, x2, x3] }, g, d, tk3, os⟩
  rw [hsz] at ht hz4 ⊢
  exact hQ x1 x2 x3 _ tk3 hx1 hx2 hx3 (up _ _ hzz) (D1.frame _ _ _ hj1 fun b hb o e => up b o e) (D2.frame _ _ _ hj2 fun b hb o e => up b o e) (D3.frame _ _ _ sn3 fun b hb o e => up b o e) ht hz4 fun c o cz c1 c2 c3 e => up c o (hkk c o cz c1 c2 c3 e)
theorem zip3_end_held {Q : Fin → Shared → Prop} (S : ZipSep3 z TI TO i1 i2 i3 fp1 fp2 fp3) (D1 : Draws prog w A i1 fp1 n1 P1 St1) (D2 : Draws prog w A i2 fp2 n2 P2 St2) (D3 : Draws prog w A i3 fp3 n3 P3 St3)
    (hz : IsZipHeld s.heap z TI TO T f) (hT : s.heap.get? T = some oT) (hTI : IsTupOf3 s.heap TI (.ref i1) (.ref i2) (.ref i3)) (st1 : St1 i s.heap) (st2 : St2 i s.heap) (st3 : St3 i s.heap) (hle1 : i ≤ n1) (hle2 : i ≤ n2) (hle3 : i ≤ n3) (hend : i = n1 ∨ i = n2 ∨ i = n3)
    (hE : ∀ h' tk e, (∀ c o, c ≠ z → c ≠ i1 → c ≠ i2 → c ≠ i3 → s.heap.get? c = some o → h'.get? c = some o) → (∃ o, h'.get? e = some o ∧ o.cls = .type "StopIteration") → E (.ref e) { s with heap := h', toks := tk }) :
    wpAny (model prog w) A (Builtin.«zip.__next__» ⟨[.ref z], []⟩) Q E s := by
  obtain ⟨hp, g, d, tk0, os⟩ := s
  show wpAny _ _ (field (.ref z) 2 >>= _) _ _ _
  refine wpAny_bind (wpAny_field hz rfl (x := .bool false) rfl ?_)
  show wpAny _ _ (field (.ref z) 3 >>= _) _ _ _
  refine wpAny_bind (wpAny_field hz rfl (x := .ref TI) rfl ?_)
  refine wpAny_bind (wpAny_seqItems hTI rfl ?_)
  show wpAny _ _ (Builtin.SmallTypes.ownedTupleIsFree (.ref z) >>= _) _ _ _
  refine wpAny_bind (wpAny_tupleHeld_zip hz hT fun g0 hz0 hs0 => ?_)
  replace hs0 : Heap.SameBut z hp g0 := hs0
  simp only [Bool.false_eq_true, if_false]
  refine wpAny_bind ?_
  rw [← Array.forIn_toList]
  simp only [List.forIn_cons, List.forIn_nil]
  refine wpAny_bind (wpAny_bind (wpAny_holding ?_))
  show wpAny _ _ (Builtin.SmallTypes.nextOf (.ref i1) >>= _) _ _ ⟨g0, g, d, tk0, os⟩
  by_cases hlt1 : i < n1
  · refine wpAny_bind (D1.item i _ _ _ hlt1 (D1.over st1 hs0 S.zf1) fun x1 p1 tk1 hx1 sn1 hp1 => wpAny_pure ?_)
    replace hp1 : Heap.SameBut i1 g0 p1 := hp1
    refine wpAny_pure ?_
    refine wpAny_bind (wpAny_bind (wpAny_holding ?_))
    show wpAny _ _ (Builtin.SmallTypes.nextOf (.ref i2) >>= _) _ _ ⟨p1, g, d, tk1, os⟩
    by_cases hlt2 : i < n2
    · refine wpAny_bind (D2.item i _ _ _ hlt2 (D2.over (D2.over st2 hs0 S.zf2) hp1 S.sep1_2) fun x2 p2 tk2 hx2 sn2 hp2 => wpAny_pure ?_)
      replace hp2 : Heap.SameBut i2 p1 p2 := hp2
      refine wpAny_pure ?_
      refine wpAny_bind (wpAny_bind (wpAny_holding ?_))
      show wpAny _ _ (Builtin.SmallTypes.nextOf (.ref i3) >>= _) _ _ ⟨p2, g, d, tk2, os⟩
      have hi3 : i = n3 := by omega
      refine wpAny_bind (D3.done ⟨p2, g, d, tk2, os⟩ _ _ (by rw [← hi3]; exact D3.over (D3.over (D3.over st3 hs0 S.zf3) hp1 S.sep1_3) hp2 S.sep2_3) fun q e hq he => ?_)
      replace hq : Heap.ExtBut i3 p2 q := hq
      exact hE q tk2 e (fun c o cz c1 c2 c3 x => hq _ _ c3 (hp2.extBut _ _ c2 (hp1.extBut _ _ c1 (hs0.extBut _ _ cz x)))) he
    · have hi2 : i = n2 := by omega
      refine wpAny_bind (D2.done ⟨p1, g, d, tk1, os⟩ _ _ (by rw [← hi2]; exact D2.over (D2.over st2 hs0 S.zf2) hp1 S.sep1_2) fun q e hq he => ?_)
      replace hq : Heap.ExtBut i2 p1 q := hq
      exact hE q tk1 e (fun c o cz c1 c2 c3 x => hq _ _ c2 (hp1.extBut _ _ c1 (hs0.extBut _ _ cz x))) he
  · have hi1 : i = n1 := by omega
    refine wpAny_bind (D1.done ⟨g0, g, d, tk0, os⟩ _ _ (by rw [← hi1]; exact D1.over st1 hs0 S.zf1) fun q e hq he => ?_)
    replace hq : Heap.ExtBut i1 g0 q := hq
    exact hE q tk0 e (fun c o cz c1 c2 c3 x => hq _ _ c1 (hs0.extBut _ _ cz x)) he

/-- a zip over three before turn i, its tuples held or none made -/
structure ZS (h : Heap) (z TI TO i1 i2 i3 : Addr) (St1 St2 St3 : Nat → Heap → Prop) (i : Nat) : Prop where
  here : (IsZip h z TI TO .none ∧ ∃ x y u, IsTupOf3 h TO x y u) ∨ ∃ T f oT, IsZipHeld h z TI TO T f ∧ h.get? T = some oT
  ti : IsTupOf3 h TI (.ref i1) (.ref i2) (.ref i3)
  s1 : St1 i h
  s2 : St2 i h
  s3 : St3 i h
theorem ZS.next {Q : Option Value → Shared → Prop} (S : ZipSep3 z TI TO i1 i2 i3 fp1 fp2 fp3) (D1 : Draws prog w A.in1 i1 fp1 n1 P1 St1) (D2 : Draws prog w A.in1 i2 fp2 n2 P2 St2) (D3 : Draws prog w A.in1 i3 fp3 n3 P3 St3) (Z : ZS s.heap z TI TO i1 i2 i3 St1 St2 St3 i) (hlt1 : i < n1) (hlt2 : i < n2) (hlt3 : i < n3)
    (hQ : ∀ x1 x2 x3 h' tk, P1 i x1 → P2 i x2 → P3 i x3 → ZS h' z TI TO i1 i2 i3 St1 St2 St3 (i + 1) → IsTupOf3 h' s.heap.objs.size x1 x2 x3 → h'.objs.size = s.heap.objs.size + 1 →
      (∀ c o, c ≠ z → c ≠ TO → c ≠ i1 → c ≠ i2 → c ≠ i3 → s.heap.get? c = some o → h'.get? c = some o) → Q (some (.ref s.heap.objs.size)) { s with heap := h', toks := tk }) : wpAny (model prog w) A (pyNext (.ref z)) Q E s := by
  obtain ⟨hh, hTI, st1, st2, st3⟩ := Z
  rcases hh with ⟨hz, a1, a2, a3, hTO⟩ | ⟨T, f, oT, hz, hT⟩
  · refine wpAny_pyNext_zipD3_item S D1 D2 D3 hz hTI hTO st1 st2 st3 hlt1 hlt2 hlt3 fun x1 x2 x3 h' tk y1 y2 y3 b1 b2 d1 d2 d3 b5 b6 hk => ?_
    exact hQ x1 x2 x3 h' tk y1 y2 y3 ⟨.inr ⟨_, false, _, b1, b5⟩, hk _ _ S.TIz S.TITO S.TIi1 S.TIi2 S.TIi3 hTI, d1, d2, d3⟩ b5 b6 hk
  · have hTy : s.TypeIs (.ref z) "zip" := ⟨_, hz, rfl⟩
    unfold pyNext
    refine wpAny_bind (wpAny_attempt (wpAny_callSpecial?_slot (name := Str.ofString "__next__") hTy F.slot_zip_next
      (wpAny_call_entry F.slot_zip_next hTy F.entry_zip_next
        (zip3_item_held S D1 D2 D3 hz hT hTI st1 st2 st3 hlt1 hlt2 hlt3 fun x1 x2 x3 h' tk y1 y2 y3 b1 d1 d2 d3 b5 b6 hk => wpAny_pure (hQ x1 x2 x3 h' tk y1 y2 y3 ⟨.inr ?_, hk _ _ S.TIz S.TIi1 S.TIi2 S.TIi3 hTI, d1, d2, d3⟩ b5 b6 fun c o cz _ c1 c2 c3 e => hk c o cz c1 c2 c3 e)) (F.args_zip_next_1 _))))
    by_cases e : T = z ∨ T = i1 ∨ T = i2 ∨ T = i3
    · rcases e with rfl | rfl | rfl | rfl
      · exact ⟨_, true, _, b1, b1⟩
      · obtain ⟨o, ho⟩ := D1.live _ _ d1
        exact ⟨_, true, _, b1, ho⟩
      · obtain ⟨o, ho⟩ := D2.live _ _ d2
        exact ⟨_, true, _, b1, ho⟩
      · obtain ⟨o, ho⟩ := D3.live _ _ d3
        exact ⟨_, true, _, b1, ho⟩
    · simp only [not_or] at e
      exact ⟨T, true, oT, b1, hk T oT e.1 e.2.1 e.2.2.1 e.2.2.2 hT⟩
theorem ZS.done {Q : Option Value → Shared → Prop} (S : ZipSep3 z TI TO i1 i2 i3 fp1 fp2 fp3) (D1 : Draws prog w A.in1 i1 fp1 n1 P1 St1) (D2 : Draws prog w A.in1 i2 fp2 n2 P2 St2) (D3 : Draws prog w A.in1 i3 fp3 n3 P3 St3) (Z : ZS s.heap z TI TO i1 i2 i3 St1 St2 St3 i) (hle1 : i ≤ n1) (hle2 : i ≤ n2) (hle3 : i ≤ n3) (hend : i = n1 ∨ i = n2 ∨ i = n3)
    (hQ : ∀ h' tk, (∀ c o, c ≠ z → c ≠ TO → c ≠ i1 → c ≠ i2 → c ≠ i3 → s.heap.get? c = some o → h'.get? c = some o) → Q none { s with heap := h', toks := tk }) : wpAny (model prog w) A (pyNext (.ref z)) Q E s := by
  obtain ⟨hh, hTI, st1, st2, st3⟩ := Z
  rcases hh with ⟨hz, a1, a2, a3, hTO⟩ | ⟨T, f, oT, hz, hT⟩
  · exact wpAny_pyNext_zipD3_end S D1 D2 D3 hz hTI hTO st1 st2 st3 hle1 hle2 hle3 hend hQ
  · have hTy : s.TypeIs (.ref z) "zip" := ⟨_, hz, rfl⟩
    unfold pyNext
    refine wpAny_bind (wpAny_attempt (wpAny_callSpecial?_slot (name := Str.ofString "__next__") hTy F.slot_zip_next
      (wpAny_call_entry F.slot_zip_next hTy F.entry_zip_next (zip3_end_held S D1 D2 D3 hz hT hTI st1 st2 st3 hle1 hle2 hle3 hend fun h' tk e hk he => ?_) (F.args_zip_next_1 _))))
    obtain ⟨o, ho, hc⟩ := he
    refine wpAny_bind (wpAny_isInstance (T := "StopIteration") (b := true) ⟨o, ho, hc⟩ isSubtype_stop ?_)
    exact wpAny_pure (hQ _ _ fun c o cz _ c1 c2 c3 e => hk c o cz c1 c2 c3 e)
theorem ZS.up {h h' : Heap} {Sx : Addr} (D1 : Draws prog w A.in1 i1 fp1 n1 P1 St1) (D2 : Draws prog w A.in1 i2 fp2 n2 P2 St2) (D3 : Draws prog w A.in1 i3 fp3 n3 P3 St3) (Z : ZS h z TI TO i1 i2 i3 St1 St2 St3 i) (hk : ∀ b o, b ≠ Sx → h.get? b = some o → h'.get? b = some o) (hS : ∃ o, h'.get? Sx = some o) (nz : z ≠ Sx) (nT : TI ≠ Sx) (nO : TO ≠ Sx)
    (m1 : ∀ b ∈ fp1, b ≠ Sx) (m2 : ∀ b ∈ fp2, b ≠ Sx) (m3 : ∀ b ∈ fp3, b ≠ Sx) : ZS h' z TI TO i1 i2 i3 St1 St2 St3 i := by
  obtain ⟨hh, hTI, st1, st2, st3⟩ := Z
  refine ⟨?_, hk _ _ nT hTI, D1.frame _ _ _ st1 fun b hb o e => hk b o (m1 b hb) e, D2.frame _ _ _ st2 fun b hb o e => hk b o (m2 b hb) e, D3.frame _ _ _ st3 fun b hb o e => hk b o (m3 b hb) e⟩
  rcases hh with ⟨hz, a1, a2, a3, hTO⟩ | ⟨T, f, oT, hz, hT⟩
  · exact .inl ⟨hk _ _ nz hz, a1, a2, a3, hk _ _ nO hTO⟩
  · by_cases e : T = Sx
    · subst e
      obtain ⟨o, ho⟩ := hS
      exact .inr ⟨T, f, o, hk _ _ nz hz, ho⟩
    · exact .inr ⟨T, f, oT, hk _ _ nz hz, hk _ _ e hT⟩
end
end KX

set_option maxRecDepth 100000
set_option maxHeartbeats 1000000
namespace KX
open PySem PySem.Spec PyProof.Rows L2 PySem.W PySem.Calls
open Sem (wp)

structure Made3 (S z TO i1 i2 i3 : Addr) (P1 P2 P3 : Nat → Value → Prop) (h : Heap) (as : List Addr) : Prop where
  rise : as.Pairwise (· < ·)
  above : ∀ a ∈ as, S < a ∧ a ≠ z ∧ a ≠ TO ∧ a ≠ i1 ∧ a ≠ i2 ∧ a ≠ i3
  trip : ∀ (j : Nat) (a : Addr), as[j]? = some a → ∃ x y u, P1 j x ∧ P2 j y ∧ P3 j u ∧ IsTupOf3 h a x y u
theorem Made3.there {S z TO i1 i2 i3 : Addr} {P1 P2 P3 : Nat → Value → Prop} {h : Heap} {as : List Addr} (g : Made3 S z TO i1 i2 i3 P1 P2 P3 h as) {a : Addr} (ha : a ∈ as) : a < h.objs.size := by
  obtain ⟨j, hj⟩ := List.mem_iff_getElem?.mp ha
  obtain ⟨_, _, _, _, _, _, e⟩ := g.trip j a hj
  exact Heap.lt_size e
theorem Made3.up {S z TO i1 i2 i3 : Addr} {P1 P2 P3 : Nat → Value → Prop} {h h' : Heap} {as : List Addr} (g : Made3 S z TO i1 i2 i3 P1 P2 P3 h as) (k : ∀ b o, b ∈ as → h.get? b = some o → h'.get? b = some o) : Made3 S z TO i1 i2 i3 P1 P2 P3 h' as :=
  ⟨g.rise, g.above, fun j a hj => by
    obtain ⟨x, y, u, h1, h2, h3, e⟩ := g.trip j a hj
    exact ⟨x, y, u, h1, h2, h3, k a _ (List.mem_of_getElem? hj) e⟩⟩
section
variable {prog : Program} {w : World} {A : Around} {E : Value → Shared → Prop} {s : Shared} {R : Result → Shared → Prop} {z TI TO i1 i2 i3 T : Addr} {fp1 fp2 fp3 : List Addr} {n1 n2 n3 n : Nat} {P1 P2 P3 : Nat → Value → Prop} {St1 St2 St3 : Nat → Heap → Prop}
theorem loop3 {S : Addr} (D : ZipSep3 z TI TO i1 i2 i3 fp1 fp2 fp3) (D1 : Draws prog w A.in1.in1 i1 fp1 n1 P1 St1) (D2 : Draws prog w A.in1.in1 i2 fp2 n2 P2 St2) (D3 : Draws prog w A.in1.in1 i3 fp3 n3 P3 St3) (hn : n = min (min n1 n2) n3) (hz : n ≤ sizeLine) (hSz : z < S) (hSI : TI ≠ S) (hSO : TO ≠ S) (m1 : ∀ b ∈ fp1, b ≠ S) (m2 : ∀ b ∈ fp2, b ≠ S) (m3 : ∀ b ∈ fp3, b ≠ S) (res : Value) {h₁ : Heap}
    (hR : ∀ h' tk acc c as, (∀ b o, b ≠ S → b ≠ z → b ≠ TO → b ≠ i1 → b ≠ i2 → b ≠ i3 → h₁.get? b = some o → h'.get? b = some o) → h'.get? S = some { cls := .type "list", dict := none, data := .seq acc c, slots := #[] } → as.length = n → Made3 S z TO i1 i2 i3 P1 P2 P3 h' as →
      acc.toList = as.map Value.ref → R (.ok (.ret res)) { s with heap := h', toks := tk }) :
    ∀ (k i : Nat) (h : Heap) (tk c : Nat) (acc : Array Value) (as : List Addr), n - i = k → i ≤ n → ZS h z TI TO i1 i2 i3 St1 St2 St3 i → (∀ b o, b ≠ S → b ≠ z → b ≠ TO → b ≠ i1 → b ≠ i2 → b ≠ i3 → h₁.get? b = some o → h.get? b = some o) →
      h.get? S = some { cls := .type "list", dict := none, data := .seq acc c, slots := #[] } → acc.toList = as.map Value.ref → as.length = i → Made3 S z TO i1 i2 i3 P1 P2 P3 h as → TO < h.objs.size →
      codeAny (model prog w) A (.builtin "list.extend.loop" ⟨[.ref S, .ref z, res], []⟩) R { s with heap := h, toks := tk } := by
  have n1S : i1 ≠ S := m1 _ D.mem1
  have n2S : i2 ≠ S := m2 _ D.mem2
  have n3S : i3 ≠ S := m3 _ D.mem3
  have nzS : z ≠ S := Nat.ne_of_lt hSz
  intro k
  induction k with
  | zero =>
    intro i h tk c acc as hk hi hst hkeep hS hacc hal hG hOs
    refine codeAny_builtin PySem.F.entry_extend_loop ?_
    rw [Around.under_plainId PySem.F.plain_extend_loop _]
    show wpAny _ A.in1 (pyNext (.ref z) >>= _) _ _ _
    refine wpAny_bind (ZS.done (s := { s with heap := h, toks := tk }) D D1 D2 D3 hst (by omega) (by omega) (by omega) (by omega) fun h' tk' he => ?_)
    refine wpAny_pure (hR h' tk' acc c as (fun b o q0 q1 q2 q3 q4 q5 e => he b o q1 q2 q3 q4 q5 (hkeep b o q0 q1 q2 q3 q4 q5 e)) (he S _ nzS.symm hSO.symm n1S.symm n2S.symm n3S.symm hS) (by omega) (hG.up fun b o hb e => ?_) hacc)
    obtain ⟨_, a1, a2, a3, a4, a5⟩ := hG.above b hb
    exact he b o a1 a2 a3 a4 a5 e
  | succ k ih =>
    intro i h tk c acc as hk hi hst hkeep hS hacc hal hG hOs
    have hlt : i < n := by omega
    have hsz : acc.size = i := by rw [← Array.length_toList, hacc, List.length_map, hal]
    have hSl : S < h.objs.size := Heap.lt_size hS
    have live : ∀ {c : Addr}, (∃ o, h.get? c = some o) → h.objs.size ≠ c := fun ⟨o, e⟩ => Nat.ne_of_gt (Heap.lt_size e)
    have lz : h.objs.size ≠ z := by
      rcases hst.here with ⟨e, _⟩ | ⟨_, _, _, e, _⟩
      · exact live ⟨_, e⟩
      · exact live ⟨_, e⟩
    have l1 := live (D1.live _ _ hst.s1)
    have l2 := live (D2.live _ _ hst.s2)
    have l3 := live (D3.live _ _ hst.s3)
    refine codeAny_builtin PySem.F.entry_extend_loop ?_
    rw [Around.under_plainId PySem.F.plain_extend_loop _]
    show wpAny _ A.in1 (pyNext (.ref z) >>= _) _ _ _
    refine wpAny_bind (ZS.next (s := { s with heap := h, toks := tk }) D D1 D2 D3 hst (by omega) (by omega) (by omega) fun x1 x2 x3 h' tk' y1 y2 y3 hst' ht hz' hkp => ?_)
    dsimp only at ht hz' hkp ⊢
    have hS' := hkp S _ nzS.symm hSO.symm n1S.symm n2S.symm n3S.symm hS
    have up : ∀ b o, b ≠ S → h'.get? b = some o → (h'.update S (Obj.mapSeq (·.push (Value.ref h.objs.size)))).get? b = some o := fun b o hb e => (Heap.get?_update_other _ _ (Ne.symm hb)).trans e
    show wpAny _ A.in1 (updateSeq S (·.push (Value.ref h.objs.size)) >>= _) _ _ _
    refine wpAny_bind ?_
    refine wpAny_updateSeq hS' rfl (wpAny_pure ⟨plainId_quiet PySem.F.plain_extend_loop _, ih (i + 1) _ tk' _ (acc.push (Value.ref h.objs.size)) (as ++ [h.objs.size]) (by omega) hlt (ZS.up D1 D2 D3 hst' up ⟨_, Heap.get?_update_self _ hS' rfl⟩ nzS hSI hSO m1 m2 m3)
      (fun b o q0 q1 q2 q3 q4 q5 e => up b o q0 (hkp b o q1 q2 q3 q4 q5 (hkeep b o q0 q1 q2 q3 q4 q5 e))) (Heap.get?_update_self _ hS' rfl) (by rw [Array.toList_push, hacc, List.map_append]; rfl) (by rw [List.length_append, hal]; rfl) ⟨?_, ?_, ?_⟩ ?_⟩) (by rw [hsz]; omega) (by show (acc.push (Value.ref h.objs.size)).size ≤ sizeLine + 1; rw [Array.size_push, hsz]; omega)
    · refine List.pairwise_append.mpr ⟨hG.rise, List.pairwise_singleton _ _, fun a ha b hb => ?_⟩
      rw [List.mem_singleton.mp hb]
      exact hG.there ha
    · intro a ha
      rcases List.mem_append.mp ha with ha | ha
      · exact hG.above a ha
      · rw [List.mem_singleton.mp ha]
        exact ⟨hSl, lz, Nat.ne_of_gt hOs, l1, l2, l3⟩
    · intro j b hj
      rcases Nat.lt_trichotomy j as.length with q | q | q
      · rw [List.getElem?_append_left q] at hj
        obtain ⟨x, y, u, e1, e2, e3, e⟩ := hG.trip j b hj
        obtain ⟨a0, a1, a2, a3, a4, a5⟩ := hG.above b (List.mem_of_getElem? hj)
        exact ⟨x, y, u, e1, e2, e3, up b _ (Nat.ne_of_gt a0) (hkp b _ a1 a2 a3 a4 a5 e)⟩
      · subst q
        have hb : h.objs.size = b := by simpa using hj
        subst hb
        rw [hal]
        exact ⟨x1, x2, x3, y1, y2, y3, up _ _ (Nat.ne_of_gt hSl) ht⟩
      · have hnone : (as ++ [h.objs.size])[j]? = none := List.getElem?_eq_none (by rw [List.length_append, List.length_singleton]; omega)
        rw [hnone] at hj
        cases hj
    · rw [Heap.size_update, hz']
      exact Nat.lt_succ_of_lt hOs
theorem zip_no_len : typeLookup (.type "zip") "__len__" = pure none := am_miss_of_fast (by decide +kernel)
theorem zip_no_hint : typeLookup (.type "zip") "__length_hint__" = pure none := am_miss_of_fast (by decide +kernel)
theorem hint_zip {r : Addr} {Q : Bool → Shared → Prop} (hT : s.TypeIs (.ref r) "zip") (h : Q true s) : wpAny (model prog w) A (Builtin.List.listLengthHint (.ref r)) Q E s := by
  unfold Builtin.List.listLengthHint
  refine wpAny_bind (wpAny_specialOf hT zip_no_len ?_)
  dsimp only
  refine wpAny_ite_split (fun hab => absurd hab (by decide)) (fun _ => ?_)
  refine wpAny_ite_split (fun hab => absurd hab (by decide)) (fun _ => ?_)
  refine wpAny_bind (wpAny_specialOf hT zip_no_hint ?_)
  exact wpAny_pure h
theorem ext3 {S : Addr} (hh : A.handled = none) (D : ZipSep3 z TI TO i1 i2 i3 fp1 fp2 fp3) (D1 : Draws prog w A.in1.in1 i1 fp1 n1 P1 St1) (D2 : Draws prog w A.in1.in1 i2 fp2 n2 P2 St2) (D3 : Draws prog w A.in1.in1 i3 fp3 n3 P3 St3) (hn : n = min (min n1 n2) n3) (hz : n ≤ sizeLine) (hSz : z < S) (hSI : TI ≠ S) (hSO : TO ≠ S) (hOs : TO < s.heap.objs.size) (m1 : ∀ b ∈ fp1, b ≠ S) (m2 : ∀ b ∈ fp2, b ≠ S) (m3 : ∀ b ∈ fp3, b ≠ S) (res : Value) (c₀ : Nat) (hS : s.heap.get? S = some { cls := .type "list", data := .seq #[] c₀ })
    (hst : ZS s.heap z TI TO i1 i2 i3 St1 St2 St3 0) (hzn : IsZip s.heap z TI TO .none)
    (hR : ∀ h' tk acc c as, (∀ b o, b ≠ S → b ≠ z → b ≠ TO → b ≠ i1 → b ≠ i2 → b ≠ i3 → s.heap.get? b = some o → h'.get? b = some o) → h'.get? S = some { cls := .type "list", dict := none, data := .seq acc c, slots := #[] } → as.length = n → Made3 S z TO i1 i2 i3 P1 P2 P3 h' as →
      acc.toList = as.map Value.ref → R (.ok (.ret res)) { s with heap := h', toks := tk }) :
    wpAny (model prog w) A.in1 (Builtin.List.listExtendWith (.ref S) (.ref z) res)
      (fun fin s' => match fin with | .done f => R (.ok f) s' | .again c' => c'.quiet = true ∧ codeAny (model prog w) A c' R s') (fun e s' => R (.error e) s') s := by
  have nzS : z ≠ S := Nat.ne_of_lt hSz
  have hT : s.TypeIs (.ref z) "zip" := ⟨_, hzn, rfl⟩
  unfold Builtin.List.listExtendWith
  refine wpAny_bind (wpAny_typeOf (T := "zip") hT ?_)
  have h1 : Builtin.List.listSameRef (.ref S) (.ref z) = false := by simp [Builtin.List.listSameRef, nzS.symm]
  have h2 : (Value.type "zip" == Value.type "list") = false := by decide
  have h3 : (Value.type "zip" == Value.type "tuple") = false := by decide
  simp only [h1, h2, h3, Bool.or_false, Bool.false_eq_true, if_false]
  refine wpAny_bind (wpAny_pyIter_zip hzn ?_)
  refine wpAny_bind (wpAny_holding (hint_zip hT ?_))
  refine wpAny_ite_split (fun _ => ?_) (fun hab => absurd rfl hab)
  refine wpAny_bind (wpAny_rule ?_)
  refine wpAny_bind ?_
  show wpAny _ _ (updateSeq S (·.push .none) >>= fun _ => updateSeq S (·.pop)) _ _ _
  refine wpAny_bind (wpAny_updateSeq hS rfl ?_)
  have hS₂ := Heap.get?_update_self (Obj.mapSeq (·.push Value.none)) hS rfl
  refine wpAny_updateSeq (hz := by seq_fits) hS₂ rfl ?_
  have hS₃ := Heap.get?_update_self (Obj.mapSeq (·.pop)) hS₂ rfl
  have oth : ∀ b o, b ≠ S → s.heap.get? b = some o → ((s.heap.update S (Obj.mapSeq (·.push Value.none))).update S (Obj.mapSeq (·.pop))).get? b = some o := fun b o hb e => (Heap.get?_update_other _ _ (Ne.symm hb)).trans ((Heap.get?_update_other _ _ (Ne.symm hb)).trans e)
  refine wpAny_pure ⟨plainId_quiet PySem.F.plain_extend_loop _, ?_⟩
  refine loop3 (s := s) (h₁ := s.heap) D D1 D2 D3 hn hz hSz hSI hSO m1 m2 m3 res hR n 0 _ s.toks _ #[] [] (Nat.sub_zero _) (Nat.zero_le _) (ZS.up D1 D2 D3 hst oth ⟨_, hS₃⟩ nzS hSI hSO m1 m2 m3) (fun b o q _ _ _ _ _ e => oth b o q e) hS₃ rfl rfl ⟨List.Pairwise.nil, (fun _ ha => nomatch ha), (fun j a hj => by simp at hj)⟩ ?_
  rw [Heap.size_update, Heap.size_update]
  exact hOs
theorem list_zip3 {Q : Value → Shared → Prop} (hh : A.handled = none) (D : ZipSep3 z TI TO i1 i2 i3 fp1 fp2 fp3) (D1 : Draws prog w A.in1.in1.in1 i1 fp1 n1 P1 St1) (D2 : Draws prog w A.in1.in1.in1 i2 fp2 n2 P2 St2) (D3 : Draws prog w A.in1.in1.in1 i3 fp3 n3 P3 St3) (hn : n = min (min n1 n2) n3) (hz : n ≤ sizeLine)
    (hst : ZS s.heap z TI TO i1 i2 i3 St1 St2 St3 0) (hzn : IsZip s.heap z TI TO .none) (hOs : TO < s.heap.objs.size) (l1 : ∀ b ∈ fp1, b < s.heap.objs.size) (l2 : ∀ b ∈ fp2, b < s.heap.objs.size) (l3 : ∀ b ∈ fp3, b < s.heap.objs.size)
    (hQ : ∀ h' tk acc c as, (∀ b o, b ≠ z → b ≠ TO → b ≠ i1 → b ≠ i2 → b ≠ i3 → s.heap.get? b = some o → h'.get? b = some o) → h'.get? s.heap.objs.size = some { cls := .type "list", dict := none, data := .seq acc c, slots := #[] } → as.length = n → Made3 s.heap.objs.size z TO i1 i2 i3 P1 P2 P3 h' as →
      acc.toList = as.map Value.ref → Q (.ref s.heap.objs.size) { s with heap := h', toks := tk }) :
    wpAny (model prog w) A (call (.type "list") [.ref z]) Q E s := by
  refine callType_codes (Q₁ := fun obj s₁ => obj = .ref s.heap.objs.size ∧ s₁ = { s with heap := s.heap.push { cls := .type "list", data := .seq #[] } }) PySem.F.called_list (PySem.F.typeCall_list_1 _) PySem.F.entry_list_init
    (code_list_new _ ⟨rfl, rfl⟩) fun obj s₁ h₁ => ?_
  obtain ⟨rfl, rfl⟩ := h₁
  have hS : (s.heap.push { cls := .type "list", data := .seq #[] }).get? s.heap.objs.size = some { cls := .type "list", data := .seq #[] } := Heap.get?_push_size _ rfl
  have zl : z < s.heap.objs.size := Heap.lt_size hzn
  have tl : TI < s.heap.objs.size := Heap.lt_size hst.ti
  refine ⟨⟨_, hS, rfl⟩, PySem.F.args_list_init_2 _ _, ?_⟩
  show wpAny _ _ (do let old ← Builtin.List.listItems (.ref s.heap.objs.size); Builtin.List.listUpdate (.ref s.heap.objs.size) (fun _ => #[]); letGo old.toList.reverse; Builtin.List.listExtendWith (.ref s.heap.objs.size) (.ref z) .none) _ _ _
  refine wpAny_bind ?_
  unfold Builtin.List.listItems
  refine wpAny_bind (wpAny_seqItems hS rfl (wpAny_pure ?_))
  show wpAny _ _ (updateSeq s.heap.objs.size (fun _ => #[]) >>= fun _ => letGo (#[] : Array Value).toList.reverse >>= fun _ => Builtin.List.listExtendWith (.ref s.heap.objs.size) (.ref z) .none) _ _ _
  refine wpAny_bind (wpAny_updateSeq hS rfl ?_)
  have hS₂ := Heap.get?_update_self (Obj.mapSeq (fun _ => (#[] : Array Value))) hS rfl
  have oth : ∀ b o, s.heap.get? b = some o → ((s.heap.push { cls := .type "list", data := .seq #[] }).update s.heap.objs.size (Obj.mapSeq (fun _ => (#[] : Array Value)))).get? b = some o :=
    fun b o e => (Heap.get?_update_other _ _ (Nat.ne_of_gt (Heap.lt_size e))).trans (Heap.get?_push_of_some _ e)
  refine wpAny_bind (wpAny_letGo ?_)
  refine ext3 (s := { s with heap := (s.heap.push { cls := .type "list", data := .seq #[] }).update s.heap.objs.size (Obj.mapSeq (fun _ => (#[] : Array Value))) }) (A := A.in1) hh D D1 D2 D3 hn hz zl (Nat.ne_of_lt tl) (Nat.ne_of_lt hOs) ?_ (fun b hb => Nat.ne_of_lt (l1 b hb)) (fun b hb => Nat.ne_of_lt (l2 b hb)) (fun b hb => Nat.ne_of_lt (l3 b hb)) .none _ hS₂
    (ZS.up D1 D2 D3 hst (Sx := s.heap.objs.size) (fun b o _ e => oth b o e) ⟨_, hS₂⟩ (Nat.ne_of_lt zl) (Nat.ne_of_lt tl) (Nat.ne_of_lt hOs) (fun b hb => Nat.ne_of_lt (l1 b hb)) (fun b hb => Nat.ne_of_lt (l2 b hb)) (fun b hb => Nat.ne_of_lt (l3 b hb))) (oth _ _ hzn) fun h' tk acc c as hk hS' hl hG hacc => ?_
  · show TO < ((s.heap.push _).update _ _).objs.size
    rw [Heap.size_update, Heap.size_push]
    exact Nat.lt_succ_of_lt hOs
  · exact ⟨rfl, hQ h' tk acc c as (fun b o q1 q2 q3 q4 q5 e => hk b o (Nat.ne_of_lt (Heap.lt_size e)) q1 q2 q3 q4 q5 (oth b o e)) hS' hl hG hacc⟩
end
end KX

set_option maxRecDepth 100000
set_option maxHeartbeats 1000000
namespace KX
open PySem PySem.Spec PyProof.Rows L2 PySem.W PySem.Calls
open Sem (wp)
theorem vals_refsA : ∀ bs : List Addr, Vals (bs.map V.ref) (bs.map Value.ref)
  | [] => .nil
  | _ :: r => .cons rfl (vals_refsA r)
def tListZip3 (K : PySem.W.Frag) (ta : TA) : TE := fun σ H Q => ta σ H fun vs H1 => ∃ (l m n : Bool) (a b c : Addr) (xs ys zs : List V), vs = [.ref a, .ref b, .ref c] ∧ SqA K l H1 a xs ∧ SqA K m H1 b ys ∧ SqA K n H1 c zs ∧
  ∀ (H2 : Hp) (L : Addr) (as : List Addr), (∀ b o, H1 b = some o → H2 b = some o) → as.length = min (min xs.length ys.length) zs.length → (∀ (j : Nat) (p : Addr), as[j]? = some p → ∃ x y u, xs[j]? = some x ∧ ys[j]? = some y ∧ zs[j]? = some u ∧ H2 p = some (.tup [x, y, u]) ∧ H1 p = none) →
    H1 L = none → H2 L = some (.lst (as.map V.ref)) → Q (.ref L) H2
theorem pe_listZip3 {X : Cx} {e e2 e3 : Expr} {ta : TA} {p p2 pos pos2 : Pos} (hc : X.calm = true) (hg2 : Gl X "list") (hm2 : X.mg "list" = none) (hg : Gl X "zip") (hm : X.mg "zip" = none) (ha : PA X [e, e2, e3] ta)
    (hs : starEach [e, e2, e3] X.env = (false, eval e X.env) :: starEach [e2, e3] X.env := by rfl) (hpl : (backTo pos (starEach [e2, e3] X.env)).any (·.1) = false := by rfl)
    (na : starEach [Expr.Call (.Name "zip" p) [e, e2, e3] [] pos] X.env = (false, eval (Expr.Call (.Name "zip" p) [e, e2, e3] [] pos) X.env) :: starEach [] X.env := by rfl) :
    PE X (.Call (.Name "list" p2) [.Call (.Name "zip" p) [e, e2, e3] [] pos] [] pos2) (tListZip3 X.K ta) := by
  refine ⟨fun pins s σ H Q I h => ?_⟩
  have inner : wpAny (model X.prog X.w) X.A (eval (Expr.Call (.Name "zip" p) [e, e2, e3] [] pos) X.env) (fun r s' => wpAny (model X.prog X.w) X.A (call (.type "list") [r]) (fun r s' => ∃ x H', Inv X pins σ H' s' ∧ RelV x r ∧ Q x H') X.xe s') X.xe s := by
    refine Call_ (ld_blt I hg hm PyProof.Rows.boot_zip (PyProof.Rows.callWith_type1 (thn (ha.run pos pins s σ H _ I h) fun us s1 ⟨vs, H1, I1, r1, q1⟩ => ?_) hs hpl))
    obtain ⟨l, m, n, a, b, c, xs, ys, zs, ex, hqx, hqy, hqz, q⟩ := q1
    subst ex
    obtain rfl : us = [.ref a, .ref b, .ref c] := by
      cases r1 with
      | cons p1 r1 =>
        cases r1 with
        | cons p2 r1 =>
          cases r1 with
          | cons p3 r1 =>
            cases r1
            cases p1
            cases p2
            cases p3
            rfl
    obtain ⟨its, rv, hA, la⟩ := seqA I1 hqx
    obtain ⟨its2, rv2, hA2, lb⟩ := seqA I1 hqy
    obtain ⟨its3, rv3, hA3, lc⟩ := seqA I1 hqz
    refine zip_begins3 (begins_A l a its.toArray) (begins_A m b its2.toArray) (begins_A n c its3.toArray) hA hA2 hA3 fun h' hz hTI hTO h1 h2 h3 hsz hk => ?_
    have D : ZipSep3 (s1.heap.objs.size + 5) (s1.heap.objs.size + 3) (s1.heap.objs.size + 4) s1.heap.objs.size (s1.heap.objs.size + 1) (s1.heap.objs.size + 2) [s1.heap.objs.size, a] [s1.heap.objs.size + 1, b] [s1.heap.objs.size + 2, c] :=
      zip_sep3 (fp1 := [a]) (fp2 := [b]) (fp3 := [c]) (fun d hd => by simp at hd; rw [hd]; exact la) (fun d hd => by simp at hd; rw [hd]; exact lb) (fun d hd => by simp at hd; rw [hd]; exact lc)
    have sz6 : s1.heap.objs.size + 6 ≤ h'.objs.size := by omega
    have na : a ≠ s1.heap.objs.size := Nat.ne_of_lt la
    have nb : b ≠ s1.heap.objs.size + 1 := Nat.ne_of_lt (Nat.lt_succ_of_lt lb)
    have nc : c ≠ s1.heap.objs.size + 2 := Nat.ne_of_lt (Nat.lt_succ_of_lt (Nat.lt_succ_of_lt lc))
    have hh := I.ok.hd hc
    have D1 := draws_A (prog := X.prog) (w := X.w) (A := X.A.in1.in1.in1) hh l s1.heap.objs.size a na its.toArray
    have D2 := draws_A (prog := X.prog) (w := X.w) (A := X.A.in1.in1.in1) hh m (s1.heap.objs.size + 1) b nb its2.toArray
    have D3 := draws_A (prog := X.prog) (w := X.w) (A := X.A.in1.in1.in1) hh n (s1.heap.objs.size + 2) c nc its3.toArray
    have has : ∀ {l : Bool} {a : Addr} {its : Array Value}, HasA l s1.heap a its → HasA l h' a its := fun {l a its} h => by
      cases l with
      | true => obtain ⟨o, ho, x⟩ := (h : s1.heap.IsList a its); exact ⟨o, hk _ _ ho, x⟩
      | false => obtain ⟨o, ho, x⟩ := (h : s1.heap.IsTuple a its); exact ⟨o, hk _ _ ho, x⟩
    have len1 := rv.length
    have len2 := rv2.length
    have len3 := rv3.length
    have hzl : xs.length ≤ sizeLine := by
      cases l with
      | true => obtain ⟨_, _, _, z⟩ := I1.list hqx; exact z
      | false => obtain ⟨_, _, _, z⟩ := I1.tuple hqx; exact z
    refine list_zip3 (s := { s1 with heap := h' }) (n := min (min its.toArray.size its2.toArray.size) its3.toArray.size) hh D D1 D2 D3 rfl (by simp; omega) ⟨.inl ⟨hz, _, _, _, hTO⟩, hTI, ⟨itrA_of h1, has hA⟩, ⟨itrA_of h2, has hA2⟩, ⟨itrA_of h3, has hA3⟩⟩ hz (by show _ < h'.objs.size; omega) (fun d hd => ?_) (fun d hd => ?_) (fun d hd => ?_) fun h2 tk acc cc as hk2 hS hl hG hacc => ?_
    · show d < h'.objs.size
      simp only [List.mem_cons, List.not_mem_nil, or_false] at hd
      rcases hd with rfl | rfl
      · exact Nat.lt_of_lt_of_le (Nat.add_lt_add_left (by decide : 0 < 6) _) sz6
      · exact Nat.lt_of_lt_of_le (Nat.lt_of_lt_of_le la (Nat.le_add_right _ 6)) sz6
    · show d < h'.objs.size
      simp only [List.mem_cons, List.not_mem_nil, or_false] at hd
      rcases hd with rfl | rfl
      · exact Nat.lt_of_lt_of_le (Nat.add_lt_add_left (by decide : 1 < 6) _) sz6
      · exact Nat.lt_of_lt_of_le (Nat.lt_of_lt_of_le lb (Nat.le_add_right _ 6)) sz6
    · show d < h'.objs.size
      simp only [List.mem_cons, List.not_mem_nil, or_false] at hd
      rcases hd with rfl | rfl
      · exact Nat.lt_of_lt_of_le (Nat.add_lt_add_left (by decide : 2 < 6) _) sz6
      · exact Nat.lt_of_lt_of_le (Nat.lt_of_lt_of_le lc (Nat.le_add_right _ 6)) sz6
    · -- the heap at the end
      have lt : ∀ b o, s1.heap.get? b = some o → b < s1.heap.objs.size := fun b o e => Heap.lt_size e
      have kk : ∀ b o, s1.heap.get? b = some o → h2.get? b = some o := fun b o e => by
        have := lt b o e
        have ne : ∀ k, b ≠ s1.heap.objs.size + k := fun k => Nat.ne_of_lt (Nat.lt_of_lt_of_le this (Nat.le_add_right _ k))
        exact hk2 b o (ne 5) (ne 4) (ne 0) (ne 1) (ne 2) (hk b o e)
      have hS : h2.get? h'.objs.size = some { cls := .type "list", dict := none, data := .seq acc cc, slots := #[] } := hS
      have rvl : Vals (as.map V.ref) acc.toList := by rw [hacc]; exact vals_refsA as
      have Ln : H1 h'.objs.size = none := I1.hok.fresh (by omega)
      have I2 : Inv X pins σ (upd H1 h'.objs.size (.lst (as.map V.ref))) { s1 with heap := h2, toks := tk } := I1.laid (t' := tk) kk (by omega) ⟨by rw [List.length_map, hl]; simp; omega, acc.toList, cc, rvl, by rw [Array.toArray_toList]; exact hS⟩
      have nd : as.Nodup := List.Pairwise.imp (fun h => Nat.ne_of_lt h) hG.rise
      have gt : ∀ d ∈ as, h'.objs.size < d := fun d hd => (hG.above d hd).1
      have getv : ∀ {xs : List V} {its : List Value} {j : Nat} {u : Value}, Vals xs its → its.toArray[j]? = some u → ∃ x, xs[j]? = some x ∧ RelV x u := fun {xs its j u} r h => by
        have h : its[j]? = some u := by simpa using h
        have hl := (List.getElem?_eq_some_iff.mp h).1
        have e := r.length
        have hx : j < xs.length := by omega
        obtain ⟨u', hu, ru⟩ := r.get (List.getElem?_eq_getElem hx)
        rw [h] at hu
        cases hu
        exact ⟨_, List.getElem?_eq_getElem hx, ru⟩
      obtain ⟨H2, I3, g, qt⟩ := L2.DX.takeT (X := X) (P := fun p vs => ∃ j x y u, as[j]? = some p ∧ vs = [x, y, u] ∧ xs[j]? = some x ∧ ys[j]? = some y ∧ zs[j]? = some u) I1 as _ I2 nd fun d hd => by
        obtain ⟨j, hj⟩ := List.mem_iff_getElem?.mp hd
        obtain ⟨x, y, u, e1, e2, e3, et⟩ := hG.trip j d hj
        obtain ⟨x', g1, r1⟩ := getv rv e1
        obtain ⟨y', g2, r2⟩ := getv rv2 e2
        obtain ⟨u', g3, r3⟩ := getv rv3 e3
        have := gt d hd
        exact ⟨by omega, by rw [upd_ne (Nat.ne_of_gt this)]; exact I1.hok.fresh (by omega), [x', y', u'], ⟨j, x', y', u', hj, rfl, g1, g2, g3⟩, fun H2 => ⟨by show 3 ≤ sizeLine; decide, [x, y, u], .cons r1 (.cons r2 (.cons r3 .nil)), _, et, rfl, _, rfl⟩⟩
      refine ⟨.ref h'.objs.size, H2, I3, rfl, q H2 _ as (fun b o e => g b o (by rw [upd_ne (ne_of_none e Ln)]; exact e)) (by rw [hl]; simp [len1, len2, len3]) (fun j p hj => ?_) Ln (g _ _ upd_same)⟩
      obtain ⟨vs, ⟨j', x, y, u, hj', rfl, g1, g2, g3⟩, h2⟩ := qt p (List.mem_of_getElem? hj)
      have ej : j' = j := by
        obtain ⟨b1, c1⟩ := List.getElem?_eq_some_iff.mp hj
        obtain ⟨b2, c2⟩ := List.getElem?_eq_some_iff.mp hj'
        exact (List.getElem?_inj b2 nd).mp (hj'.trans hj.symm)
      subst ej
      have := gt p (List.mem_of_getElem? hj)
      exact ⟨x, y, u, g1, g2, g3, h2, I1.hok.fresh (by omega)⟩
  exact Call_ (ld_blt I hg2 hm2 PyProof.Rows.boot_list (PyProof.Rows.callWith_type1 (args_cons (thn inner fun r s1 h1 => args_nil h1) na) na))
end KX
namespace DW
open PySem L2
/-- the known heap grows with the heap: what is new, and every tuple, is known -/
def known (Hk H H' : Hp) : Hp := fun a => match H a with
  | none => H' a
  | some (.tup xs) => some (.tup xs)
  | some _ => Hk a
theorem known_new {Hk H H' : Hp} {a : Addr} (h : H a = none) : known Hk H H' a = H' a := by
  unfold known
  rw [h]
theorem known_tup {Hk H H' : Hp} {a : Addr} {xs : List V} (h : H a = some (.tup xs)) : known Hk H H' a = some (.tup xs) := by
  unfold known
  rw [h]
theorem known_old {Hk H H' : Hp} {a : Addr} {o : HO} (h : H a = some o) (n : ∀ xs, o ≠ .tup xs) : known Hk H H' a = Hk a := by
  unfold known
  rw [h]
  cases o with
  | tup xs => exact absurd rfl (n xs)
  | _ => rfl
theorem Gr.ofEx {O : Addr → Prop} {Hk H H' : Hp} (e : Ex Hk H) (g : Ex H H') : Gr O Hk H (known Hk H H') H' ∧ Ex (known Hk H H') H' := by
  refine ⟨⟨fun a o h => ?_, fun a o h _ => g a o h, fun a h => ?_, fun a o h mu _ hk => ?_⟩, fun a o h => ?_⟩
  · have ha := e a o h
    by_cases n : ∀ xs, o ≠ .tup xs
    · rw [known_old ha n]
      exact h
    · have : ∃ xs, o = .tup xs := Classical.byContradiction fun z => n fun xs y => z ⟨xs, y⟩
      obtain ⟨xs, rfl⟩ := this
      exact known_tup ha
  · cases q : H a with
    | none => exact absurd q h
    | some o => rw [g a o q]; simp
  · rw [known_old h fun xs z => by rw [z] at mu; exact mu]
    exact hk
  · cases q : H a with
    | none =>
      rw [known_new q] at h
      exact h
    | some u =>
      by_cases n : ∀ xs, u ≠ .tup xs
      · rw [known_old q n] at h
        exact g a o (e a o h)
      · have : ∃ xs, u = .tup xs := Classical.byContradiction fun z => n fun xs y => z ⟨xs, y⟩
        obtain ⟨xs, rfl⟩ := this
        rw [known_tup q] at h
        cases h
        exact g a _ q
section
variable {ρ ρ1 ρ2 : En} {ta tb : TE} {tA : TA} {ds es fs : List PyData} {K : PySem.W.Frag}
/-- list(zip(xs, ys, zs)) -/
def zip3D (ds es fs : List PyData) : List PyData := (List.range (min (min ds.length es.length) fs.length)).map fun i => .tuple [ds.getD i .none, es.getD i .none, fs.getD i .none]
inductive SqD : Bool → PyData → List PyData → Prop
  | l (ds : List PyData) : SqD true (.list ds) ds
  | t (ds : List PyData) : SqD false (.tuple ds) ds
theorem SqD.get {Hk H : Hp} {v : V} {l : Bool} {d : PyData} {ds : List PyData} (e : Ex Hk H) (s : SqD l d ds) (r : Rp Hk v d) : ∃ a xs, v = .ref a ∧ KX.SqA K l H a xs ∧ RpA Hk xs ds ∧ ∀ H', Ex Hk H' → KX.SqA K l H' a xs := by
  cases s with
  | l ds =>
    cases r with
    | @lst a xs _ h r => exact ⟨a, xs, rfl, .of (e _ _ h), r, fun H' e' => .of (e' _ _ h)⟩
  | t ds =>
    cases r with
    | @tup a xs _ h r => exact ⟨a, xs, rfl, .of (e _ _ h), r, fun H' e' => .of (e' _ _ h)⟩
theorem RpA.of_get {Hk : Hp} : ∀ {vs : List V} {ds : List PyData}, vs.length = ds.length → (∀ (j : Nat) (v : V), vs[j]? = some v → ∃ d, ds[j]? = some d ∧ Rp Hk v d) → RpA Hk vs ds
  | [], [], _, _ => .nil
  | [], _ :: _, h, _ => by simp at h
  | _ :: _, [], h, _ => by simp at h
  | v :: vs, d :: ds, h, k => by
    obtain ⟨d', h1, h2⟩ := k 0 v (by simp)
    simp only [List.getElem?_cons_zero, Option.some.injEq] at h1
    subst h1
    exact .cons h2 (RpA.of_get (by simpa using h) fun j v hv => by
      obtain ⟨d', h1, h2⟩ := k (j + 1) v (by simpa using hv)
      exact ⟨d', by simpa using h1, h2⟩)
theorem ed_listZip3 {l m n : Bool} {x y z : PyData} (h : EvA tA ρ [.d x, .d y, .d z] ρ1) (sx : SqD l x ds) (sy : SqD m y es) (sz : SqD n z fs) : EvD (KX.tListZip3 K tA) ρ (.list (zip3D ds es fs)) ρ1 := fun Hk σ H a Q q =>
  h Hk σ H a _ fun vs Hk1 H1 g1 r => by
    have r2 := ArAll.data (ds := [x, y, z]) r
    cases r2 with
    | cons r1 r2 =>
      cases r2 with
      | cons r2 r3 =>
        cases r3 with
        | cons r3 r4 =>
          cases r4
          obtain ⟨p1, xs, rfl, q1, t1, _⟩ := sx.get (K := K) g1.at'.kh r1
          obtain ⟨p2, ys, rfl, q2, t2, _⟩ := sy.get (K := K) g1.at'.kh r2
          obtain ⟨p3, zs, rfl, q3, t3, _⟩ := sz.get (K := K) g1.at'.kh r3
          refine ⟨l, m, n, p1, p2, p3, xs, ys, zs, rfl, q1, q2, q3, fun H2 L as hE hl hT hn hL => ?_⟩
          obtain ⟨gr, e2⟩ := Gr.ofEx (O := fun _ => False) g1.at'.kh hE
          have nw : ∀ a, H1 a = none → known Hk1 H1 H2 a = H2 a := fun a h => known_new h
          have l1 := t1.length
          have l2 := t2.length
          have l3 := t3.length
          refine q _ (known Hk1 H1 H2) H2 (g1.trans (g1.at'.go gr e2)) (.lst (by rw [nw L hn]; exact hL) (RpA.of_get (by simp [zip3D]; omega) fun j v hv => ?_))
          rw [List.getElem?_map] at hv
          cases hj : as[j]? with
          | none => rw [hj] at hv; cases hv
          | some p =>
            rw [hj] at hv
            cases hv
            obtain ⟨x, y, u, g1', g2', g3', h4, h5⟩ := hT j p hj
            have hjl := (List.getElem?_eq_some_iff.mp hj).1
            obtain ⟨dx, f1, w1⟩ := t1.getV g1'
            obtain ⟨dy, f2, w2⟩ := t2.getV g2'
            obtain ⟨dz, f3, w3⟩ := t3.getV g3'
            refine ⟨.tuple [dx, dy, dz], ?_, .tup (by rw [nw p h5]; exact h4) (.cons (w1.ex gr.kk) (.cons (w2.ex gr.kk) (.cons (w3.ex gr.kk) .nil)))⟩
            have : j < min (min ds.length es.length) fs.length := by omega
            unfold zip3D
            rw [List.getElem?_map, List.getElem?_range this]
            simp [f1, f2, f3, List.getD_eq_getElem?_getD]
end
end DW

set_option maxRecDepth 100000
set_option maxHeartbeats 1000000
namespace DW
open PySem PySem.Spec PyProof.Rows L2
section
variable {X : Cx}
/-! in a dict whose keys are tuples; its keys as a list -/
def rInDic : R2 := fun x y H Q => ∃ a b kvs k, x = .ref b ∧ H b = some (.tup (k.map kV)) ∧ y = .ref a ∧ H a = some (.dT kvs) ∧ Q (.bl (valV kvs k).isSome) H
def rNotInDic : R2 := fun x y H Q => ∃ a b kvs k, x = .ref b ∧ H b = some (.tup (k.map kV)) ∧ y = .ref a ∧ H a = some (.dT kvs) ∧ Q (.bl (!(valV kvs k).isSome)) H
theorem op_inDic (hu : X.A.units + 1 < cLine) : OpR X (compareOp .In) rInDic := by
  rintro pins s σ H x y v u Q I rx ry ⟨a, b, kvs, k, rfl, hb, rfl, ha, q⟩
  cases (show u = Value.ref a from ry)
  exact d_in hu I (DGet.t ha hb) rx fun s3 I3 => ⟨.bl _, H, I3, rfl, q⟩
theorem op_notInDic (hu : X.A.units + 1 < cLine) : OpR X (compareOp .NotIn) rNotInDic := by
  rintro pins s σ H x y v u Q I rx ry ⟨a, b, kvs, k, rfl, hb, rfl, ha, q⟩
  cases (show u = Value.ref a from ry)
  exact d_notIn hu I (DGet.t ha hb) rx fun s3 I3 => ⟨.bl _, H, I3, rfl, q⟩
def rListT : List V → Hp → VK → Prop := fun xs H Q => ∃ d kvs, xs = [V.ref d] ∧ Rd H d (.dT kvs) ∧ ∀ p bs, H p = none → IsKeys H kvs bs → Q (.ref p) (upd H p (.lst (bs.map V.ref)))
theorem cr_listT (hc : X.calm = true) : CallR X (.type "list") rListT := call_list_dT hc
end
/-! ### rows of ints -/
def tI (r : List Int) : PyData := .tuple (r.map .int)
def rk (r : List Int) : List Key := r.map Sum.inl
theorem rk_kV (r : List Int) : (rk r).map kV = r.map V.int := by
  unfold rk
  rw [List.map_map]
  rfl
theorem rk_inj {r q : List Int} (h : rk r = rk q) : r = q := by
  have e := congrArg (List.map (fun k : Key => match k with | .inl i => i | .inr _ => 0)) h
  unfold rk at e
  rw [List.map_map, List.map_map] at e
  have f : ((fun k : Key => match k with | .inl i => i | .inr _ => (0 : Int)) ∘ Sum.inl) = (id : Int → Int) := rfl
  rw [f, List.map_id, List.map_id] at e
  exact e
theorem Rp.row {H : Hp} {v : V} {r : List Int} (h : Rp H v (tI r)) : ∃ b, v = .ref b ∧ H b = some (.tup (r.map V.int)) := by
  unfold tI at h
  cases h with
  | @tup a xs _ h1 h2 =>
    rw [h2.ints_inv] at h1
    exact ⟨a, rfl, h1⟩
/-- each once, as first met -/
def dedupI (rs : List (List Int)) : List (List Int) := rs.foldl (fun acc r => if r ∈ acc then acc else acc ++ [r]) []
theorem dedupI_snoc (rs : List (List Int)) (r : List Int) : dedupI (rs ++ [r]) = if r ∈ dedupI rs then dedupI rs else dedupI rs ++ [r] := by
  unfold dedupI
  rw [List.foldl_append]
  rfl
def dcT (rs : List (List Int)) : List (List Key × V) := rs.map fun r => (rk r, V.bl true)
theorem dcT_val (rs : List (List Int)) (r : List Int) : (valV (dcT rs) (rk r)).isSome = decide (r ∈ rs) := by
  induction rs with
  | nil => rfl
  | cons q rs ih =>
    by_cases e : rk q = rk r
    · have := rk_inj e
      subst this
      show (valV ((rk q, V.bl true) :: dcT rs) (rk q)).isSome = _
      simp [valV]
    · show (valV ((rk q, V.bl true) :: dcT rs) (rk r)).isSome = _
      have e2 : r ≠ q := fun z => e (by rw [z])
      have : valV ((rk q, V.bl true) :: dcT rs) (rk r) = valV (dcT rs) (rk r) := by simp [valV, List.find?_cons, e]
      rw [this, ih]
      simp [e2]
theorem dcT_put (rs : List (List Int)) (r : List Int) : putK (dcT rs) (rk r) (V.bl true) = if r ∈ rs then dcT rs else dcT (rs ++ [r]) := by
  unfold putK
  have e : ((dcT rs).any fun kv => decide (kv.1 = rk r)) = decide (r ∈ rs) := by
    rw [← dcT_val, valV_any]
  rw [e]
  by_cases h : r ∈ rs
  · rw [if_pos (by simpa using h), if_pos h]
    have : ∀ l : List (List Int), (dcT l).map (fun kv => if kv.1 = rk r then (kv.1, V.bl true) else kv) = dcT l := fun l => by
      unfold dcT
      rw [List.map_map]
      refine List.map_congr_left fun q _ => ?_
      show (if rk q = rk r then (rk q, V.bl true) else (rk q, V.bl true)) = _
      rw [ite_self]
    exact this rs
  · rw [if_neg (by simpa using h), if_neg h]
    unfold dcT
    rw [List.map_append]
    rfl
theorem dedupI_len (rs : List (List Int)) : (dedupI rs).length ≤ rs.length := by
  have : ∀ (l acc : List (List Int)), (l.foldl (fun acc r => if r ∈ acc then acc else acc ++ [r]) acc).length ≤ acc.length + l.length := by
    intro l
    induction l with
    | nil => intro acc; simp
    | cons r l ih =>
      intro acc
      rw [List.foldl_cons]
      refine Nat.le_trans (ih _) ?_
      split
      · simp only [List.length_cons]; omega
      · simp only [List.length_append, List.length_cons, List.length_nil]; omega
  have := this rs []
  simpa [dedupI] using this

section
variable {ρ ρ1 ρ2 : En} {ta tb te : TE} {tA : TA} {ds es fs : List PyData} {K : PySem.W.Frag} {rows : List (List Int)} {r : List Int} {i j : Nat}
theorem ed_inDic (ha : EvD ta ρ (tI r) ρ1) (hd : ρ1[i]? = some (some (.dic (rows.map rk)))) : EvD (tOp rInDic ta (tVar i)) ρ (.bool (decide (r ∈ rows))) ρ1 := fun Hk σ H a Q q =>
  ha Hk σ H a _ fun v Hk1 H1 g1 r1 => by
    obtain ⟨u, u1, p, rfl, u2⟩ := g1.at'.en i _ hd
    obtain ⟨b, rfl, hb⟩ := r1.row
    have e : (rows.map rk).map (fun k => (k, V.bl true)) = dcT rows := by unfold dcT; rw [List.map_map]; rfl
    rw [e] at u2
    refine ⟨_, u1, p, b, dcT rows, rk r, rfl, by rw [rk_kV]; exact g1.at'.kh _ _ hb, rfl, g1.at'.kh _ _ u2, ?_⟩
    rw [dcT_val]
    exact q _ Hk1 H1 g1 (.bl _)
theorem ed_niDic (ha : EvD ta ρ (tI r) ρ1) (hd : ρ1[i]? = some (some (.dic (rows.map rk)))) : EvD (tOp rNotInDic ta (tVar i)) ρ (.bool (!decide (r ∈ rows))) ρ1 := fun Hk σ H a Q q =>
  ha Hk σ H a _ fun v Hk1 H1 g1 r1 => by
    obtain ⟨u, u1, p, rfl, u2⟩ := g1.at'.en i _ hd
    obtain ⟨b, rfl, hb⟩ := r1.row
    have e : (rows.map rk).map (fun k => (k, V.bl true)) = dcT rows := by unfold dcT; rw [List.map_map]; rfl
    rw [e] at u2
    refine ⟨_, u1, p, b, dcT rows, rk r, rfl, by rw [rk_kV]; exact g1.at'.kh _ _ hb, rfl, g1.at'.kh _ _ u2, ?_⟩
    rw [dcT_val]
    exact q _ Hk1 H1 g1 (.bl _)
theorem keys_rows {H : Hp} : ∀ {rows : List (List Int)} {bs : List Addr}, IsKeys H (dcT rows) bs → (∀ b ∈ bs, ∃ r, H b = some (.tup (List.map V.int r))) ∧ bs.length = rows.length ∧ ∀ (j : Nat) (b : Addr), bs[j]? = some b → ∃ r, rows[j]? = some r ∧ H b = some (.tup (r.map V.int))
  | [], bs, h => by
    have h : Paired _ [] bs := h
    cases h
    exact ⟨by simp, rfl, by simp⟩
  | r :: rows, bs, h => by
    have h : Paired _ (_ :: dcT rows) bs := h
    cases h with
    | cons h8 t =>
      obtain ⟨a1, a2, a3⟩ := keys_rows (rows := rows) t
      rename_i b0 l0
      have h : H b0 = some (.tup ((rk r).map kV)) := h8
      rw [rk_kV] at h
      refine ⟨fun b hb => ?_, by simp [a2], fun j b hj => ?_⟩
      · rcases List.mem_cons.mp hb with rfl | hb
        · exact ⟨_, h⟩
        · exact a1 b hb
      · cases j with
        | zero =>
          simp only [List.getElem?_cons_zero, Option.some.injEq] at hj
          subst hj
          exact ⟨r, by simp, h⟩
        | succ j => exact a3 j b (by simpa using hj)
theorem en_listDic (hd : ρ[i]? = some (some (.dic (rows.map rk)))) : EvN (tCB rListT (tCons (tVar i) tNil)) ρ (rows.map tI) ρ := fun Hk σ H a Q q => by
  obtain ⟨u, u1, p, rfl, u2⟩ := a.en i _ hd
  have e : (rows.map rk).map (fun k => (k, V.bl true)) = dcT rows := by unfold dcT; rw [List.map_map]; rfl
  rw [e] at u2
  refine ⟨_, u1, p, dcT rows, rfl, .inl (a.kh _ _ u2), fun l bs hn hk => ?_⟩
  obtain ⟨_, a2, a3⟩ := keys_rows hk
  have hE : Ex H (upd H l (.lst (bs.map V.ref))) := Ex.new hn
  obtain ⟨gr, e2⟩ := Gr.ofEx (O := fun _ => False) a.kh (Ex.refl H)
  have g1 := a.go gr e2
  have kt : ∀ {b : Addr} {xs : List V}, H b = some (.tup xs) → known Hk H H b = some (.tup xs) := fun h => known_tup h
  refine q l _ _ _ (g1.trans (g1.at'.newH hn)) hn (g1.at'.kh.none hn) upd_same (RpA.of_get (by simp [a2]) fun j v hv => ?_)
  rw [List.getElem?_map] at hv
  cases hj : bs[j]? with
  | none => rw [hj] at hv; cases hv
  | some b =>
    rw [hj] at hv
    cases hv
    obtain ⟨r, h1, h2⟩ := a3 j b hj
    exact ⟨tI r, by rw [List.getElem?_map, h1]; rfl, .tup (kt h2) (RpA.ints r)⟩
/-- {key: True for target in iter} from a state without lists of its own -/
theorem ek_dc {wi : TI} {g : TG} {tt : TT} {tk tv : TE} {vs : List Nat} {p : PyData → Bool} {f : PyData → List Int} {A : PyData → En} (hi : EvI wi ρ ds ρ)
    (h : ∀ d ∈ ds, ∃ js, TgD g d (wipeE ρ vs) (A d) js ∧ (∀ j ∈ js, j ∈ vs) ∧ EvB tt (A d) (p d) (A d) ∧ (p d = true → EvD tk (A d) (tI (f d)) (A d) ∧ EvD tv (A d) (.bool true) (A d)) ∧ wipeE (A d) vs = wipeE ρ vs)
    (hno : ∀ i, NoOw ρ i) (hz : ds.length < sizeLine) : EvK (tDcT wi g tt tk tv vs) ρ ((dedupI ((ds.filter p).map f)).map rk) ρ := fun Hk σ H a Q q =>
  hi Hk σ H a _ fun J Hk1 H1 g1 w => fun D hD => by
    have a1 := g1.at'
    have hDk : Hk1 D = none := a1.kh.none hD
    have aw := At.wipe a1 vs
    have noW : ∀ b, ¬ Owns (wipe σ vs) (wipeE ρ vs) b := fun b hb => by
      obtain ⟨j, pp, es, e1, e2⟩ := hb
      have hj : j < σ.length := by
        have h0 := (List.getElem?_eq_some_iff.mp e2).1
        rw [wipe_length] at h0
        exact h0
      rw [wipeE_get ρ vs j (by rw [← a1.len]; exact hj)] at e1
      by_cases hm : j ∈ vs
      · rw [if_pos hm] at e1
        cases e1
      · rw [if_neg hm] at e1
        exact hno j pp es e1
    let St1 : List (List Int) → Hp → Hp → Prop := fun done Hk' H' => GoS (wipeE ρ vs) Hk1 (wipe σ vs) H1 (wipeE ρ vs) Hk' (wipe σ vs) H' ∧ H' D = some (.dT (dcT (dedupI done))) ∧ Hk' D = none
    refine ⟨fun i m H' => m = ds.length - i ∧ i ≤ ds.length ∧ ∃ Hk', St1 (((ds.take i).filter p).map f) Hk' H', ⟨ds.length, rfl, Nat.zero_le _, Hk1, ?_, upd_same, hDk⟩, ?_⟩
    · exact (aw.newH hD).s
    rintro i m H' ⟨rfl, hi, Hk', gs, hx, hkD⟩
    have e1 : Ex Hk1 Hk' := gs.gr.kk
    by_cases hlt : i < ds.length
    · have htk : ds.take (i + 1) = ds.take i ++ [ds[i]] := by rw [List.take_succ, List.getElem?_eq_getElem hlt]; rfl
      refine .inr ⟨w.goes i H' (e1.trans gs.at'.kh) hlt, fun H2 => ∃ Hk', St1 (((ds.take (i + 1)).filter p).map f) Hk' H2, fun H2 h2 => ⟨ds.length - (i + 1), by omega, rfl, hlt, h2⟩, fun x H2 y => ?_⟩
      obtain ⟨d, Hk2, hdi, gr2, e2, rx2⟩ := w.yields i H' x H2 Hk' e1 gs.at'.kh hlt y
      have ed : d = ds[i] := by
        rw [List.getElem?_eq_getElem hlt] at hdi
        exact (Option.some.inj hdi).symm
      subst ed
      have gs2 := gs.trans (gs.at'.go gr2 e2).s
      have hx2 := gr2.keep D _ hx fun z => z
      have hkD2 : Hk2 D = none := gr2.old D _ hx True.intro (fun z => z) hkD
      obtain ⟨js, ht, hjs, hbt, hke, hw⟩ := h ds[i] (List.getElem_mem hlt)
      -- from the end of a turn to the next
      have back : ∀ {ρz : En} {Hkz : Hp} {σz : L2.St} {Hz : Hp}, ρz = A ds[i] → GoS (wipeE ρ vs) Hk1 (wipe σ vs) H1 ρz Hkz σz Hz → wipe σz vs = wipe σ vs → GoS (wipeE ρ vs) Hk1 (wipe σ vs) H1 (wipeE ρ vs) Hkz (wipe σ vs) Hz := fun {ρz Hkz σz Hz} ez g3 ew => by
        subst ez
        have a3 := g3.at'.wipe vs
        rw [ew, hw] at a3
        exact ⟨a3, g3.gr, fun b hb => absurd hb (noW b), fun j pj => ⟨pj, rfl⟩⟩
      refine ht Hk2 (wipe σ vs) H2 x _ gs2.at' rx2 fun σ3 g3 so3 hag => ⟨wipe_agr hag hjs, ?_⟩
      have no3 : ∀ b, ¬ Owns σ3 (A ds[i]) b := fun b hb => noW b (so3 b hb)
      refine hbt Hk2 σ3 H2 g3.at' _ fun Hk4 H4 g4 => ?_
      have hx4 := g4.gr.keep D _ hx2 (no3 D)
      have hk4 : Hk4 D = none := g4.gr.old D _ hx2 True.intro (no3 D) hkD2
      cases hp : p ds[i] with
      | false =>
        rw [if_neg Bool.false_ne_true]
        refine ⟨Hk4, back rfl ((gs2.trans g3).trans g4.s) (wipe_agr hag hjs), ?_, hk4⟩
        rw [htk, List.filter_append, List.filter_cons_of_neg (by rw [hp]; exact Bool.false_ne_true), List.filter_nil, List.append_nil]
        exact hx4
      | true =>
        rw [if_pos rfl]
        obtain ⟨hk, hv⟩ := hke hp
        refine hk Hk4 σ3 H4 g4.at' _ fun y Hk5 H5 g5 ry => ?_
        refine hv Hk5 σ3 H5 g5.at' _ fun z Hk6 H6 g6 rz => ?_
        have hx5 := g5.gr.keep D _ hx4 (no3 D)
        have hk5 : Hk5 D = none := g5.gr.old D _ hx4 True.intro (no3 D) hk4
        have hx6 := g6.gr.keep D _ hx5 (no3 D)
        have hk6 : Hk6 D = none := g6.gr.old D _ hx5 True.intro (no3 D) hk5
        cases rz
        obtain ⟨b, rfl, hb⟩ := (ry.ex g6.gr.kk).row
        have gb := back rfl ((((gs2.trans g3).trans g4.s).trans g5.s).trans g6.s) (wipe_agr hag hjs)
        refine ⟨_, rk (f ds[i]), b, rfl, hx6, by rw [rk_kV]; exact gb.at'.kh _ _ hb, ?_, Hk6, ?_, ?_, hk6⟩
        · have l1 := dedupI_len (((ds.take i).filter p).map f)
          have l2 := List.length_filter_le p (ds.take i)
          have l3 := List.length_take_le i ds
          unfold dcT
          rw [List.length_map]
          rw [List.length_map] at l1
          omega
        · refine ⟨⟨gb.at'.kh.up hk6, gb.at'.len, fun j s hj => ?_, gb.at'.inj⟩, ⟨gb.gr.kk, fun c o hc no => ?_, fun c hc => ?_, gb.gr.old⟩, gb.own, gb.pin⟩
          · obtain ⟨w, w1, w2⟩ := gb.at'.en j s hj
            refine ⟨w, w1, ?_⟩
            cases s with
            | ow pp es =>
              obtain ⟨l, ys, rfl, k1, k2, k3⟩ := w2
              exact absurd ⟨j, pp, es, hj, w1⟩ (noW l)
            | kn d => exact w2
            | obj C fs => exact w2
            | objP pp C fs => exact w2
            | raw u => exact w2
            | scr K ns => exact w2
            | dic ks => exact w2
          · rw [upd_ne (ne_of_none hc hD)]
            exact gb.gr.keep c o hc no
          · by_cases eb : c = D
            · subst eb
              rw [upd_same]
              simp
            · rw [upd_ne eb]
              exact gb.gr.live c hc
        · rw [upd_same, dcT_put, htk, List.filter_append, List.map_append, List.filter_cons_of_pos hp, List.filter_nil, List.map_cons, List.map_nil, dedupI_snoc]
          split <;> rfl
    · have e : i = ds.length := by omega
      subst e
      rw [List.take_length] at hx
      refine .inl ⟨w.stops H' (e1.trans gs.at'.kh), ?_⟩
      -- the dict is known from now on
      have en : ((dedupI ((ds.filter p).map f)).map rk).map (fun k => (k, V.bl true)) = dcT (dedupI ((ds.filter p).map f)) := by unfold dcT; rw [List.map_map]; rfl
      have e5 : Ex Hk' (upd Hk' D (.dT (dcT (dedupI ((ds.filter p).map f))))) := Ex.new hkD
      have hDH : H D = none := by
        cases q : H D with
        | none => rfl
        | some u => exact absurd hD (g1.gr.live D (by rw [q]; simp))
      have noO : ∀ b, ¬ Owns σ ρ b := fun b ⟨j, pp, es, z, _⟩ => hno j pp es z
      refine q D (upd Hk' D (.dT _)) H' (g1.trans ⟨⟨gs.at'.kh.sub hx, a1.len, fun j s hj => ?_, a1.inj⟩, ⟨e1.trans e5, fun b o hb no => gs.gr.keep b o hb (noW b), gs.gr.live, fun b o hb mu no hk => ?_⟩, fun b hb => hb, fun j pj => pj⟩) (by rw [en]; exact upd_same)
      · obtain ⟨v, v1, v2⟩ := a1.en j s hj
        refine ⟨v, v1, ?_⟩
        cases s with
        | ow pp es => exact absurd hj (hno j pp es)
        | kn d => exact v2.ex (e1.trans e5)
        | obj C fs =>
          obtain ⟨p, dx, vs, rfl, k1, k2⟩ := v2
          exact ⟨p, dx, vs, rfl, (e1.trans e5) _ _ k1, k2.ex (e1.trans e5)⟩
        | objP pp C fs =>
          obtain ⟨dx, vs, rfl, k1, k2⟩ := v2
          exact ⟨dx, vs, rfl, (e1.trans e5) _ _ k1, k2.ex (e1.trans e5)⟩
        | raw u => exact v2
        | scr K ns =>
          obtain ⟨p, rfl, k1⟩ := v2
          exact ⟨p, rfl, sq_ex (e1.trans e5) k1⟩
        | dic ks =>
          obtain ⟨p, rfl, k1⟩ := v2
          exact ⟨p, rfl, (e1.trans e5) _ _ k1⟩
      · rw [upd_ne (ne_of_none hb hD)]
        exact gs.gr.old b o hb mu (noW b) hk
/-- name = a new dict -/
theorem sd_asgK {te : TE} {ks : List (List Key)} (h : EvK te ρ ks ρ1) (hp : ¬ Pin ρ1 i) : SD (tAsg te (gName i)) ρ (.nx (ρ1.set i (some (.dic ks)))) := by
  intro Hk σ H D a q
  exact h Hk σ H a _ fun p Hk' H' g r => q Hk' _ H' (g.s.trans (GoS.set g.at' (s := .dic ks) ⟨p, rfl, r⟩ (fun _ _ z => by cases z) hp))
end
end DW

set_option maxRecDepth 100000
set_option maxHeartbeats 1000000
namespace DW
open PySem PySem.Spec PyProof.Rows L2
section
variable {ρ ρ1 ρ2 : En} {ta tb te : TE} {tA : TA} {ds es fs : List PyData} {K : PySem.W.Frag} {x y z d : PyData}
/-! ### enumerate, zip -/
def enumP (ds : List PyData) : List (PyData × PyData) := ds.zipIdx.map fun q => (PyData.int (q.2 : Nat), q.1)
def pairD (ps : List (PyData × PyData)) : List PyData := ps.map fun q => .tuple [q.1, q.2]
def tripD (ps : List (PyData × PyData × PyData)) : List PyData := ps.map fun q => .tuple [q.1, q.2.1, q.2.2]
theorem sqA_len {K : PySem.W.Frag} {l : Bool} {Hk : Hp} {xs : List V} (r : RpA Hk xs ds) {i : Nat} (h : i < ds.length) : ∃ x, xs[i]? = some x := ⟨_, List.getElem?_eq_getElem (by rw [r.length]; exact h)⟩
theorem ei_enum {l : Bool} (h : EvA tA ρ [.d x] ρ1) (s : SqD l x ds) : EvI (KX.iEnumA K tA) ρ (pairD (enumP ds)) ρ1 := fun Hk σ H a R q =>
  h Hk σ H a _ fun vs Hk1 H1 g1 r => by
    have r2 := ArAll.data (ds := [x]) r
    cases r2 with
    | cons r1 r2 =>
      cases r2
      obtain ⟨p, xs, rfl, q1, t1, up⟩ := s.get (K := K) g1.at'.kh r1
      have el : (pairD (enumP ds)).length = ds.length := by simp [pairD, enumP]
      refine ⟨l, p, xs, rfl, q1, q _ Hk1 H1 g1 ⟨fun i H e hi => ?_, fun H e => ?_, fun i H v H' Hk2 e1 e2 hi y => ?_⟩⟩
      · obtain ⟨x, hx⟩ := sqA_len (K := K) (l := l) t1 (by rw [← el]; exact hi)
        exact ⟨xs, x, up H e, hx⟩
      · exact ⟨xs, up H e, by rw [el, t1.length]⟩
      · obtain ⟨T, v, rfl, hn, rfl, hx⟩ := y
        obtain ⟨d, hd, rd⟩ := t1.getV (hx xs (up H (e1.trans e2)))
        have nk : Hk2 T = none := e2.none hn
        refine ⟨.tuple [.int (i : Nat), d], upd Hk2 T (.tup [.int (i : Nat), v]), ?_, Gr.new e2 hn, e2.both, .tup upd_same (.cons (.int _) (.cons (rd.ex (e1.trans (Ex.new nk))) .nil))⟩
        simp [pairD, enumP, List.getElem?_zipIdx, hd]
theorem ei_zip2 {l m : Bool} (h : EvA tA ρ [.d x, .d y] ρ1) (sx : SqD l x ds) (sy : SqD m y es) : EvI (KX.iZip2 K tA) ρ (pairD (ds.zip es)) ρ1 := fun Hk σ H a R q =>
  h Hk σ H a _ fun vs Hk1 H1 g1 r => by
    have r2 := ArAll.data (ds := [x, y]) r
    cases r2 with
    | cons r1 r2 =>
      cases r2 with
      | cons r2 r3 =>
        cases r3
        obtain ⟨p, xs, rfl, q1, t1, up⟩ := sx.get (K := K) g1.at'.kh r1
        obtain ⟨p2, ys, rfl, q2, t2, up2⟩ := sy.get (K := K) g1.at'.kh r2
        have el : (pairD (ds.zip es)).length = min ds.length es.length := by simp [pairD]
        have l1 := t1.length
        have l2 := t2.length
        refine ⟨l, m, p, p2, xs, ys, rfl, q1, q2, q _ Hk1 H1 g1 ⟨fun i H e hi => ?_, fun H e => ?_, fun i H v H' Hk2 e1 e2 hi y => ?_⟩⟩
        · exact ⟨xs, ys, _, _, up H e, up2 H e, List.getElem?_eq_getElem (by omega), List.getElem?_eq_getElem (by omega)⟩
        · exact ⟨xs, ys, up H e, up2 H e, by omega⟩
        · obtain ⟨T, v, u, rfl, hn, rfl, hx, hy⟩ := y
          obtain ⟨d, hd, rd⟩ := t1.getV (hx xs (up H (e1.trans e2)))
          obtain ⟨d2, hd2, rd2⟩ := t2.getV (hy ys (up2 H (e1.trans e2)))
          have nk : Hk2 T = none := e2.none hn
          have ee := e1.trans (Ex.new (o := .tup [v, u]) nk)
          refine ⟨.tuple [d, d2], upd Hk2 T (.tup [v, u]), ?_, Gr.new e2 hn, e2.both, .tup upd_same (.cons (rd.ex ee) (.cons (rd2.ex ee) .nil))⟩
          simp [pairD, List.getElem?_zip_eq_some, hd, hd2]
theorem ei_zip3 {l m n : Bool} (h : EvA tA ρ [.d x, .d y, .d z] ρ1) (sx : SqD l x ds) (sy : SqD m y es) (sz : SqD n z fs) : EvI (KX.iZip3 K tA) ρ (tripD (ds.zip (es.zip fs))) ρ1 := fun Hk σ H a R q =>
  h Hk σ H a _ fun vs Hk1 H1 g1 r => by
    have r2 := ArAll.data (ds := [x, y, z]) r
    cases r2 with
    | cons r1 r2 =>
      cases r2 with
      | cons r2 r3 =>
        cases r3 with
        | cons r3 r4 =>
          cases r4
          obtain ⟨p, xs, rfl, q1, t1, up⟩ := sx.get (K := K) g1.at'.kh r1
          obtain ⟨p2, ys, rfl, q2, t2, up2⟩ := sy.get (K := K) g1.at'.kh r2
          obtain ⟨p3, zs, rfl, q3, t3, up3⟩ := sz.get (K := K) g1.at'.kh r3
          have el : (tripD (ds.zip (es.zip fs))).length = min (min ds.length es.length) fs.length := by simp [tripD, Nat.min_assoc]
          have l1 := t1.length
          have l2 := t2.length
          have l3 := t3.length
          refine ⟨l, m, n, p, p2, p3, xs, ys, zs, rfl, q1, q2, q3, q _ Hk1 H1 g1 ⟨fun i H e hi => ?_, fun H e => ?_, fun i H v H' Hk2 e1 e2 hi y => ?_⟩⟩
          · exact ⟨xs, ys, zs, _, _, _, up H e, up2 H e, up3 H e, List.getElem?_eq_getElem (by omega), List.getElem?_eq_getElem (by omega), List.getElem?_eq_getElem (by omega)⟩
          · exact ⟨xs, ys, zs, up H e, up2 H e, up3 H e, by omega⟩
          · obtain ⟨T, v, u, t, rfl, hn, rfl, hx, hy, hz⟩ := y
            obtain ⟨d, hd, rd⟩ := t1.getV (hx xs (up H (e1.trans e2)))
            obtain ⟨d2, hd2, rd2⟩ := t2.getV (hy ys (up2 H (e1.trans e2)))
            obtain ⟨d3, hd3, rd3⟩ := t3.getV (hz zs (up3 H (e1.trans e2)))
            have nk : Hk2 T = none := e2.none hn
            have ee := e1.trans (Ex.new (o := .tup [v, u, t]) nk)
            refine ⟨.tuple [d, d2, d3], upd Hk2 T (.tup [v, u, t]), ?_, Gr.new e2 hn, e2.both, .tup upd_same (.cons (rd.ex ee) (.cons (rd2.ex ee) (.cons (rd3.ex ee) .nil)))⟩
            have : (ds.zip (es.zip fs))[i]? = some (d, d2, d3) := List.getElem?_zip_eq_some.mpr ⟨hd, List.getElem?_zip_eq_some.mpr ⟨hd2, hd3⟩⟩
            simp [tripD, this]
theorem zip3D_eq (ds es fs : List PyData) : zip3D ds es fs = tripD (ds.zip (es.zip fs)) := by
  refine List.ext_getElem? fun i => ?_
  by_cases h : i < min (min ds.length es.length) fs.length
  · have h1 : i < ds.length := by omega
    have h2 : i < es.length := by omega
    have h3 : i < fs.length := by omega
    unfold zip3D tripD
    rw [List.getElem?_map, List.getElem?_range h, List.getElem?_map]
    have : (ds.zip (es.zip fs))[i]? = some (ds[i], es[i], fs[i]) := by
      simp [List.getElem?_zip_eq_some, h1, h2, h3]
    rw [this]
    simp [List.getD_eq_getElem?_getD, h1, h2, h3]
  · rw [List.getElem?_eq_none (by simp [zip3D]; omega), List.getElem?_eq_none (by simp [tripD]; omega)]
/-! ### sorted -/
def leD (a b : PyData) : Bool := PySem.W.dataLe false (fun d : PyData => d) a b
theorem map_mergeSort' {xs : List V} {ds : List PyData} (h : xs.length = ds.length) : ((xs.zip ds).mergeSort fun a b => PySem.W.dataLe false (fun z : V × PyData => z.2) a b).map Prod.snd = ds.mergeSort leD := by
  have := List.map_mergeSort (r := fun a b => PySem.W.dataLe false (fun z : V × PyData => z.2) a b) (s := leD) (f := Prod.snd) (l := xs.zip ds) (fun a _ b _ => rfl)
  rw [List.map_snd_zip (by omega)] at this
  exact this
theorem RpA.zip_mem {Hk : Hp} : ∀ {vs : List V} {ds : List PyData}, RpA Hk vs ds → ∀ p ∈ vs.zip ds, Rp Hk p.1 p.2
  | _, _, .nil, p, h => by simp at h
  | _, _, .cons r t, p, h => by
    rw [List.zip_cons_cons] at h
    rcases List.mem_cons.mp h with rfl | h
    · exact r
    · exact t.zip_mem p h
theorem RpA.of_pairs {Hk : Hp} : ∀ {ps : List (V × PyData)}, (∀ p ∈ ps, Rp Hk p.1 p.2) → RpA Hk (ps.map Prod.fst) (ps.map Prod.snd)
  | [], _ => .nil
  | p :: ps, h => .cons (h p (by simp)) (RpA.of_pairs fun q hq => h q (by simp [hq]))
theorem RpA.sort {Hk : Hp} {xs : List V} (r : RpA Hk xs ds) : RpA Hk (((xs.zip ds).mergeSort fun a b => PySem.W.dataLe false (fun z : V × PyData => z.2) a b).map Prod.fst) (ds.mergeSort leD) := by
  rw [← map_mergeSort' r.length]
  exact RpA.of_pairs fun p hp => r.zip_mem p ((List.mergeSort_perm _ _).mem_iff.mp hp)
theorem en_sort {l : Bool} (h : EvD te ρ x ρ1) (s : SqD l x ds) (hal : PySem.W.AllAlike ds) (hk : KX.SortOk ds) (hd : ∀ d ∈ ds, d.depth ≤ 60) (hz : ds.length ≤ sizeLine) : EvN (tCB (KX.rSortD K) (tCons te tNil)) ρ (ds.mergeSort leD) ρ1 := fun Hk σ H a Q q =>
  h Hk σ H a _ fun u Hk1 H1 g1 r1 => by
    obtain ⟨p, xs, rfl, q1, t1, _⟩ := s.get (K := K) g1.at'.kh r1
    refine ⟨p, l, xs, ds, rfl, q1, (t1.ex g1.at'.kh).dp, hal, hk, hd, hz, fun l2 hn => ?_⟩
    have n0 : H l2 = none := by
      cases q0 : H l2 with
      | none => rfl
      | some u => exact absurd hn (g1.gr.live l2 (by rw [q0]; simp))
    exact q l2 _ Hk1 _ (g1.trans (g1.at'.newH hn)) n0 (g1.at'.kh.none hn) upd_same t1.sort
end
end DW

set_option maxRecDepth 100000
set_option maxHeartbeats 1000000
namespace DW
open PySem PySem.Spec PyProof.Rows L2
theorem Room.un65 {k : Nat} {A : Around} (r : Room k A) : A.units + 65 < cLine := by have := r.un; omega
theorem Room.un1 {k : Nat} {A : Around} (r : Room k A) : A.units + 1 < cLine := by have := r.un; omega
/-! ### defs by name -/
structure Cl (P : Program) (w : World) (K : PySem.W.Frag) (mg : Str → Option Value) (base : Heap) (k : Nat) (x : Str) (sp : Sp) : Prop where
  ex : ∃ (f : Addr) (fd : FuncData) (ps : List Str), FnOk P w K mg base L2.CX0 k f fd ps sp ∧ mg x = some (.ref f) ∧ PySem.W.keepIn K (.ref f) = true ∧ Binds K fd ps [] ∧ (∃ oc od osl, K.lookup f = some ⟨oc, od, .func fd, osl⟩) ∧ ps = (fd.params.posonlyargs ++ fd.params.args).map (·.arg)
structure Dn (K : PySem.W.Frag) (mg : Str → Option Value) (x : Str) (st : Stmt) (ps : List Str) : Prop where
  ex : ∃ (f : Addr) (fd : FuncData), L2.Fun K x x st f fd ∧ mg x = some (.ref f) ∧ Binds K fd ps []
  ps : ps = ((defArgs st).posonlyargs ++ (defArgs st).args).map (·.arg)
theorem names_of {K : PySem.W.Frag} {x q : Str} {st : Stmt} {f : Addr} {fd : FuncData} {ps : List Str} (F : L2.Fun K x q st f fd) (h : ps = ((defArgs st).posonlyargs ++ (defArgs st).args).map (·.arg)) : ps = (fd.params.posonlyargs ++ fd.params.args).map (·.arg) := by
  obtain ⟨oc, od, kV, doc, pm, an, cdv, ct, osl, rfl, lk, _⟩ := F.ex
  exact h
theorem look_of {K : PySem.W.Frag} {x q : Str} {st : Stmt} {f : Addr} {fd : FuncData} (F : L2.Fun K x q st f fd) : ∃ oc od osl, K.lookup f = some ⟨oc, od, .func fd, osl⟩ := by
  obtain ⟨oc, od, kV, doc, pm, an, cdv, ct, osl, rfl, lk, _⟩ := F.ex
  exact ⟨oc, od, osl, lk⟩
section
variable {X : Cx} {k j : Nat} {x : Str} {sp : Sp} {p pos : Pos} {e : Expr} {es : List Expr} {t : TA}
theorem pe_cl (c : Cl X.prog X.w X.K X.mg X.base k x sp) (hr : Room j X.A) (hk : k ≤ j) (hg : Gl X x) (ha : PA X (e :: es) t)
    (hdb : (x == ("__debug__" : Str)) = false := by decide) (he : starEach (e :: es) X.env = (false, eval e X.env) :: starEach es X.env := by rfl) (hpl : (backTo pos (starEach es X.env)).any (·.1) = false := by rfl) :
    PE X (.Call (.Name x p) (e :: es) [] pos) (tCall sp [] L2.E0 t) := by
  obtain ⟨f, fd, ps, F, hm, kp, b, _⟩ := c.ex
  exact pe_call F (hr.mono hk) hg hm kp b .nil L2.pass0 ha hdb he hpl
end
section
variable {P : Program} {w : World} {K : PySem.W.Frag} {mg : Str → Option Value} {base : Heap}
theorem cl_of {x : Str} {st : Stmt} {N ps : List Str} {k : Nat} {R : List Sl → PyData → Prop} (D : Dn K mg x st ps) (S : FnScope N ps (defScope st)) (hl : ∀ ss d, R ss d → ss.length = ps.length)
    (hb : ∀ (f : Addr) (cdv : Value) (A : Around) (outer : List Env) (s : Shared) (H : Hp) (E : XK), Room k (A.deeper (PyProof.Rows.envOfC x (defScope st) s.heap.objs.size f cdv)) →
      ∃ t, PSs (cxOf L2.CX0 P w K mg base N x (defScope st) f cdv A outer s H E).nox (defBody st) t ∧ ∀ ss d, R ss d → (∀ s ∈ ss, notOw s) → ∃ ρ', SD t (ss.map some ++ List.replicate (N.length - ss.length) none) (.rt d ρ')) : Cl P w K mg base (k + 1) x (spP R) := by
  obtain ⟨f, fd, F, hm, b⟩ := D.ex
  exact ⟨f, fd, ps, okP F S hl fun cdv A outer s H E hr => hb f cdv A outer s H E hr, hm, F.kp, b, look_of F, names_of F D.ps⟩
/-! ### the promise of a def that changes its first argument, a list that is its caller's own -/
def spB (R : List PyData → List Sl → PyData → List PyData → Prop) : Sp := fun vs H Q _ => ∃ (l : Addr) (ws : List V) (xs : List V) (Hk : Hp) (ds : List PyData) (ss : List Sl) (d : PyData) (ds' : List PyData), vs = .ref l :: ws ∧ Hk l = none ∧ H l = some (.lst xs) ∧ RpA Hk xs ds ∧ R ds ss d ds' ∧ (∀ s ∈ ss, notOw s) ∧ At (ss.map some) Hk (ws.map some) H ∧
  ∀ v xs' Hk' H', Gr (fun a => a = l) Hk H Hk' H' → Ex Hk' H' → Hk' l = none → H' l = some (.lst xs') → RpA Hk' xs' ds' → Rp Hk' v d → Q v H'
theorem At.consB {ρ : En} {Hk : Hp} {σ : L2.St} {H : Hp} {l : Addr} {xs : List V} {ds : List PyData} {p : Bool} (a : At ρ Hk σ H) (no : ∀ b, ¬ Owns σ ρ b) (hk : Hk l = none) (hl : H l = some (.lst xs)) (r : RpA Hk xs ds) : At (some (.ow p ds) :: ρ) Hk (some (.ref l) :: σ) H := by
  refine ⟨a.kh, by simp [a.len], fun i t h => ?_, fun i j p q ds es b h1 h2 h3 h4 => ?_⟩
  · cases i with
    | zero =>
      simp only [List.getElem?_cons_zero, Option.some.injEq] at h
      subst h
      exact ⟨.ref l, by simp, l, xs, rfl, hk, hl, r⟩
    | succ i =>
      rw [List.getElem?_cons_succ] at h
      obtain ⟨w, h1, h2⟩ := a.en i t h
      exact ⟨w, by rw [List.getElem?_cons_succ]; exact h1, h2⟩
  · cases i with
    | zero =>
      cases j with
      | zero => rfl
      | succ j =>
        rw [List.getElem?_cons_succ] at h2 h4
        exact absurd ⟨j, q, es, h2, h4⟩ (no b)
    | succ i =>
      rw [List.getElem?_cons_succ] at h1 h3
      exact absurd ⟨i, p, ds, h1, h3⟩ (no b)
theorem no_ownsA {ss : List Sl} {σ : L2.St} (hn : ∀ s ∈ ss, notOw s) (b : Addr) : ¬ Owns σ (ss.map some) b := by
  have := no_owns (ss := ss) (vs := σ) (n := 0) hn b
  simpa using this
theorem no_ownsB {ss : List Sl} {ws : L2.St} {n : Nat} {l : Addr} {p : Bool} {ds : List PyData} (hn : ∀ s ∈ ss, notOw s) (b : Addr) (h : Owns (some (.ref l) :: ws) (some (.ow p ds) :: (ss.map some ++ List.replicate n none)) b) : b = l := by
  obtain ⟨i, q, es, h1, h2⟩ := h
  cases i with
  | zero =>
    simp only [List.getElem?_cons_zero, Option.some.injEq] at h2
    cases h2
    rfl
  | succ i =>
    rw [List.getElem?_cons_succ] at h1 h2
    exact absurd ⟨i, q, es, h1, h2⟩ (no_owns hn b)
theorem cl_ofB {x : Str} {st : Stmt} {N ps : List Str} {k : Nat} {R : List PyData → List Sl → PyData → List PyData → Prop} (D : Dn K mg x st ps) (S : FnScope N ps (defScope st)) (hl : ∀ ds ss d ds', R ds ss d ds' → ss.length + 1 = ps.length)
    (hb : ∀ (f : Addr) (cdv : Value) (A : Around) (outer : List Env) (s : Shared) (H : Hp) (E : XK), Room k (A.deeper (PyProof.Rows.envOfC x (defScope st) s.heap.objs.size f cdv)) →
      ∃ t, PSs (cxOf L2.CX0 P w K mg base N x (defScope st) f cdv A outer s H E).nox (defBody st) t ∧ ∀ ds ss d ds', R ds ss d ds' → (∀ s ∈ ss, notOw s) → ∃ ρ', ρ'[0]? = some (some (.ow true ds')) ∧ SD t (some (.ow true ds) :: (ss.map some ++ List.replicate (N.length - (ss.length + 1)) none)) (.rt d ρ')) : Cl P w K mg base (k + 1) x (spB R) := by
  obtain ⟨f, fd, F, hm, b⟩ := D.ex
  refine ⟨f, fd, ps, F.ok S (fun vs H Q E h => ?_) fun cdv A outer s H vs Q E hr h => ?_, hm, F.kp, b, look_of F, names_of F D.ps⟩
  · obtain ⟨l, ws, xs, Hk, ds, ss, d, ds', rfl, _, _, _, hR, _, a, _⟩ := h
    have := a.len
    rw [← hl _ _ _ _ hR]
    simpa using this
  · obtain ⟨l, ws, xs, Hk, ds, ss, d, ds', rfl, hk, hlx, rx, hR, hn, a, q⟩ := h
    obtain ⟨t, ht, hS⟩ := hb f cdv A outer s H E hr
    obtain ⟨ρ', h0, hS⟩ := hS ds ss d ds' hR hn
    have el : ws.length = ss.length := by simpa using a.len
    refine ⟨t, ht, ?_⟩
    have e : L2.start N (.ref l :: ws) = some (.ref l) :: (ws.map some ++ List.replicate (N.length - (ws.length + 1)) none) := rfl
    rw [e, el]
    refine hS Hk _ H _ ((a.start _).consB (fun b => no_owns hn b) hk hlx rx) fun Hk' σ' H' g v rv => ?_
    obtain ⟨_, e2⟩ := g.pin 0 ⟨ds, rfl⟩
    obtain ⟨w, w1, l', xs', e3, k1, k2, k3⟩ := g.at'.en 0 _ h0
    rw [e2] at w1
    simp only [List.getElem?_cons_zero, Option.some.injEq] at w1
    subst w1
    cases e3
    exact q v xs' Hk' H' (g.gr.mono fun b hb => no_ownsB hn b hb) g.at'.kh k1 k2 k3 rv
end
section
variable {ρ ρ1 ρ2 : En} {ta te : TE} {tA : TA} {ds es : List PyData} {d e : PyData} {i : Nat} {p : Bool} {K : PySem.W.Frag} {as : List Ar} {ss : List Sl}
/-- the list in slot i may be changed to es while the rest goes on -/
theorem Go.upd {Hk Hk' : Hp} {σ : L2.St} {H H' : Hp} {l : Addr} {xs' : List V} (a : At ρ Hk σ H) (h : ρ[i]? = some (some (.ow p ds))) (h1 : σ[i]? = some (some (.ref l))) (g : Gr (fun b => b = l) Hk H Hk' H') (e : Ex Hk' H') (hk : Hk' l = none) (hl : H' l = some (.lst xs')) (r : RpA Hk' xs' es) : Go ρ Hk σ H (ρ.set i (some (.ow p es))) Hk' H' := by
  have own : Owns σ ρ l := ⟨i, p, ds, h, h1⟩
  have own' : ∀ b, Owns σ (ρ.set i (some (.ow p es))) b → Owns σ ρ b := fun b hb => by
    obtain ⟨j, q, fs, e1, e2⟩ := hb
    rcases set_inv e1 with ⟨e, _, z⟩ | ⟨_, e1⟩
    · subst e
      rw [h1] at e2
      cases e2
      exact own
    · exact ⟨j, q, fs, e1, e2⟩
  refine ⟨⟨e, by rw [List.length_set]; exact a.len, fun j s hj => ?_, fun j k q q2 fs gs b e1 e2 e3 e4 => ?_⟩, g.mono fun b hb => hb ▸ own, own', fun j pj => ?_⟩
  · rcases set_inv hj with ⟨e, _, e2⟩ | ⟨ne, hj⟩
    · subst e
      cases e2
      exact ⟨.ref l, h1, l, xs', rfl, hk, hl, r⟩
    · obtain ⟨w, w1, w2⟩ := a.en j s hj
      refine ⟨w, w1, w2.go g fun q fs b e1 e2 e3 => ?_⟩
      subst e1 e2 e3
      exact ne (a.inj i j p q ds fs _ h hj h1 w1)
  · have back : ∀ {m : Nat} {q : Bool} {fs : List PyData}, (ρ.set i (some (.ow p es)))[m]? = some (some (.ow q fs)) → ∃ q' fs', ρ[m]? = some (some (.ow q' fs')) := fun {m q fs} hm => by
      rcases set_inv hm with ⟨e, _, z⟩ | ⟨_, hm⟩
      · subst e
        exact ⟨p, ds, h⟩
      · exact ⟨q, fs, hm⟩
    obtain ⟨_, _, f1⟩ := back e1
    obtain ⟨_, _, f2⟩ := back e2
    exact a.inj j k _ _ _ _ b f1 f2 e3 e4
  · obtain ⟨fs, e1⟩ := pj
    by_cases e : i = j
    · subst e
      rw [h] at e1
      cases e1
      exact ⟨es, List.getElem?_set_self (List.getElem?_eq_some_iff.mp h).1⟩
    · exact ⟨fs, by rw [List.getElem?_set_ne e]; exact e1⟩
/-- f(xs, ..), xs an owned list that f changes -/
theorem ed_callB {R : List PyData → List Sl → PyData → List PyData → Prop} {E : XK} (ha : EvA tA ρ as ρ1) (ho : ρ[i]? = some (some (.ow p ds))) (ho1 : ρ1[i]? = some (some (.ow p es))) (hs : ArS ρ1 as ss) (hn : ∀ s ∈ ss, notOw s) {es' : List PyData} (hR : R es ss d es') : EvD (tCall (spB R) [] E (tCons (tVar i) tA)) ρ d (ρ1.set i (some (.ow p es'))) := fun Hk σ H a Q q => by
  obtain ⟨v, h1, l, xs, rfl, hk, hl, r⟩ := a.en i _ ho
  refine ⟨.ref l, h1, ha Hk σ H a _ fun vs Hk1 H1 g1 rv => ?_⟩
  show spB R ((V.ref l :: vs) ++ []) H1 Q E
  rw [List.append_nil]
  obtain ⟨v2, h2, l2, ys, e2, hk2, hl2, r2⟩ := g1.at'.en i _ ho1
  rw [h1] at h2
  cases h2
  cases e2
  exact ⟨l, vs, ys, Hk1, es, ss, d, es', rfl, hk2, hl2, r2, hR, hn, ArS.at' g1.at' rv hs hn, fun v xs' Hk2 H2 g2 e2 k2 l2 rx rd => q v Hk2 H2 (g1.trans (Go.upd g1.at' ho1 h1 g2 e2 k2 l2 rx)) rd⟩
/-! ### a new list handed back -/
def SDN (ts : TS) (ρ : En) (ds : List PyData) : Prop := ∀ (Hk : Hp) (σ : L2.St) (H : Hp) (D : Ends), At ρ Hk σ H → (∀ l xs Hk' H', Gr (Owns σ ρ) Hk H Hk' H' → Ex Hk' H' → H l = none → Hk' l = none → H' l = some (.lst xs) → RpA Hk' xs ds → D.rt (.ref l) H') → ts D σ H
theorem sdn_ret (h : EvN te ρ ds ρ1) : SDN (tRet te) ρ ds := fun Hk σ H D a q => h Hk σ H a _ fun l xs Hk' H' g n nk hl r => q l xs Hk' H' g.gr g.at'.kh n nk hl r
theorem sdn_seq {t u : TS} (h1 : SD t ρ (.nx ρ1)) (h2 : SDN u ρ1 ds) : SDN (tSeq t u) ρ ds := fun Hk σ H D a q =>
  h1 Hk σ H { D with nx := u D } a fun Hk1 σ1 H1 g1 => h2 Hk1 σ1 H1 D g1.at' fun l xs Hk' H' g e n nk hl r => by
    have n0 : H l = none := by
      cases q0 : H l with
      | none => rfl
      | some u => exact absurd n (g1.gr.live l (by rw [q0]; simp))
    exact q l xs Hk' H' (g1.gr.trans g g1.own) e n0 nk hl r
def spN (R : List Sl → List PyData → Prop) : Sp := fun vs H Q _ => ∃ (ss : List Sl) (Hk : Hp) (ds : List PyData), R ss ds ∧ (∀ s ∈ ss, notOw s) ∧ At (ss.map some) Hk (vs.map some) H ∧ ∀ l xs Hk' H', Gr (fun _ => False) Hk H Hk' H' → Ex Hk' H' → H l = none → Hk' l = none → H' l = some (.lst xs) → RpA Hk' xs ds → Q (.ref l) H'
theorem en_call {R : List Sl → List PyData → Prop} {E : XK} (ha : EvA tA ρ as ρ1) (hs : ArS ρ1 as ss) (hn : ∀ s ∈ ss, notOw s) (hR : R ss ds) : EvN (tCall (spN R) [] E tA) ρ ds ρ1 := fun Hk σ H a Q q =>
  ha Hk σ H a _ fun vs Hk1 H1 g1 r => by
    show spN R (vs ++ []) H1 Q E
    rw [List.append_nil]
    refine ⟨ss, Hk1, ds, hR, hn, ArS.at' g1.at' r hs hn, fun l xs Hk2 H2 g2 e2 n nk hl rv => q l xs Hk2 H2 (g1.trans (g1.at'.go g2 e2)) ?_ nk hl rv⟩
    cases q0 : H l with
    | none => rfl
    | some u => exact absurd n (g1.gr.live l (by rw [q0]; simp))
end
section
variable {P : Program} {w : World} {K : PySem.W.Frag} {mg : Str → Option Value} {base : Heap}
theorem cl_ofN {x : Str} {st : Stmt} {N ps : List Str} {k : Nat} {R : List Sl → List PyData → Prop} (D : Dn K mg x st ps) (S : FnScope N ps (defScope st)) (hl : ∀ ss d, R ss d → ss.length = ps.length)
    (hb : ∀ (f : Addr) (cdv : Value) (A : Around) (outer : List Env) (s : Shared) (H : Hp) (E : XK), Room k (A.deeper (PyProof.Rows.envOfC x (defScope st) s.heap.objs.size f cdv)) →
      ∃ t, PSs (cxOf L2.CX0 P w K mg base N x (defScope st) f cdv A outer s H E).nox (defBody st) t ∧ ∀ ss ds, R ss ds → (∀ s ∈ ss, notOw s) → SDN t (ss.map some ++ List.replicate (N.length - ss.length) none) ds) : Cl P w K mg base (k + 1) x (spN R) := by
  obtain ⟨f, fd, F, hm, b⟩ := D.ex
  refine ⟨f, fd, ps, F.ok S (fun vs H Q E h => ?_) fun cdv A outer s H vs Q E hr h => ?_, hm, F.kp, b, look_of F, names_of F D.ps⟩
  · obtain ⟨ss, Hk, ds, hR, _, a, _⟩ := h
    have := a.len
    rw [← hl _ _ hR]
    simpa using this
  · obtain ⟨ss, Hk, ds, hR, hn, a, q⟩ := h
    obtain ⟨t, ht, hS⟩ := hb f cdv A outer s H E hr
    have el : vs.length = ss.length := by simpa using a.len
    refine ⟨t, ht, ?_⟩
    show t _ (vs.map some ++ List.replicate (N.length - vs.length) none) H
    rw [el]
    exact hS ss ds hR hn Hk _ H _ (a.start _) fun l xs Hk' H' g e n nk hl r => q l xs Hk' H' (g.mono fun b hb => no_owns hn b hb) e n nk hl r
end
/-! ### stores and pops at owned lists -/
section
variable {ρ ρ1 ρ2 : En} {ta tb te : TE} {tA : TA} {ds es : List PyData} {d e : PyData} {i : Nat} {p : Bool} {K : PySem.W.Frag} {m : Int}
theorem RpA.set {Hk : Hp} : ∀ {vs : List V} {ds : List PyData} {j : Nat} {v : V} {d : PyData}, RpA Hk vs ds → Rp Hk v d → RpA Hk (vs.set j v) (ds.set j d)
  | _, _, j, _, _, .nil, _ => by cases j <;> exact .nil
  | _, _, 0, _, _, .cons _ t, r => .cons r t
  | _, _, j + 1, _, _, .cons q t, r => .cons q (t.set r)
theorem RpA.erase {Hk : Hp} : ∀ {vs : List V} {ds : List PyData} (j : Nat), RpA Hk vs ds → RpA Hk (vs.eraseIdx j) (ds.eraseIdx j)
  | _, _, j, .nil => by cases j <;> exact .nil
  | _, _, 0, .cons _ t => t
  | _, _, j + 1, .cons q t => .cons q (t.erase j)
theorem ed_pop {k : Nat} (h : EvD te ρ (.int (k : Nat)) ρ1) (ho : ρ[i]? = some (some (.ow p es))) (h1 : ρ1[i]? = some (some (.ow p ds))) (hk : ds[k]? = some d) (hz : k < 2 ^ 62) : EvD (tBM K "list" rPopAt (tVar i) (tCons te tNil)) ρ d (ρ1.set i (some (.ow p (ds.eraseIdx k)))) := fun Hk σ H a Q q => by
  obtain ⟨v, g1, l, xs, rfl, hk1, hl, r⟩ := a.en i _ ho
  refine ⟨.ref l, g1, .inl ⟨rfl, _, SqL.of hl⟩, h Hk σ H a _ fun w Hk1 H1 g2 rw1 => ?_⟩
  cases rw1
  obtain ⟨v2, h2, l2, ys, e2, hk2, hl2, r2⟩ := g2.at'.en i _ h1
  rw [g1] at h2
  cases h2
  cases e2
  obtain ⟨y, hy, ry⟩ := r2.get hk
  have hlt : k < ys.length := (List.getElem?_eq_some_iff.mp hy).1
  have e : L2.ixN ys.length (k : Int) = some k := by
    unfold L2.ixN
    rw [if_pos (by omega), if_pos (by omega)]
    simp
  refine ⟨l, ys, (k : Int), k, y, rfl, rfl, hl2, by omega, by omega, (L2.ixN_seq e).1, hy, ?_⟩
  exact q y Hk1 _ (g2.trans (Go.write g2.at' h1 g1 (r2.erase k))) ry
theorem sd_setI {k : Nat} {ti : TE} (h : EvD te ρ d ρ1) (ho : ρ1[i]? = some (some (.ow p ds))) (hi : EvD ti ρ1 (.int (k : Nat)) ρ1) (hk : k < ds.length) : SD (tAsg te (gSub (tVar i) ti rSetL)) ρ (.nx (ρ1.set i (some (.ow p (ds.set k d))))) := fun Hk σ H D a q =>
  h Hk σ H a _ fun v Hk1 H1 g1 rv => by
    obtain ⟨w, w1, l, xs, rfl, hk1, hl, r⟩ := g1.at'.en i _ ho
    refine ⟨.ref l, w1, hi Hk1 σ H1 g1.at' _ fun u Hk2 H2 g2 ru => ?_⟩
    cases ru
    obtain ⟨v2, h2, l2, ys, e2, hk2, hl2, r2⟩ := g2.at'.en i _ ho
    rw [w1] at h2
    cases h2
    cases e2
    have hlt : k < ys.length := by rw [r2.length]; exact hk
    have e : L2.ixN ys.length (k : Int) = some k := by
      unfold L2.ixN
      rw [if_pos (by omega), if_pos (by omega)]
      simp
    refine ⟨l, ys, (k : Int), k, rfl, rfl, hl2, e, ?_⟩
    exact q Hk2 σ _ ((g1.trans g2).trans (Go.write g2.at' ho w1 (r2.set (rv.ex g2.gr.kk)))).s
end
end DW

set_option maxRecDepth 100000
set_option maxHeartbeats 1000000
namespace DW
open PySem PySem.Spec PyProof.Rows L2
def isInt : PyData → Bool
  | .int _ => true
  | _ => false
def isBool : PyData → Bool
  | .bool _ => true
  | _ => false
def isSeq : PyData → Bool
  | .list _ => true
  | .tuple _ => true
  | _ => false
section
variable {ρ ρ1 ρ2 : En} {ta tb te : TE} {x : PyData} {K : PySem.W.Frag}
theorem ed_isiInt (h : EvD te ρ x ρ1) : EvD (tCB (rIsi K) (tCons te (tCons (tC (.ty "int")) tNil))) ρ (.bool (isInt x || isBool x)) ρ1 := fun Hk σ H a Q q => h Hk σ H a _ fun v Hk1 H1 g1 r => by
  cases r with
  | non => exact ⟨_, _, _, _, false, rfl, .ty _, .base .non, kit_ty (by decide +kernel), q _ Hk1 H1 g1 (.bl _)⟩
  | bl b => exact ⟨_, _, _, _, true, rfl, .ty _, .base (.bl b), kit_ty (by decide +kernel), q _ Hk1 H1 g1 (.bl _)⟩
  | int i => exact ⟨_, _, _, _, true, rfl, .ty _, .base (.int i), kit_ty (by decide +kernel), q _ Hk1 H1 g1 (.bl _)⟩
  | str i => exact ⟨_, _, _, _, false, rfl, .ty _, .base (.str i), kit_ty (by decide +kernel), q _ Hk1 H1 g1 (.bl _)⟩
  | lst e r => exact ⟨_, _, _, _, false, rfl, .ty _, .base (.lst (g1.at'.kh _ _ e)), kit_ty (by decide +kernel), q _ Hk1 H1 g1 (.bl _)⟩
  | tup e r => exact ⟨_, _, _, _, false, rfl, .ty _, .base (.tup (g1.at'.kh _ _ e)), kit_ty (by decide +kernel), q _ Hk1 H1 g1 (.bl _)⟩
theorem ed_isiBool (h : EvD te ρ x ρ1) : EvD (tCB (rIsi K) (tCons te (tCons (tC (.ty "bool")) tNil))) ρ (.bool (isBool x)) ρ1 := fun Hk σ H a Q q => h Hk σ H a _ fun v Hk1 H1 g1 r => by
  cases r with
  | non => exact ⟨_, _, _, _, false, rfl, .ty _, .base .non, kit_ty (by decide +kernel), q _ Hk1 H1 g1 (.bl _)⟩
  | bl b => exact ⟨_, _, _, _, true, rfl, .ty _, .base (.bl b), kit_ty (by decide +kernel), q _ Hk1 H1 g1 (.bl _)⟩
  | int i => exact ⟨_, _, _, _, false, rfl, .ty _, .base (.int i), kit_ty (by decide +kernel), q _ Hk1 H1 g1 (.bl _)⟩
  | str i => exact ⟨_, _, _, _, false, rfl, .ty _, .base (.str i), kit_ty (by decide +kernel), q _ Hk1 H1 g1 (.bl _)⟩
  | lst e r => exact ⟨_, _, _, _, false, rfl, .ty _, .base (.lst (g1.at'.kh _ _ e)), kit_ty (by decide +kernel), q _ Hk1 H1 g1 (.bl _)⟩
  | tup e r => exact ⟨_, _, _, _, false, rfl, .ty _, .base (.tup (g1.at'.kh _ _ e)), kit_ty (by decide +kernel), q _ Hk1 H1 g1 (.bl _)⟩
theorem kitAny2 {K : PySem.W.Frag} {a b c : String} {p q : Bool} (h1 : kitB a b = some p) (h2 : kitB a c = some q) : PySem.W.kitAny K (.type a) [.type b, .type c] = some (p || q) := by
  cases p with
  | true => exact kitAny_cons (kit_ty h1) (fun z => by cases z) (fun _ => rfl)
  | false => exact kitAny_cons (kit_ty h1) (fun _ => kitAny_cons (b := q) (kit_ty h2) (fun z => by subst z; rfl) (fun z => by subst z; rfl)) (fun z => by cases z)
theorem ed_isSeq (h : EvD te ρ x ρ1) : EvD (tCB (rIsiT K) (tCons te (tCons (tTup (tCons (tC (.ty "list")) (tCons (tC (.ty "tuple")) tNil))) tNil))) ρ (.bool (isSeq x)) ρ1 := fun Hk σ H a Q q => h Hk σ H a _ fun v Hk1 H1 g1 r => by
  refine ⟨by show 2 ≤ sizeLine; decide, fun p np => ?_⟩
  have e1 : Ex H1 (upd H1 p (.tup [.ty "list", .ty "tuple"])) := Ex.new np
  have g2 := g1.trans (g1.at'.newH (o := .tup [.ty "list", .ty "tuple"]) np)
  have pr : Paired ClsV [V.ty "list", V.ty "tuple"] [Value.type "list", Value.type "tuple"] := .cons (.ty _) (.cons (.ty _) .nil)
  cases r with
  | non => exact ⟨_, p, _, _, _, _, rfl, upd_same, pr, .base .non, kitAny2 (p := false) (q := false) (by decide +kernel) (by decide +kernel), q _ Hk1 _ g2 (.bl _)⟩
  | bl b => exact ⟨_, p, _, _, _, _, rfl, upd_same, pr, .base (.bl b), kitAny2 (p := false) (q := false) (by decide +kernel) (by decide +kernel), q _ Hk1 _ g2 (.bl _)⟩
  | int i => exact ⟨_, p, _, _, _, _, rfl, upd_same, pr, .base (.int i), kitAny2 (p := false) (q := false) (by decide +kernel) (by decide +kernel), q _ Hk1 _ g2 (.bl _)⟩
  | str i => exact ⟨_, p, _, _, _, _, rfl, upd_same, pr, .base (.str i), kitAny2 (p := false) (q := false) (by decide +kernel) (by decide +kernel), q _ Hk1 _ g2 (.bl _)⟩
  | lst e r => exact ⟨_, p, _, _, _, _, rfl, upd_same, pr, .base (.lst (e1 _ _ (g1.at'.kh _ _ e))), kitAny2 (p := true) (q := false) (by decide +kernel) (by decide +kernel), q _ Hk1 _ g2 (.bl _)⟩
  | tup e r => exact ⟨_, p, _, _, _, _, rfl, upd_same, pr, .base (.tup (e1 _ _ (g1.at'.kh _ _ e))), kitAny2 (p := false) (q := true) (by decide +kernel) (by decide +kernel), q _ Hk1 _ g2 (.bl _)⟩
end
end DW

set_option maxRecDepth 100000
set_option maxHeartbeats 1000000
namespace DW
open PySem PySem.Spec PyProof.Rows L2
def topS (i : Nat) : Stmt := PySem.Challenge.pw_makefirst_k21_whole_checks_that_suit_an.main.body.getD i (.Pass ⟨0, 0, 0, 0⟩)
def inClass (s : Stmt) (j : Nat) : Stmt := match s with
  | .ClassDef (body := b) .. => b.getD j (.Pass ⟨0, 0, 0, 0⟩)
  | _ => .Pass ⟨0, 0, 0, 0⟩
/-- the built-ins as they were, the words' numbers -/
structure Nm (mg : Str → Option Value) : Prop where
  isinstance : mg "isinstance" = none
  int : mg "int" = none
  bool : mg "bool" = none
  list : mg "list" = none
  tuple : mg "tuple" = none
  len : mg "len" = none
  all : mg "all" = none
  sum : mg "sum" = none
  sorted : mg "sorted" = none
  set : mg "set" = none
  range : mg "range" = none
  zip : mg "zip" = none
  enumerate : mg "enumerate" = none
  repr : mg "repr" = none
  abs : mg "abs" = none
  MOST_COLUMNS : ∃ t, mg "MOST_COLUMNS" = some (.int 4 t)
  MOST_VALUES : ∃ t, mg "MOST_VALUES" = some (.int 4 t)
  MOST_CHECKS : ∃ t, mg "MOST_CHECKS" = some (.int 6 t)
  MOST_PLACES : ∃ t, mg "MOST_PLACES" = some (.int 3 t)
theorem bt_isinstance : bootBuiltins "isinstance" = some (.builtin "isinstance") := by decide +kernel
theorem bt_int : bootBuiltins "int" = some (.type "int") := by decide +kernel
theorem bt_bool : bootBuiltins "bool" = some (.type "bool") := by decide +kernel
theorem bt_list : bootBuiltins "list" = some (.type "list") := by decide +kernel
theorem bt_tuple : bootBuiltins "tuple" = some (.type "tuple") := by decide +kernel
theorem bt_len : bootBuiltins "len" = some (.builtin "len") := by decide +kernel
theorem bt_all : bootBuiltins "all" = some (.builtin "all") := by decide +kernel
theorem bt_sum : bootBuiltins "sum" = some (.builtin "sum") := by decide +kernel
theorem bt_sorted : bootBuiltins "sorted" = some (.builtin "sorted") := by decide +kernel
theorem bt_set : bootBuiltins "set" = some (.type "set") := by decide +kernel
theorem bt_repr : bootBuiltins "repr" = some (.builtin "repr") := by decide +kernel
theorem bt_abs : bootBuiltins "abs" = some (.builtin "abs") := by decide +kernel
/-! the rules whose readings ask for K, at a K that is named -/
section
variable {X : Cx} {K : PySem.W.Frag}
theorem ix_listK  (h : X.K = K := by rfl) : IxR X (rIxL K) := by subst h; exact ix_list
theorem ix_tupK  (h : X.K = K := by rfl) : IxR X (rIxT K) := by subst h; exact ix_tup
theorem sl_listK  (h : X.K = K := by rfl) : SlR X (rSlL K) := by subst h; exact sl_list
theorem sl_tupAK  (h : X.K = K := by rfl) : SlR X (rSlA K) := by subst h; exact sl_tupA
theorem op_catAK  (h : X.K = K := by rfl) : OpR X (binaryOp .Add) (rCatA K) := by subst h; exact op_catA
theorem op_eqDK (hu : X.A.units + 64 < cLine) (h : X.K = K := by rfl) : OpR X (compareOp .Eq) (rEqD K) := by subst h; exact op_eqD hu
theorem op_neDK (hu : X.A.units + 64 < cLine) (h : X.K = K := by rfl) : OpR X (compareOp .NotEq) (rNeD K) := by subst h; exact op_neD hu
theorem op_inDK (hu : X.A.units + 65 < cLine) (h : X.K = K := by rfl) : OpR X (compareOp .In) (rInD K) := by subst h; exact op_inD hu
theorem op_notInDK (hu : X.A.units + 65 < cLine) (h : X.K = K := by rfl) : OpR X (compareOp .NotIn) (rNotInD K) := by subst h; exact op_notInD hu
theorem op_inDTK (hu : X.A.units + 65 < cLine) (h : X.K = K := by rfl) : OpR X (compareOp .In) (rInDT K) := by subst h; exact op_inDT hu
theorem op_notInDTK (hu : X.A.units + 65 < cLine) (h : X.K = K := by rfl) : OpR X (compareOp .NotIn) (rNotInDT K) := by subst h; exact op_notInDT hu
theorem cr_lenK  (h : X.K = K := by rfl) : CallR X (.builtin "len") (rLen K) := by subst h; exact cr_len
theorem cr_listK  (h : X.K = K := by rfl) : CallR X (.type "list") (rListOf K) := by subst h; exact cr_list
theorem cr_tupleK  (h : X.K = K := by rfl) : CallR X (.type "tuple") (rTupOf K) := by subst h; exact cr_tuple
theorem cr_allK (hc : X.calm = true) (h : X.K = K := by rfl) : CallR X (.builtin "all") (rAll K) := by subst h; exact cr_all hc
theorem cr_sumK (hc : X.calm = true) (h : X.K = K := by rfl) : CallR X (.builtin "sum") (rSum K) := by subst h; exact cr_sum hc
theorem call_isiK  (h : X.K = K := by rfl) : CallR X (.builtin "isinstance") (rIsi K) := by subst h; exact call_isi
theorem call_isiTK  (h : X.K = K := by rfl) : CallR X (.builtin "isinstance") (rIsiT K) := by subst h; exact call_isiT
theorem pi_listK {tg l : Expr} {tl : TE} (hl : PE X l tl) (h : X.K = K := by rfl) : PI X tg l (iList K tl) := by subst h; exact pi_list hl
theorem pi_tupK {tg l : Expr} {tl : TE} (hl : PE X l tl) (h : X.K = K := by rfl) : PI X tg l (iTup K tl) := by subst h; exact pi_tup hl
end
theorem pe_gI {X : Cx} {x : Str} {pos : Pos} {n : Int} (hg : Gl X x) (h : ∃ t, X.mg x = some (.int n t)) (hd : (x == ("__debug__" : Str)) = false := by decide) : PE X (.Name x pos) (tC (.int n)) := by
  obtain ⟨t, hm⟩ := h
  exact pe_glob hg hm ⟨t, rfl⟩ hd
theorem NoOw.of {ρ : En} {i : Nat} (h : ρ[i]? = some none) : NoOw ρ i := fun p ds e => by
  rw [h] at e
  cases e
theorem NoOw.kn {ρ : En} {i : Nat} {d : PyData} (h : ρ[i]? = some (some (.kn d))) : NoOw ρ i := fun p ds e => by
  rw [h] at e
  cases e
theorem NoOw.ow0 {ρ : En} {i : Nat} {ds : List PyData} (h : ρ[i]? = some (some (.ow false ds))) : ¬ Pin ρ i := fun ⟨es, e⟩ => by
  rw [h] at e
  cases e
theorem np_of {ρ : En} {i : Nat} (h : ρ[i]? = some none) : ¬ Pin ρ i := not_pin (NoOw.of h)
theorem np_kn {ρ : En} {i : Nat} {d : PyData} (h : ρ[i]? = some (some (.kn d))) : ¬ Pin ρ i := not_pin (NoOw.kn h)
theorem nw1 {s : Sl} (h : notOw s) : ∀ t ∈ [s], notOw t := fun t ht => by rw [List.mem_singleton.mp ht]; exact h
theorem mem_ints {l : List Int} {d : PyData} (h : d ∈ l.map PyData.int) : ∃ i, i ∈ l ∧ d = .int i := by
  obtain ⟨i, h1, rfl⟩ := List.mem_map.mp h
  exact ⟨i, h1, rfl⟩
theorem mem_tI {l : List (List Int)} {d : PyData} (h : d ∈ l.map tI) : ∃ i, i ∈ l ∧ d = tI i := by
  obtain ⟨i, h1, rfl⟩ := List.mem_map.mp h
  exact ⟨i, h1, rfl⟩
theorem atI_nat {α : Type} {l : List α} {k : Nat} {x : α} (h : l[k]? = some x) : L2.atI l (k : Int) = some x := by
  have hk := (List.getElem?_eq_some_iff.mp h).1
  have e : L2.ixN l.length (k : Int) = some k := by
    unfold L2.ixN
    rw [if_pos (by omega), if_pos (by omega)]
    simp
  unfold L2.atI
  rw [e]
  exact h
theorem all_true {α : Type} (l : List α) : (l.map fun _ => true).all id = true := by simp
/-- a tuple of tuples of ints -/
def tR (rs : List (List Int)) : PyData := .tuple (rs.map tI)
abbrev Ck := List Int × List (List Int)
def ckD (c : Ck) : PyData := .tuple [tI c.1, tR c.2]
def isBelow (x : PyData) (m : Int) : Bool := match x with
  | .int i => decide (0 ≤ i) && decide (i < m)
  | _ => false
end DW

set_option maxRecDepth 100000
set_option maxHeartbeats 1000000
namespace DW
open PySem PySem.Spec PyProof.Rows L2
def leL (p q : List Int) : Bool := decide (p ≤ q)
def sortL (rs : List (List Int)) : List (List Int) := rs.mergeSort leL
theorem leD_tI (p q : List Int) : leD (tI p) (tI q) = leL p q := by
  show (!PySem.W.dataLt (.tuple (q.map .int)) (.tuple (p.map .int))) = _
  rw [PySem.W.dataLt_tuple]
  show (!PySem.W.rowLt (q.map .int) (p.map .int)) = _
  rw [PySem.W.dataLt_ints]
  unfold leL
  by_cases h : q < p
  · have h' : ¬ p ≤ q := fun r => List.not_lt.mpr r h
    simp [h, h']
  · have h' : p ≤ q := List.not_lt.mp h
    simp [h, h']
theorem sort_tI (rs : List (List Int)) : (rs.map tI).mergeSort leD = (sortL rs).map tI := by
  unfold sortL
  rw [List.map_mergeSort (s := leD) (f := tI) (fun a _ b _ => (leD_tI a b).symm)]
theorem sort_id {rs : List (List Int)} (h : rs.Pairwise (· ≤ ·)) : sortL rs = rs := by
  unfold sortL
  exact List.mergeSort_of_pairwise (List.Pairwise.imp (fun h => by simpa [leL] using h) h)
theorem alike_tI (rs : List (List Int)) : PySem.W.AllAlike (rs.map tI) := PySem.W.AllAlike.of fun a b => by
  show PySem.W.alike (.tuple (a.map .int)) (.tuple (b.map .int)) = true
  simp only [PySem.W.alike]
  exact PySem.W.alike_ints a b
theorem ok_tI {rs : List (List Int)} (h : ∀ r ∈ rs, r ≠ []) : KX.SortOk (rs.map tI) := .inl fun d hd => by
  obtain ⟨r, hr, rfl⟩ := mem_tI hd
  cases r with
  | nil => exact absurd rfl (h _ hr)
  | cons x r => exact ⟨.int x, r.map .int, rfl⟩
theorem ok_tI0 {rs : List (List Int)} : KX.SortOk (([] :: rs).map tI) := .inr ⟨rs.map tI, rfl, fun d hd => by
  obtain ⟨r, hr, rfl⟩ := mem_tI hd
  exact ⟨_, rfl⟩⟩
theorem depth_tI (r : List Int) : (tI r).depth ≤ 60 := by
  show (PyData.tuple (r.map .int)).depth ≤ 60
  rw [PyData.depth, PySem.W.depth_ints]
  decide
theorem dedup_id {rs : List (List Int)} (h : rs.Nodup) : dedupI rs = rs := by
  have : ∀ (l acc : List (List Int)), (acc ++ l).Nodup → l.foldl (fun acc r => if r ∈ acc then acc else acc ++ [r]) acc = acc ++ l := by
    intro l
    induction l with
    | nil => intro acc _; simp
    | cons r l ih =>
      intro acc hn
      have hr : r ∉ acc := fun hm => by
        rw [List.nodup_append] at hn
        exact hn.2.2 r hm r (by simp) rfl
      rw [List.foldl_cons, if_neg hr, ih (acc ++ [r]) (by simpa using hn)]
      simp
  simpa [dedupI] using this rs [] (by simpa using h)
/-! data that are equal -/
theorem eqv_int (a b : Int) : PyData.eqv (.int a) (.int b) = decide (a = b) := by
  simp only [PyData.eqv]
  by_cases h : a = b <;> simp [h]
theorem eqv_ints : ∀ a b : List Int, PyData.eqvAll (a.map .int) (b.map .int) = decide (a = b)
  | [], [] => by simp [PyData.eqvAll]
  | [], b :: bs => by simp [PyData.eqvAll]
  | a :: as, [] => by simp [PyData.eqvAll]
  | a :: as, b :: bs => by
    rw [List.map_cons, List.map_cons, PyData.eqvAll, eqv_int, eqv_ints as bs]
    by_cases h : a = b <;> simp [h]
theorem eqv_tI (a b : List Int) : PyData.eqv (tI a) (tI b) = decide (a = b) := by
  show PyData.eqv (.tuple (a.map .int)) (.tuple (b.map .int)) = _
  rw [PyData.eqv]
  exact eqv_ints a b
theorem any_tI (rs : List (List Int)) (r : List Int) : ((rs.map tI).any fun z => PyData.eqv z (tI r)) = decide (r ∈ rs) := by
  induction rs with
  | nil => simp
  | cons q rs ih =>
    rw [List.map_cons, List.any_cons, eqv_tI, ih]
    by_cases h : q = r
    · simp [h]
    · have : ¬ r = q := fun z => h z.symm
      simp [h, this]
theorem any_ints (l : List Int) (i : Int) : ((l.map PyData.int).any fun z => PyData.eqv z (.int i)) = decide (i ∈ l) := by
  induction l with
  | nil => simp
  | cons q rs ih =>
    rw [List.map_cons, List.any_cons, eqv_int, ih]
    by_cases h : q = i
    · simp [h]
    · have : ¬ i = q := fun z => h z.symm
      simp [h, this]
end DW

set_option maxRecDepth 100000
set_option maxHeartbeats 1000000
namespace DW
open PySem PySem.Spec PyProof.Rows L2
/-! ### less is known -/
inductive Le : En → En → Prop
  | nil : Le [] []
  | same {s : Option Sl} {a b : En} : Le a b → Le (s :: a) (s :: b)
  | drop {s : Option Sl} {a b : En} : (∀ ds, s ≠ some (.ow true ds)) → Le a b → Le (none :: a) (s :: b)
theorem Le.refl : ∀ ρ : En, Le ρ ρ
  | [] => .nil
  | _ :: ρ => .same (Le.refl ρ)
theorem Le.len {a b : En} (h : Le a b) : a.length = b.length := by
  induction h with
  | nil => rfl
  | same _ ih => simp [ih]
  | drop _ _ ih => simp [ih]
theorem Le.get {a b : En} (h : Le a b) : ∀ {i : Nat} {s : Sl}, a[i]? = some (some s) → b[i]? = some (some s) := by
  induction h with
  | nil => intro i s e; simp at e
  | same _ ih =>
    intro i s e
    cases i with
    | zero => simpa using e
    | succ i => simp only [List.getElem?_cons_succ] at e ⊢; exact ih e
  | drop _ _ ih =>
    intro i s e
    cases i with
    | zero => simp at e
    | succ i => simp only [List.getElem?_cons_succ] at e ⊢; exact ih e
theorem Le.pin {a b : En} (h : Le a b) : ∀ {i : Nat}, Pin b i → Pin a i := by
  induction h with
  | nil => intro i e; exact e
  | same _ ih =>
    intro i e
    cases i with
    | zero => obtain ⟨ds, e⟩ := e; exact ⟨ds, by simpa using e⟩
    | succ i => obtain ⟨ds, e⟩ := e; obtain ⟨es, e2⟩ := ih (i := i) ⟨ds, by simpa using e⟩; exact ⟨es, by simpa using e2⟩
  | drop n _ ih =>
    intro i e
    cases i with
    | zero => obtain ⟨ds, e⟩ := e; simp only [List.getElem?_cons_zero, Option.some.injEq] at e; exact absurd e (n ds)
    | succ i => obtain ⟨ds, e⟩ := e; obtain ⟨es, e2⟩ := ih (i := i) ⟨ds, by simpa using e⟩; exact ⟨es, by simpa using e2⟩
theorem At.less {ρ ρ' : En} {Hk : Hp} {σ : L2.St} {H : Hp} (l : Le ρ' ρ) (a : At ρ Hk σ H) : At ρ' Hk σ H :=
  ⟨a.kh, by rw [l.len]; exact a.len, fun i s h => a.en i s (l.get h), fun i j p q ds es b h1 h2 h3 h4 => a.inj i j p q ds es b (l.get h1) (l.get h2) h3 h4⟩
theorem Owns.less {ρ ρ' : En} {σ : L2.St} {b : Addr} (l : Le ρ' ρ) (h : Owns σ ρ' b) : Owns σ ρ b := by
  obtain ⟨i, p, ds, h1, h2⟩ := h
  exact ⟨i, p, ds, l.get h1, h2⟩
theorem GoS.less {ρ ρ1 ρ2 : En} {Hk Hk' : Hp} {σ σ' : L2.St} {H H' : Hp} (l : Le ρ2 ρ1) (g : GoS ρ Hk σ H ρ1 Hk' σ' H') : GoS ρ Hk σ H ρ2 Hk' σ' H' :=
  ⟨g.at'.less l, g.gr, fun a h => g.own a (h.less l), fun i p => ⟨l.pin (g.pin i p).1, (g.pin i p).2⟩⟩
theorem SD.weak {t : TS} {ρ ρ1 ρ2 : En} (h : SD t ρ (.nx ρ1)) (l : Le ρ2 ρ1) : SD t ρ (.nx ρ2) := fun Hk σ H D a q => h Hk σ H D a fun Hk' σ' H' g => q Hk' σ' H' (g.less l)
theorem GoS.more {ρ ρ' ρ1 : En} {Hk Hk' : Hp} {σ σ' : L2.St} {H H' : Hp} (l : Le ρ' ρ) (g : GoS ρ' Hk σ H ρ1 Hk' σ' H') : GoS ρ Hk σ H ρ1 Hk' σ' H' :=
  ⟨g.at', g.gr.mono fun b h => h.less l, fun a h => (g.own a h).imp (fun z => z.less l) fun z => z, fun i p => g.pin i (l.pin p)⟩
theorem SD.pre {t : TS} {ρ ρ' : En} {o : Oc} (l : Le ρ' ρ) (h : SD t ρ' o) : SD t ρ o := fun Hk σ H D a q => h Hk σ H D (a.less l) fun Hk' σ' H' g => q Hk' σ' H' (g.more l)
theorem sd_tgt {te : TE} {g : TG} {ρ ρ1 ρa : En} {d : PyData} {js : List Nat} (h : EvD te ρ d ρ1) (ht : TgD g d ρ1 ρa js) : SD (tAsg te g) ρ (.nx ρa) := fun Hk σ H D a q =>
  h Hk σ H a _ fun v Hk1 H1 g1 r => ht Hk1 σ H1 v _ g1.at' r fun σ2 g2 _ _ => q Hk1 σ2 H1 (g1.s.trans g2)
/-! ### loops -/
section
variable {β γ : Type} {g : TG} {tb : TS} {enc : β → PyData} {inv : γ → En} {step : γ → β → γ} {I : List β → γ → Prop}
theorem loop_acc : ∀ {bs : List β} {c : γ}, I bs c → (∀ c b rest, b ∈ bs → I (b :: rest) c → I rest (step c b) ∧ ∃ ρa js ρb, TgD g (enc b) (inv c) ρa js ∧ SD tb ρa (.nx ρb) ∧ Le (inv (step c b)) ρb) → LoopD g tb (bs.map enc) (inv c) (.nx (inv (bs.foldl step c)))
  | [], c, _, _ => .nil
  | b :: bs, c, i, h => by
    obtain ⟨i2, ρa, js, ρb, h1, h2, h3⟩ := h c b bs (by simp) i
    exact .next h1 (h2.weak h3) (loop_acc i2 fun c b r hb => h c b r (by simp [hb]))
/-- a search: each turn goes on from c or hands back d -/
def goOn {β γ : Type} (f : γ → β → Except PyData γ) : List β → γ → Except PyData γ
  | [], c => .ok c
  | b :: bs, c => match f c b with
    | .ok c' => goOn f bs c'
    | .error d => .error d
def TurnD (g : TG) (tb : TS) (enc : β → PyData) (inv : γ → En) (f : γ → β → Except PyData γ) (c : γ) (b : β) : Prop :=
  ∃ ρa js, TgD g (enc b) (inv c) ρa js ∧ ((∀ c', f c b = .ok c' → ∃ ρb, SD tb ρa (.nx ρb) ∧ Le (inv c') ρb) ∧ ∀ d, f c b = .error d → ∃ ρb, SD tb ρa (.rt d ρb))
theorem loop_find {f : γ → β → Except PyData γ} : ∀ {bs : List β} {c : γ}, I bs c → (∀ c b rest, b ∈ bs → I (b :: rest) c → TurnD g tb enc inv f c b ∧ ∀ c', f c b = .ok c' → I rest c') →
    (∀ c', goOn f bs c = .ok c' → LoopD g tb (bs.map enc) (inv c) (.nx (inv c'))) ∧ ∀ d, goOn f bs c = .error d → ∃ ρ', LoopD g tb (bs.map enc) (inv c) (.rt d ρ')
  | [], c, _, h => by
    refine ⟨fun c' e => ?_, fun d e => ?_⟩
    · cases e
      exact .nil
    · cases e
  | b :: bs, c, i, h => by
    obtain ⟨⟨ρa, js, h1, h2, h3⟩, hi⟩ := h c b bs (by simp) i
    cases q : f c b with
    | ok c' =>
      obtain ⟨ρb, h4, h5⟩ := h2 c' q
      obtain ⟨i1, i2⟩ := loop_find (bs := bs) (c := c') (hi c' q) fun c b r hb => h c b r (by simp [hb])
      have e : goOn f (b :: bs) c = goOn f bs c' := by
        show (match f c b with | .ok c' => goOn f bs c' | .error d => .error d) = _
        rw [q]
      rw [e]
      exact ⟨fun c2 hc => .next h1 (h4.weak h5) (i1 c2 hc), fun d hd => by
        obtain ⟨ρ', i3⟩ := i2 d hd
        exact ⟨ρ', .next h1 (h4.weak h5) i3⟩⟩
    | error d =>
      obtain ⟨ρb, h4⟩ := h3 d q
      have e : goOn f (b :: bs) c = .error d := by
        show (match f c b with | .ok c' => goOn f bs c' | .error d => .error d) = _
        rw [q]
      rw [e]
      refine ⟨fun c2 hc => ?_, fun d' hd => ?_⟩
      · cases hc
      · cases hd
        exact ⟨ρb, .ret h1 h4⟩
theorem for_find {wi : TI} {ρ : En} {f : γ → β → Except PyData γ} {bs : List β} {c : γ} (hi : EvI wi ρ (bs.map enc) (inv c)) (i0 : I bs c) (h : ∀ c b rest, b ∈ bs → I (b :: rest) c → TurnD g tb enc inv f c b ∧ ∀ c', f c b = .ok c' → I rest c') :
    (∀ c', goOn f bs c = .ok c' → SD (tFor wi g tb) ρ (.nx (inv c'))) ∧ ∀ d, goOn f bs c = .error d → ∃ ρ', SD (tFor wi g tb) ρ (.rt d ρ') :=
  ⟨fun c' e => sd_for hi ((loop_find i0 h).1 c' e) fun r => ⟨fun z => by (cases z), fun z => by (cases z)⟩, fun d e => by
    obtain ⟨ρ', l⟩ := (loop_find i0 h).2 d e
    exact ⟨ρ', sd_for hi l fun r => ⟨fun z => by (cases z), fun z => by (cases z)⟩⟩⟩
theorem for_acc {wi : TI} {ρ : En} {bs : List β} {c : γ} (hi : EvI wi ρ (bs.map enc) (inv c)) (i0 : I bs c) (h : ∀ c b rest, b ∈ bs → I (b :: rest) c → I rest (step c b) ∧ ∃ ρa js ρb, TgD g (enc b) (inv c) ρa js ∧ SD tb ρa (.nx ρb) ∧ Le (inv (step c b)) ρb) : SD (tFor wi g tb) ρ (.nx (inv (bs.foldl step c))) :=
  sd_for hi (loop_acc i0 h) fun r => ⟨fun z => by (cases z), fun z => by (cases z)⟩
end
/-! ### what may be compared -/
theorem lay_ints : ∀ r : List Int, PyData.canLayAll0 (r.map .int) = true
  | [] => by simp [PyData.canLayAll0]
  | x :: r => by
    rw [List.map_cons, PyData.canLayAll0, lay_ints r]
    simp [PyData.canLay0]
theorem lay_tI (r : List Int) : (tI r).canLay0 = true := by
  show (PyData.tuple (r.map .int)).canLay0 = true
  rw [PyData.canLay0]
  exact lay_ints r
theorem dep_tI (r : List Int) : (tI r).depth = 1 := by
  show (PyData.tuple (r.map .int)).depth = 1
  rw [PyData.depth, PySem.W.depth_ints]
theorem lay_rows : ∀ rs : List (List Int), PyData.canLayAll0 (rs.map tI) = true
  | [] => by simp [PyData.canLayAll0]
  | x :: r => by
    rw [List.map_cons, PyData.canLayAll0, lay_rows r, lay_tI]
    rfl
theorem dep_rows : ∀ rs : List (List Int), PyData.depthAll (rs.map tI) ≤ 1
  | [] => by simp [PyData.depthAll]
  | x :: r => by
    rw [List.map_cons, PyData.depthAll, dep_tI]
    have := dep_rows r
    omega
theorem shp_int (i : Int) : SeqAt.shaped (.int i) = true := by
  unfold SeqAt.shaped
  simp [PyData.canLay0, PyData.depth]
theorem shp_tI (r : List Int) : SeqAt.shaped (tI r) = true := by
  unfold SeqAt.shaped
  rw [lay_tI, dep_tI]
  decide
theorem shp_L (r : List Int) : SeqAt.shaped (.list (r.map .int)) = true := by
  unfold SeqAt.shaped
  rw [PyData.canLay0, lay_ints, PyData.depth, PySem.W.depth_ints]
  decide
theorem shp_rows (rs : List (List Int)) : SeqAt.shaped (.tuple (rs.map tI)) = true := by
  unfold SeqAt.shaped
  rw [PyData.canLay0, lay_rows, PyData.depth]
  have := dep_rows rs
  simp
  omega
theorem shp_rowsL (rs : List (List Int)) : SeqAt.shaped (.list (rs.map tI)) = true := by
  unfold SeqAt.shaped
  rw [PyData.canLay0, lay_rows, PyData.depth]
  have := dep_rows rs
  simp
  omega
/-! ### the book -/
structure BkC (K : PySem.W.Frag) (C : Addr) : Prop where
  cls : Cls K C
  columns : NoAttr K C "columns"
  checks : NoAttr K C "checks"
def bookF (cols : List Int) (cks : List Ck) : List (Str × PyData) := [("columns", tI cols), ("checks", .tuple (cks.map ckD))]
abbrev bookS (C : Addr) (cols : List Int) (cks : List Ck) : Sl := .obj C (bookF cols cks)
section
variable {ρ : En} {K : PySem.W.Frag} {C : Addr} {cols : List Int} {cks : List Ck} {i : Nat}
theorem ed_cols (B : BkC K C) (h : ρ[i]? = some (some (bookS C cols cks))) : EvD (tFld K (tVar i) "columns") ρ (tI cols) ρ := ed_fld h B.cls B.columns (by rfl)
theorem ed_cks (B : BkC K C) (h : ρ[i]? = some (some (bookS C cols cks))) : EvD (tFld K (tVar i) "checks") ρ (.tuple (cks.map ckD)) ρ := ed_fld h B.cls B.checks (by rfl)
end
end DW

set_option maxRecDepth 100000
set_option maxHeartbeats 1000000
namespace DW
open PySem PySem.Spec PyProof.Rows L2
theorem EvI.to {wi : TI} {ρ ρ' : En} {ds ds' : List PyData} (h : EvI wi ρ ds ρ') (e : ds = ds') : EvI wi ρ ds' ρ' := e ▸ h
theorem EvN.to {te : TE} {ρ ρ' : En} {ds ds' : List PyData} (h : EvN te ρ ds ρ') (e : ds = ds') : EvN te ρ ds' ρ' := e ▸ h
/-! ### comprehensions over typed items -/
section
variable {β : Type} {wi : TI} {g : TG} {tt : TT} {te : TE} {vs : List Nat} {ρ : En} {enc : β → PyData} {bs : List β} {p : β → Bool} {f : β → PyData}
theorem lc_pureT {A : β → En} : ∀ {bs : List β}, (∀ b ∈ bs, ∃ js, TgD g (enc b) (wipeE ρ vs) (A b) js ∧ (∀ j ∈ js, j ∈ vs) ∧ EvB tt (A b) (p b) (A b) ∧ (p b = true → EvD te (A b) (f b) (A b)) ∧ wipeE (A b) vs = wipeE ρ vs) →
    LcD g tt te vs (bs.map enc) (wipeE ρ vs) ((bs.filter p).map f) (wipeE ρ vs)
  | [], _ => .nil
  | b :: bs, h => by
    obtain ⟨js, h1, h2, h3, h4, h5⟩ := h b (by simp)
    have ih := lc_pureT (bs := bs) fun e he => h e (by simp [he])
    cases hp : p b with
    | true =>
      rw [List.filter_cons_of_pos hp, List.map_cons, List.map_cons]
      rw [hp] at h3
      exact .yes h1 h2 h3 (h4 hp) h5.symm ih
    | false =>
      rw [List.filter_cons_of_neg (by rw [hp]; exact Bool.false_ne_true), List.map_cons]
      rw [hp] at h3
      exact .no h1 h2 h3 h5.symm ih
theorem en_pureT {A : β → En} (hi : EvI wi ρ (bs.map enc) ρ) (h : ∀ b ∈ bs, ∃ js, TgD g (enc b) (wipeE ρ vs) (A b) js ∧ (∀ j ∈ js, j ∈ vs) ∧ EvB tt (A b) (p b) (A b) ∧ (p b = true → EvD te (A b) (f b) (A b)) ∧ wipeE (A b) vs = wipeE ρ vs)
    (hno : ∀ i ∈ vs, NoOw ρ i) (hz : bs.length < sizeLine) : EvN (tLc wi g tt te vs) ρ ((bs.filter p).map f) ρ := en_lc hi (lc_pureT h) (back_same hno) (by rw [List.length_map]; exact hz)
theorem en_filterT {j : Nat} (hi : EvI wi ρ (bs.map enc) ρ) (ht : ∀ d ∈ bs, EvB tt (ρ.set j (some (.kn (enc d)))) (p d) (ρ.set j (some (.kn (enc d))))) (he : ∀ d ∈ bs, p d = true → EvD te (ρ.set j (some (.kn (enc d)))) (f d) (ρ.set j (some (.kn (enc d)))))
    (hno : NoOw ρ j) (hz : bs.length < sizeLine) : EvN (tLc wi (gName j) tt te [j]) ρ ((bs.filter p).map f) ρ :=
  en_pureT (A := fun d => ρ.set j (some (.kn (enc d)))) hi (fun d hd => ⟨[j], by
    have := tg_name (ρ := wipeE ρ [j]) (d := enc d) (not_pin noow_wipe)
    rw [wipe_set1] at this
    exact this, fun i h => h, ht d hd, he d hd, by rw [← wipe_set1, set_wipe1]⟩) (fun i h => by
      simp only [List.mem_singleton] at h
      subst h
      exact hno) hz
theorem en_mapT {j : Nat} (hi : EvI wi ρ (bs.map enc) ρ) (he : ∀ d ∈ bs, EvD te (ρ.set j (some (.kn (enc d)))) (f d) (ρ.set j (some (.kn (enc d))))) (hno : NoOw ρ j) (hz : bs.length < sizeLine) : EvN (tLc wi (gName j) tYes te [j]) ρ (bs.map f) ρ := by
  have := en_filterT (p := fun _ => true) hi (fun d hd => eb_yes) (fun d hd _ => he d hd) hno hz
  rwa [List.filter_eq_self.mpr (fun _ _ => rfl)] at this
theorem en_map2T {K : PySem.W.Frag} {j k : Nat} {e1 e2 : β → PyData} (hjk : j ≠ k) (hi : EvI wi ρ (bs.map fun q => .tuple [e1 q, e2 q]) ρ)
    (he : ∀ q ∈ bs, EvD te ((ρ.set j (some (.kn (e1 q)))).set k (some (.kn (e2 q)))) (f q) ((ρ.set j (some (.kn (e1 q)))).set k (some (.kn (e2 q)))))
    (h1 : NoOw ρ j) (h2 : NoOw ρ k) (hz : bs.length < sizeLine) : EvN (tLc wi (gTup K 2 (gCons (gName j) (gCons (gName k) gNil))) tYes te [j, k]) ρ (bs.map f) ρ := by
  have := en_pureT (g := gTup K 2 (gCons (gName j) (gCons (gName k) gNil))) (vs := [j, k]) (tt := tYes) (te := te) (ρ := ρ) (bs := bs) (p := fun _ => true) (f := f) (enc := fun q => .tuple [e1 q, e2 q])
    (A := fun q => (ρ.set j (some (.kn (e1 q)))).set k (some (.kn (e2 q)))) hi (fun q hq => ?_) (fun i hi => ?_) hz
  · rwa [List.filter_eq_self.mpr (fun _ _ => rfl)] at this
  · refine ⟨[j, k], ?_, fun i h => h, eb_yes, fun _ => he q hq, set_wipe2 hjk⟩
    have := tg_two (K := K) (ρ := wipeE ρ [j, k]) (d := e1 q) (e := e2 q) (j := j) (k := k) (not_pin (noow_wipes (by simp))) (not_pin (noow_set (noow_wipes (by simp)) (fun _ _ z => by cases z)))
    rw [wipe_set2 hjk] at this
    exact this
  · simp only [List.mem_cons, List.not_mem_nil, or_false] at hi
    rcases hi with rfl | rfl
    · exact h1
    · exact h2
end
/-! ### a list or a tuple -/
def iEither (K : PySem.W.Frag) (te : TE) : TI := fun σ H R => iList K te σ H R ∨ iTup K te σ H R
theorem pi_either {X : Cx} {tg l : Expr} {tl : TE} (hl : PE X l tl) : PI X tg l (iEither X.K tl) := ⟨fun pins s σ H R I h => h.elim ((pi_list (tg := tg) hl).run pins s σ H R I) ((pi_tup (tg := tg) hl).run pins s σ H R I)⟩
section
variable {ρ ρ1 ρ2 : En} {ta te : TE} {x d : PyData} {ds es : List PyData} {l : Bool} {K : PySem.W.Frag}
theorem ei_either (h : EvD te ρ x ρ1) (s : SqD l x ds) : EvI (iEither K te) ρ ds ρ1 := by
  cases s with
  | l ds => exact fun Hk σ H a R q => .inl (ei_list h Hk σ H a R q)
  | t ds => exact fun Hk σ H a R q => .inr (ei_tup h Hk σ H a R q)
theorem ed_lenS (h : EvD te ρ x ρ1) (s : SqD l x ds) : EvD (tCB (rLen K) (tCons te tNil)) ρ (.int ds.length) ρ1 := by
  cases s with
  | l ds => exact ed_lenL h
  | t ds => exact ed_lenT h
theorem ed_tupS (h : EvD te ρ x ρ1) (s : SqD l x ds) : EvD (tCB (rTupOf K) (tCons te tNil)) ρ (.tuple ds) ρ1 := by
  cases s with
  | l ds => exact ed_tupL h
  | t ds => exact ed_tupT h
theorem nolst_ints : ∀ r : List Int, nolstA (r.map .int) = true
  | [] => rfl
  | _ :: r => by rw [List.map_cons]; simp [nolstA, nolst, nolst_ints r]
theorem nolst_tI (r : List Int) : nolst (tI r) = true := nolst_ints r
theorem nolst_rows : ∀ rs : List (List Int), nolstA (rs.map tI) = true
  | [] => rfl
  | r :: rs => by rw [List.map_cons]; simp [nolstA, nolst_tI, nolst_rows rs]
end
/-! owned lists hold no lists -/
inductive NL : En → Prop
  | nil : NL []
  | no {ρ : En} : NL ρ → NL (none :: ρ)
  | kn {ρ : En} {d : PyData} : NL ρ → NL (some (.kn d) :: ρ)
  | obj {ρ : En} {C : Addr} {fs : List (Str × PyData)} : NL ρ → NL (some (.obj C fs) :: ρ)
  | raw {ρ : En} {v : V} : NL ρ → NL (some (.raw v) :: ρ)
  | dic {ρ : En} {ks : List (List Key)} : NL ρ → NL (some (.dic ks) :: ρ)
  | scr {ρ : En} {K : PySem.W.Frag} {ns : List Int} : NL ρ → NL (some (.scr K ns) :: ρ)
  | ow {ρ : En} {p : Bool} {ds : List PyData} : nolstA ds = true → NL ρ → NL (some (.ow p ds) :: ρ)
theorem NL.ok {ρ : En} (h : NL ρ) : NoL ρ := by
  intro j
  induction h generalizing j with
  | nil => intro q es e; simp at e
  | no _ ih => intro q es e; cases j with
    | zero => simp at e
    | succ j => exact ih j q es (by simpa using e)
  | kn _ ih => intro q es e; cases j with
    | zero => simp at e
    | succ j => exact ih j q es (by simpa using e)
  | obj _ ih => intro q es e; cases j with
    | zero => simp at e
    | succ j => exact ih j q es (by simpa using e)
  | raw _ ih => intro q es e; cases j with
    | zero => simp at e
    | succ j => exact ih j q es (by simpa using e)
  | dic _ ih => intro q es e; cases j with
    | zero => simp at e
    | succ j => exact ih j q es (by simpa using e)
  | scr _ ih => intro q es e; cases j with
    | zero => simp at e
    | succ j => exact ih j q es (by simpa using e)
  | ow hn _ ih => intro q es e; cases j with
    | zero =>
      simp only [List.getElem?_cons_zero, Option.some.injEq] at e
      cases e
      exact hn
    | succ j => exact ih j q es (by simpa using e)
theorem cut_1 (ds : List PyData) : cutD ds (some 1) none = ds.drop 1 := by
  unfold cutD HT.sIx
  cases ds with
  | nil => simp
  | cons d ds => simp
end DW
namespace DW
open PySem PySem.Spec PyProof.Rows L2
theorem atI_getD {l : List Int} {k : Nat} (h : k < l.length) : L2.atI (l.map PyData.int) (k : Int) = some (.int (l.getD k 0)) := atI_nat (by simp [List.getD_eq_getElem?_getD, h])
def unI : PyData → List Int
  | .tuple ds => ds.map fun d => match d with | .int i => i | _ => 0
  | _ => []
theorem unI_tI (r : List Int) : unI (tI r) = r := by
  show (r.map PyData.int).map _ = r
  rw [List.map_map]
  conv => rhs; rw [← List.map_id r]
  rfl
theorem mem_dedupI (rs : List (List Int)) (r : List Int) : r ∈ dedupI rs ↔ r ∈ rs := by
  have : ∀ (l acc : List (List Int)), r ∈ l.foldl (fun acc r => if r ∈ acc then acc else acc ++ [r]) acc ↔ r ∈ acc ∨ r ∈ l := by
    intro l
    induction l with
    | nil => intro acc; simp
    | cons q l ih =>
      intro acc
      rw [List.foldl_cons, ih]
      by_cases h : q ∈ acc
      · rw [if_pos h]
        constructor
        · rintro (h1 | h1)
          · exact .inl h1
          · exact .inr (by simp [h1])
        · rintro (h1 | h1)
          · exact .inl h1
          · rcases List.mem_cons.mp h1 with rfl | h2
            · exact .inl h
            · exact .inr h2
      · rw [if_neg h]
        simp only [List.mem_append, List.mem_singleton, List.mem_cons, List.not_mem_nil, or_false]
        exact or_assoc
  rw [show dedupI rs = rs.foldl (fun acc r => if r ∈ acc then acc else acc ++ [r]) [] from rfl, this]
  simp
theorem dedup_keys (rs : List (List Int)) : ((rs.map tI).filter fun _ => true).map unI = rs := by
  rw [List.filter_eq_self.mpr (fun _ _ => rfl), List.map_map]
  conv => rhs; rw [← List.map_id rs]
  exact List.map_congr_left fun r _ => unI_tI r
theorem mem_decide {rs : List (List Int)} {r : List Int} : decide (r ∈ dedupI rs) = decide (r ∈ rs) := decide_eq_decide.mpr (mem_dedupI rs r)
end DW

set_option maxRecDepth 100000
set_option maxHeartbeats 1000000
/-! t += u, tuples. -/
namespace L2
open PySem PySem.Spec PyProof.Rows HT
section
variable {prog : Program} {w : World} {A : Around} {E : Value → Shared → Prop} {s : Shared}
theorem noI_tuple_add2 : typeLookup (.type "tuple") (dunderI "add") = pure none := by rw [typeLookup_type, builtinLookup_eq_fast]; kernel_rfl
theorem iconcat_meets {T id : String} {B : Builtin} {a b : Value} {S : PySem.Spec} {Q : Value → Shared → Prop} (ha : s.TypeIs a T) (hb : s.TypeIs b T) (hno : typeLookup (.type T) (dunderI "add") = pure none)
    (hfill : fillsNumberSlot (.type T) "add" = pure false) (hseq : seqSlot? (.type T) "__add__" = pure (some (.builtin id))) (slot : Slot T "__add__" id)
    (entry : entryFor table id = some B) (args : argsOk id ⟨[a, b], []⟩) (g : Meets (B ⟨[a, b], []⟩) S) (h : S A (wants Q E) s) : wpAny (model prog w) A (inplaceOp .Add a b) Q E s :=
  wpAny_inplaceOp_concat ha hb hno hfill hseq (call_meets slot ha entry args g h)
theorem icat_tup0 {t b : Addr} {ws : List Value} {Q : Value → Shared → Prop} (ht : IsTup s.heap t ([] : List Value).toArray) (hb : IsTup s.heap b ws.toArray) (h : Q (.ref b) s) : wpAny (model prog w) A (inplaceOp .Add (.ref t) (.ref b)) Q E s := by
  obtain ⟨⟨cls, dd, data, sl⟩, ho, hc, n, hd⟩ := id ht
  obtain ⟨⟨cls2, dd2, data2, sl2⟩, ho2, hc2, n2, hd2⟩ := id hb
  simp only at hc hd hc2 hd2
  subst hc hd hc2 hd2
  exact iconcat_meets ⟨_, ho, rfl⟩ ⟨_, ho2, rfl⟩ noI_tuple_add2 noFill_tuple_add seq_tuple_add PySem.F.slot_tuple_add PySem.F.entry_tuple_add (PySem.F.args_tuple_add_2 _ _)
    (tuple_addW0 t b ([] : List Value).toArray ws.toArray n n2 dd dd2 sl sl2 (by simp)) ⟨ho, ho2, h⟩
theorem icat_tup {t b : Addr} {vs ws : List Value} {Q : Value → Shared → Prop} (ht : IsTup s.heap t vs.toArray) (hb : IsTup s.heap b ws.toArray) (hv : vs ≠ [])
    (h1 : ws = [] → Q (.ref t) s) (h2 : ws ≠ [] → Q (.ref s.heap.objs.size) { s with heap := s.heap.push { cls := .type "tuple", data := .seq (vs ++ ws).toArray } })
    (hsz : vs.length + ws.length ≤ sizeLine) : wpAny (model prog w) A (inplaceOp .Add (.ref t) (.ref b)) Q E s := by
  obtain ⟨⟨cls, dd, data, sl⟩, ho, hc, n, hd⟩ := id ht
  obtain ⟨⟨cls2, dd2, data2, sl2⟩, ho2, hc2, n2, hd2⟩ := id hb
  simp only at hc hd hc2 hd2
  subst hc hd hc2 hd2
  have e : vs.toArray ++ ws.toArray = (vs ++ ws).toArray := by simp
  by_cases hw : ws = []
  · exact iconcat_meets ⟨_, ho, rfl⟩ ⟨_, ho2, rfl⟩ noI_tuple_add2 noFill_tuple_add seq_tuple_add PySem.F.slot_tuple_add PySem.F.entry_tuple_add (PySem.F.args_tuple_add_2 _ _)
      (tuple_addW1 t b vs.toArray ws.toArray n n2 dd dd2 sl sl2 (by simpa using hv) (by simp [hw])) ⟨ho, ho2, h1 hw⟩
  · refine iconcat_meets ⟨_, ho, rfl⟩ ⟨_, ho2, rfl⟩ noI_tuple_add2 noFill_tuple_add seq_tuple_add PySem.F.slot_tuple_add PySem.F.entry_tuple_add (PySem.F.args_tuple_add_2 _ _)
      (tuple_addW2 t b vs.toArray ws.toArray n n2 dd dd2 sl sl2 (by simpa using hv) (by simpa using hw) (by rw [List.size_toArray, List.size_toArray]; exact hsz)) ⟨ho, ho2, ?_⟩
    rw [e]
    exact h2 hw
end
theorem ip_catA {X : Cx} : PIp X .Add (rCatA X.K) := by
  intro pins s σ H x y v u Q I rx ry h
  obtain ⟨a, b, xs, ys, rfl, rfl, ha, hb, hz, q0, q1, q2⟩ := h
  cases rx
  cases ry
  obtain ⟨its, r1, p1, _⟩ := I.tuple ha
  obtain ⟨its2, r2, p2, _⟩ := I.tuple hb
  by_cases hx : xs = []
  · subst hx
    cases r1
    exact icat_tup0 p1 p2 ⟨.ref b, H, I, rfl, q0 rfl⟩
  · refine icat_tup p1 p2 (fun z => hx (r1.nil_iff.mp z)) (fun z => ⟨.ref a, H, I, rfl, q1 hx (r2.nil_iff.mp z)⟩) (fun z => ?_) (by rw [← r1.length, ← r2.length]; exact hz)
    refine ⟨.ref s.heap.objs.size, _, I.laid (t' := s.toks) (o := .tup (xs ++ ys)) (fun b ob q => Heap.get?_push_of_some _ q) (Nat.le_refl _) ?_, rfl, q2 hx (fun w => z (r2.nil_iff.mpr w)) _ (I.hok.fresh (Nat.le_refl _))⟩
    exact ⟨by rw [List.length_append]; exact hz, _, r1.append r2, IsTup.new _ _⟩
end L2
namespace DW
open PySem L2
section
variable {ρ ρ1 : En} {te : TE} {ds es : List PyData} {i : Nat} {K : PySem.W.Frag} {m n : Int}
/-- name += a tuple -/
theorem sd_augT (h0 : ρ[i]? = some (some (.kn (.tuple ds)))) (h : EvD te ρ (.tuple es) ρ) (hz : ds.length + es.length ≤ sizeLine) : SD (tAug i te (rCatA K)) ρ (.nx (ρ.set i (some (.kn (.tuple (ds ++ es)))))) := by
  have hp : ¬ Pin ρ i := fun ⟨fs, e⟩ => by rw [h0] at e; cases e
  have := sd_asg (i := i) (ed_catT (K := K) (ed_var h0) h hz) hp
  intro Hk σ H D a q
  exact this Hk σ H D a q
end
end DW

set_option maxRecDepth 100000
set_option maxHeartbeats 1000000
namespace DW
open PySem PySem.Spec PyProof.Rows L2
inductive R_is_integer : List Sl → PyData → Prop
  | mk (x : PyData) : R_is_integer [.kn x] (.bool (isInt x))
abbrev st_is_integer : Stmt := topS 11
abbrev N_is_integer : List Str := ["value"]
theorem sc_is_integer : FnScope N_is_integer ["value"] (defScope st_is_integer) := ⟨rfl, rfl, rfl, by decide +kernel, rfl, by decide +kernel, by decide +kernel⟩
theorem cl_is_integer {P : Program} {w : World} {K : PySem.W.Frag} {mg : Str → Option Value} {base : Heap} (T : Nm mg) (D : Dn K mg "is_integer" st_is_integer ["value"]) : Cl P w K mg base 1 "is_integer" (spP R_is_integer) := by
  refine cl_of D sc_is_integer (by rintro _ _ ⟨⟩; rfl) fun f cdv A outer s H E hr => ⟨_, (pss_one (ps_ret (pe_and (pe_callB call_isi (by rfl) T.isinstance bt_isinstance (pa_cons (pv 0) (pa_cons (pe_bltn (v := .ty "int") (by rfl) T.int bt_int rfl) pa_nil))) (pe_one (pe_not (pe_callB call_isi (by rfl) T.isinstance bt_isinstance (pa_cons (pv 0) (pa_cons (pe_bltn (v := .ty "bool") (by rfl) T.bool bt_bool rfl) pa_nil)))))))), ?_⟩
  rintro _ _ ⟨x⟩ -
  refine ⟨_, sd_ret (EvD.to (ed_andV (ed_isiInt (ed_var rfl)) fun _ => ed_notV (ed_isiBool (ed_var rfl))) ?_)⟩
  cases x <;> rfl
inductive R_is_number : List Sl → PyData → Prop
  | mk (x : PyData) : R_is_number [.kn x] (.bool (match x with | .int i => decide (0 ≤ i) | _ => false))
abbrev st_is_number : Stmt := topS 12
abbrev N_is_number : List Str := ["value"]
theorem sc_is_number : FnScope N_is_number ["value"] (defScope st_is_number) := ⟨rfl, rfl, rfl, by decide +kernel, rfl, by decide +kernel, by decide +kernel⟩
theorem cl_is_number {P : Program} {w : World} {K : PySem.W.Frag} {mg : Str → Option Value} {base : Heap} (T : Nm mg) (D : Dn K mg "is_number" st_is_number ["value"]) (c_is_integer : Cl P w K mg base 1 "is_integer" (spP R_is_integer)) : Cl P w K mg base 2 "is_number" (spP R_is_number) := by
  refine cl_of D sc_is_number (by rintro _ _ ⟨⟩; rfl) fun f cdv A outer s H E hr => ⟨_, (pss_one (ps_ret (pe_and (pe_cl c_is_integer hr (by decide) (by rfl) (pa_cons (pv 0) pa_nil)) (pe_one (pe_cmpR op_ge2 (pv 0) pe_int (nomark _)))))), ?_⟩
  rintro _ _ ⟨x⟩ -
  cases x with
  | int i => exact ⟨_, sd_ret (EvD.to (ed_andV (ed_call (ea_cons (ed_var rfl) ea_nil) (.d .nil) (by simp [notOw]) (.mk _)) fun _ => ed_ge (ed_var rfl) ed_c_int) rfl)⟩
  | _ => exact ⟨_, sd_ret (EvD.to (ed_andV (b := false) (ed_call (ea_cons (ed_var rfl) ea_nil) (.d .nil) (by simp [notOw]) (.mk _)) fun z => by cases z) rfl)⟩
inductive R_is_below : List Sl → PyData → Prop
  | mk (x : PyData) (m : Int) : R_is_below [.kn x, .kn (.int m)] (.bool (isBelow x m))
abbrev st_is_below : Stmt := topS 13
abbrev N_is_below : List Str := ["value", "most"]
theorem sc_is_below : FnScope N_is_below ["value", "most"] (defScope st_is_below) := ⟨rfl, rfl, rfl, by decide +kernel, rfl, by decide +kernel, by decide +kernel⟩
theorem cl_is_below {P : Program} {w : World} {K : PySem.W.Frag} {mg : Str → Option Value} {base : Heap} (T : Nm mg) (D : Dn K mg "is_below" st_is_below ["value", "most"]) (c_is_number : Cl P w K mg base 2 "is_number" (spP R_is_number)) : Cl P w K mg base 3 "is_below" (spP R_is_below) := by
  refine cl_of D sc_is_below (by rintro _ _ ⟨⟩; rfl) fun f cdv A outer s H E hr => ⟨_, (pss_one (ps_ret (pe_and (pe_cl c_is_number hr (by decide) (by rfl) (pa_cons (pv 0) pa_nil)) (pe_one (pe_cmpR op_lt2 (pv 0) (pv 1) (nomark _)))))), ?_⟩
  rintro _ _ ⟨x, m⟩ -
  cases x with
  | int i => exact ⟨_, sd_ret (EvD.to (ed_andV (ed_call (ea_cons (ed_var rfl) ea_nil) (.d .nil) (by simp [notOw]) (.mk _)) fun _ => ed_lt (ed_var rfl) (ed_var rfl)) rfl)⟩
  | _ => exact ⟨_, sd_ret (EvD.to (ed_andV (b := false) (ed_call (ea_cons (ed_var rfl) ea_nil) (.d .nil) (by simp [notOw]) (.mk _)) fun z => by cases z) rfl)⟩
inductive R_is_within : List Sl → PyData → Prop
  | mk (i m n : Int) : R_is_within [.kn (.int i), .kn (.int m), .kn (.int n)] (.bool (decide (m ≤ i) && decide (i ≤ n)))
abbrev st_is_within : Stmt := topS 14
abbrev N_is_within : List Str := ["value", "least", "most"]
theorem sc_is_within : FnScope N_is_within ["value", "least", "most"] (defScope st_is_within) := ⟨rfl, rfl, rfl, by decide +kernel, rfl, by decide +kernel, by decide +kernel⟩
theorem cl_is_within {P : Program} {w : World} {K : PySem.W.Frag} {mg : Str → Option Value} {base : Heap} (T : Nm mg) (D : Dn K mg "is_within" st_is_within ["value", "least", "most"]) (c_is_integer : Cl P w K mg base 1 "is_integer" (spP R_is_integer)) : Cl P w K mg base 2 "is_within" (spP R_is_within) := by
  refine cl_of D sc_is_within (by rintro _ _ ⟨⟩; rfl) fun f cdv A outer s H E hr => ⟨_, (pss_one (ps_ret (pe_and (pe_cl c_is_integer hr (by decide) (by rfl) (pa_cons (pv 0) pa_nil)) (pe_one (pe_chain op_le2 op_le2 (pv 1) (pv 0) (pv 2)))))), ?_⟩
  rintro _ _ ⟨i, m, n⟩ -
  exact ⟨_, sd_ret (EvD.to (ed_andV (ed_call (ea_cons (ed_var rfl) ea_nil) (.d .nil) (by simp [notOw]) (.mk _)) fun _ => ed_chain (ed_var rfl) (ed_var rfl) (ed_var rfl)) rfl)⟩
inductive R_is_sequence : List Sl → PyData → Prop
  | mk (x : PyData) : R_is_sequence [.kn x] (.bool (isSeq x))
abbrev st_is_sequence : Stmt := topS 15
abbrev N_is_sequence : List Str := ["value"]
theorem sc_is_sequence : FnScope N_is_sequence ["value"] (defScope st_is_sequence) := ⟨rfl, rfl, rfl, by decide +kernel, rfl, by decide +kernel, by decide +kernel⟩
theorem cl_is_sequence {P : Program} {w : World} {K : PySem.W.Frag} {mg : Str → Option Value} {base : Heap} (T : Nm mg) (D : Dn K mg "is_sequence" st_is_sequence ["value"]) : Cl P w K mg base 1 "is_sequence" (spP R_is_sequence) := by
  refine cl_of D sc_is_sequence (by rintro _ _ ⟨⟩; rfl) fun f cdv A outer s H E hr => ⟨_, (pss_one (ps_ret (pe_callB call_isiT (by rfl) T.isinstance bt_isinstance (pa_cons (pv 0) (pa_cons (pe_tup (pa_cons (pe_bltn (v := .ty "list") (by rfl) T.list bt_list rfl) (pa_cons (pe_bltn (v := .ty "tuple") (by rfl) T.tuple bt_tuple rfl) pa_nil))) pa_nil))))), ?_⟩
  rintro _ _ ⟨x⟩ -
  exact ⟨_, sd_ret (ed_isSeq (ed_var rfl))⟩
end DW


set_option maxRecDepth 100000
set_option maxHeartbeats 1000000
namespace DW
open PySem PySem.Spec PyProof.Rows L2
def okCols (c : List Int) : Prop := 1 ≤ c.length ∧ c.length ≤ 4 ∧ ∀ i ∈ c, 1 ≤ i ∧ i ≤ 4
inductive R_check_columns : List Sl → PyData → Prop
  | mk (c : List Int) (h : okCols c) : R_check_columns [.kn (tI c)] (tI c)
abbrev st_check_columns : Stmt := topS 17
abbrev N_check_columns : List Str := ["value", "many"]
theorem sc_check_columns : FnScope N_check_columns ["value"] (defScope st_check_columns) := ⟨rfl, rfl, rfl, by decide +kernel, rfl, by decide +kernel, by decide +kernel⟩
theorem cl_check_columns {P : Program} {w : World} {K : PySem.W.Frag} {mg : Str → Option Value} {base : Heap} (T : Nm mg) (D : Dn K mg "check_columns" st_check_columns ["value"]) (c_is_sequence : Cl P w K mg base 1 "is_sequence" (spP R_is_sequence)) (c_is_within : Cl P w K mg base 2 "is_within" (spP R_is_within)) : Cl P w K mg base 3 "check_columns" (spP R_check_columns) := by
  refine cl_of D sc_check_columns (by rintro _ _ ⟨⟩; rfl) fun f cdv A outer s H E hr => ⟨_, (pss_cons (ps_if (PW.pt (pw_or (pt_not (pt_val (pe_cl c_is_sequence hr (by decide) (by rfl) (pa_cons (pv 0) pa_nil)))) (pw_or1 (pt_not (pt_chain op_le2 op_le2 pe_int (pe_callB cr_len (by rfl) T.len bt_len (pa_cons (pv 0) pa_nil)) (pe_gI (by rfl) T.MOST_COLUMNS))))))
      (pss_one ps_never)
      pss_nil)
    (pss_cons (ps_if (pt_not (pt_val (pe_callB (cr_all rfl) (by rfl) T.all bt_all (pa_cons (pe_lc (own := [("many", 1)]) (g := (gName 1)) (tt := _) rfl sc_check_columns.nd (pi_tup (pv 0)) (blkOk_by (N := N_check_columns) (sc := defScope st_check_columns) (by decide +kernel)) (fun _ _ _ _ _ => (pg_name (i := 1) sc_check_columns.nd rfl (by first | exact Or.inl rfl | exact Or.inr rfl))) (fun _ _ _ _ _ => pts_nil) (fun _ _ _ _ _ => (pe_cl c_is_within hr (by decide) (by rfl) (pa_cons (pv 1) (pa_cons pe_int (pa_cons (pe_gI (by rfl) T.MOST_VALUES) pa_nil)))))) pa_nil))))
      (pss_one ps_never)
      pss_nil)
    (pss_one (ps_ret (pe_callTy cr_tuple (by rfl) T.tuple bt_tuple (pa_cons (pv 0) pa_nil)))))), ?_⟩
  rintro _ _ ⟨c, h1, h2, h3⟩ -
  refine ⟨_, sd_seq (sd_F (EvB.to (eb_or (eb_not (eb_test (ed_call (ea_cons (ed_var rfl) ea_nil) (.d .nil) (by simp [notOw]) (.mk _)))) fun _ => eb_not (eb_test (ed_chain ed_c_int (ed_lenT (ed_var rfl)) ed_c_int))) ?_) sd_nx)
    (sd_seq (sd_F (EvB.to (eb_not (eb_test (ed_all (bs := c.map fun _ => true) (EvD.to (en_map (f := fun _ => .bool true) (ei_tup (ed_var rfl)) (fun d hd => ?_) (NoOw.of rfl) ?_).kn ?_)))) ?_) sd_nx) (sd_ret (ed_tupT (ed_var rfl))))⟩
  · simp [isSeq, tI]
    omega
  · obtain ⟨i, hi, rfl⟩ := mem_ints hd
    obtain ⟨h4, h5⟩ := h3 i hi
    refine EvD.to (ed_call (ea_cons (ed_var rfl) (ea_cons ed_c_int (ea_cons ed_c_int ea_nil))) (.d (.d (.d .nil))) (by simp [notOw]) (.mk i 1 4)) ?_
    simp [h4, h5]
  · simp only [List.length_map]
    exact Nat.lt_of_le_of_lt h2 (by decide)
  · simp
  · rw [all_true]; rfl
def okRow (r ms : List Int) : Prop := r.length = ms.length ∧ ∀ q ∈ r.zip ms, 0 ≤ q.1 ∧ q.1 < q.2
inductive R_is_values : List Sl → PyData → Prop
  | mk (r ms : List Int) (h : okRow r ms) (hl : r.length ≤ 3) : R_is_values [.kn (tI r), .kn (.list (ms.map .int))] (.bool true)
abbrev st_is_values : Stmt := topS 18
abbrev N_is_values : List Str := ["value", "many", "one", "most"]
theorem sc_is_values : FnScope N_is_values ["value", "many"] (defScope st_is_values) := ⟨rfl, rfl, rfl, by decide +kernel, rfl, by decide +kernel, by decide +kernel⟩
theorem cl_is_values {P : Program} {w : World} {K : PySem.W.Frag} {mg : Str → Option Value} {base : Heap} (T : Nm mg) (D : Dn K mg "is_values" st_is_values ["value", "many"]) (c_is_sequence : Cl P w K mg base 1 "is_sequence" (spP R_is_sequence)) (c_is_below : Cl P w K mg base 3 "is_below" (spP R_is_below)) : Cl P w K mg base 4 "is_values" (spP R_is_values) := by
  refine cl_of D sc_is_values (by rintro _ _ ⟨⟩; rfl) fun f cdv A outer s H E hr => ⟨_, (pss_cons (ps_if (PW.pt (pw_or (pt_not (pt_val (pe_cl c_is_sequence hr (by decide) (by rfl) (pa_cons (pv 0) pa_nil)))) (pw_or1 (pt_cmpR op_ne (pe_callB cr_len (by rfl) T.len bt_len (pa_cons (pv 0) pa_nil)) (pe_callB cr_len (by rfl) T.len bt_len (pa_cons (pv 1) pa_nil)) (nomark _)))))
      (pss_one (ps_ret pe_bl))
      pss_nil)
    (pss_one (ps_ret (pe_callB (cr_all rfl) (by rfl) T.all bt_all (pa_cons (pe_lc (own := [("one", 2), ("most", 3)]) (g := (gTup _ 2 (gCons (gName 2) (gCons (gName 3) gNil)))) (tt := _) rfl sc_is_values.nd (KX.pi_zip2 (by rfl) T.zip (pa_cons (pv 0) (pa_cons (pv 1) pa_nil))) (blkOk_by (N := N_is_values) (sc := defScope st_is_values) (by decide +kernel)) (fun _ _ _ _ _ => (pg_tup rfl (pgs_cons (pg_name (i := 2) sc_is_values.nd rfl (by first | exact Or.inl rfl | exact Or.inr rfl)) (pgs_cons (pg_name (i := 3) sc_is_values.nd rfl (by first | exact Or.inl rfl | exact Or.inr rfl)) pgs_nil)))) (fun _ _ _ _ _ => pts_nil) (fun _ _ _ _ _ => (pe_cl c_is_below hr (by decide) (by rfl) (pa_cons (pv 2) (pa_cons (pv 3) pa_nil))))) pa_nil))))), ?_⟩
  rintro _ _ ⟨r, ms, ⟨h1, h2⟩, h3⟩ -
  refine ⟨_, sd_seq (sd_F (EvB.to (eb_or (eb_not (eb_test (ed_call (ea_cons (ed_var rfl) ea_nil) (.d .nil) (by simp [notOw]) (.mk _)))) fun _ => eb_test (ed_neI (ed_lenT (ed_var rfl)) (ed_lenL (ed_var rfl)))) ?_) sd_nx)
    (sd_ret (EvD.to (ed_all (bs := (r.zip ms).map fun _ => true) (EvD.to (en_map2 (F := fun _ _ => .bool true) (ps := (r.map PyData.int).zip (ms.map .int)) (by decide) (ei_zip2 (ea_cons (ed_var rfl) (ea_cons (ed_var rfl) ea_nil)) (.t _) (.l _)) (fun q hq => ?_) (NoOw.of rfl) (NoOw.of rfl) ?_).kn ?_)) ?_))⟩
  · simp [isSeq, tI, h1]
  · rw [List.zip_map] at hq
    obtain ⟨⟨i, m⟩, hp, rfl⟩ := List.mem_map.mp hq
    obtain ⟨h4, h5⟩ := h2 _ hp
    refine EvD.to (ed_call (ea_cons (ed_var rfl) (ea_cons (ed_var rfl) ea_nil)) (.d (.d .nil)) (by simp [notOw]) (.mk (.int i) m)) ?_
    simp only [isBelow]
    rw [decide_eq_true h4, decide_eq_true h5]
    rfl
  · simp only [List.length_zip, List.length_map]
    exact Nat.lt_of_le_of_lt (Nat.le_trans (Nat.min_le_left _ _) h3) (by decide)
  · simp [List.zip_map]
  · rw [all_true]
end DW


set_option maxRecDepth 100000
set_option maxHeartbeats 1000000
namespace DW
open PySem PySem.Spec PyProof.Rows L2
def okCk (cols : List Int) (c : Ck) : Prop := (1 ≤ c.1.length ∧ c.1.length ≤ 3) ∧ (∀ p ∈ c.1, 0 ≤ p ∧ p < cols.length) ∧ c.2.length ≤ 30 ∧ (∀ r ∈ c.2, okRow r (c.1.map fun p => cols.getD p.toNat 0)) ∧ c.2.Pairwise (· ≤ ·) ∧ c.2.Nodup
theorem getD_ints {l : List Int} {p : Int} (h0 : 0 ≤ p) (h1 : p < l.length) : L2.atI (l.map PyData.int) p = some (.int (l.getD p.toNat 0)) := by
  obtain ⟨k, rfl⟩ := Int.eq_ofNat_of_zero_le h0
  refine atI_nat ?_
  have hk : k < l.length := by omega
  simp [List.getD_eq_getElem?_getD, hk]
inductive R_is_check : List Sl → PyData → Prop
  | mk (cols : List Int) (c : Ck) (h : okCk cols c) : R_is_check [.kn (tI cols), .kn (ckD c)] (.bool true)
abbrev st_is_check : Stmt := topS 19
abbrev N_is_check : List Str := ["columns", "value", "places", "rows", "place", "row"]
theorem sc_is_check : FnScope N_is_check ["columns", "value"] (defScope st_is_check) := ⟨rfl, rfl, rfl, by decide +kernel, rfl, by decide +kernel, by decide +kernel⟩
theorem cl_is_check {P : Program} {w : World} {K : PySem.W.Frag} {mg : Str → Option Value} {base : Heap} (T : Nm mg) (D : Dn K mg "is_check" st_is_check ["columns", "value"]) (c_is_sequence : Cl P w K mg base 1 "is_sequence" (spP R_is_sequence)) (c_is_below : Cl P w K mg base 3 "is_below" (spP R_is_below)) (c_is_values : Cl P w K mg base 4 "is_values" (spP R_is_values)) : Cl P w K mg base 5 "is_check" (spP R_is_check) := by
  refine cl_of D sc_is_check (by rintro _ _ ⟨⟩; rfl) fun f cdv A outer s H E hr => ⟨_, (pss_cons (ps_if (PW.pt (pw_or (pt_not (pt_val (pe_cl c_is_sequence hr (by decide) (by rfl) (pa_cons (pv 1) pa_nil)))) (pw_or (pt_cmpR op_ne (pe_callB cr_len (by rfl) T.len bt_len (pa_cons (pv 1) pa_nil)) pe_int (nomark _)) (pw_or (pt_not (pt_val (pe_cl c_is_sequence hr (by decide) (by rfl) (pa_cons (pe_ix ix_tup (pv 1) pe_int (fun _ _ => rfl)) pa_nil)))) (pw_or1 (pt_not (pt_val (pe_cl c_is_sequence hr (by decide) (by rfl) (pa_cons (pe_ix ix_tup (pv 1) pe_int (fun _ _ => rfl)) pa_nil)))))))))
      (pss_one (ps_ret pe_bl))
      pss_nil)
    (pss_cons (ps_asg (pv 1) (pg_tup rfl (pgs_cons (pg_name (i := 2) sc_is_check.nd rfl (by first | exact Or.inl rfl | exact Or.inr rfl)) (pgs_cons (pg_name (i := 3) sc_is_check.nd rfl (by first | exact Or.inl rfl | exact Or.inr rfl)) pgs_nil))))
    (pss_cons (ps_if (PW.pt (pw_or (pt_not (pt_chain op_le2 op_le2 pe_int (pe_callB cr_len (by rfl) T.len bt_len (pa_cons (pv 2) pa_nil)) (pe_gI (by rfl) T.MOST_PLACES))) (pw_or1 (pt_not (pt_val (pe_callB (cr_all rfl) (by rfl) T.all bt_all (pa_cons (pe_lc (own := [("place", 4)]) (g := (gName 4)) (tt := _) rfl sc_is_check.nd (pi_tup (pv 2)) (blkOk_by (N := N_is_check) (sc := defScope st_is_check) (by decide +kernel)) (fun _ _ _ _ _ => (pg_name (i := 4) sc_is_check.nd rfl (by first | exact Or.inl rfl | exact Or.inr rfl))) (fun _ _ _ _ _ => pts_nil) (fun _ _ _ _ _ => (pe_cl c_is_below hr (by decide) (by rfl) (pa_cons (pv 4) (pa_cons (pe_callB (cr_lenK (K := K)) (by rfl) T.len bt_len (pa_cons (pv 0) pa_nil)) pa_nil))))) pa_nil)))))))
      (pss_one (ps_ret pe_bl))
      pss_nil)
    (pss_one (ps_ret (pe_callB (cr_all rfl) (by rfl) T.all bt_all (pa_cons (pe_lc (own := [("row", 5)]) (g := (gName 5)) (tt := _) rfl sc_is_check.nd (pi_tup (pv 3)) (blkOk_by (N := N_is_check) (sc := defScope st_is_check) (by decide +kernel)) (fun _ _ _ _ _ => (pg_name (i := 5) sc_is_check.nd rfl (by first | exact Or.inl rfl | exact Or.inr rfl))) (fun _ _ _ _ _ => pts_nil) (fun _ _ _ _ _ => (pe_cl c_is_values hr (by decide) (by rfl) (pa_cons (pv 5) (pa_cons (pe_lc (own := [("place", 4)]) (g := (gName 4)) (tt := _) rfl sc_is_check.nd (pi_tupK (K := K) (pv 2)) (blkOk_by (N := N_is_check) (by kernel_rfl)) (fun _ _ _ _ _ => (pg_name (i := 4) sc_is_check.nd rfl (by first | exact Or.inl rfl | exact Or.inr rfl))) (fun _ _ _ _ _ => pts_nil) (fun _ _ _ _ _ => (pe_ix (ix_tupK (K := K)) (pv 0) (pv 4) (fun _ _ => rfl)))) pa_nil))))) pa_nil))))))), ?_⟩
  rintro _ _ ⟨cols, c, ⟨h1, h2⟩, h3, h4, h5, _⟩ -
  refine ⟨_, sd_seq (sd_F (EvB.to (eb_or (eb_not (eb_test (ed_call (ea_cons (ed_var rfl) ea_nil) (.d .nil) (by simp [notOw]) (.mk _)))) fun _ => eb_or (eb_test (ed_neI (ed_lenT (ed_var rfl)) ed_c_int)) fun _ =>
      eb_or (eb_not (eb_test (ed_call (ea_cons (ed_ixT (d := tI c.1) (ed_var rfl) ed_c_int rfl) ea_nil) (.d .nil) (by simp [notOw]) (.mk _)))) fun _ => eb_not (eb_test (ed_call (ea_cons (ed_ixT (d := tR c.2) (ed_var rfl) ed_c_int rfl) ea_nil) (.d .nil) (by simp [notOw]) (.mk _)))) ?_) sd_nx)
    (sd_seq (sd_tgt (ed_var rfl) (tg_two (np_of rfl) (np_of rfl)))
    (sd_seq (sd_F (EvB.to (eb_or (eb_not (eb_test (ed_chain ed_c_int (ed_lenT (ed_var rfl)) ed_c_int))) fun _ => eb_not (eb_test (ed_all (bs := c.1.map fun _ => true) (EvD.to (en_map (f := fun _ => .bool true) (ei_tup (ed_var rfl)) (fun d hd => ?_) (NoOw.of rfl) ?_).kn ?_)))) ?_) sd_nx)
    (sd_ret (EvD.to (ed_all (bs := c.2.map fun _ => true) (EvD.to (en_map (f := fun _ => .bool true) (ei_tup (ed_var rfl)) (fun d hd => ?_) (NoOw.of rfl) ?_).kn ?_)) ?_))))⟩
  · rfl
  · obtain ⟨i, hi, rfl⟩ := mem_ints hd
    obtain ⟨h6, h7⟩ := h3 i hi
    refine EvD.to (ed_call (ea_cons (ed_var rfl) (ea_cons (ed_lenT (ed_var rfl)) ea_nil)) (.d (.d .nil)) (by simp [notOw]) (.mk (.int i) _)) ?_
    simp only [isBelow, List.length_map]
    rw [decide_eq_true h6, decide_eq_true h7]
    rfl
  · simp only [List.length_map]
    exact Nat.lt_of_le_of_lt h2 (by decide)
  · simp
  · rw [all_true]
    simp
    omega
  · obtain ⟨r, hr, rfl⟩ := mem_tI hd
    have ok := h5 r hr
    have hl : r.length ≤ 3 := by rw [ok.1]; simpa using h2
    refine ed_call (ea_cons (ed_var rfl) (ea_cons (EvD.to (en_map (f := fun d => match d with | .int p => .int (cols.getD p.toNat 0) | d => d) (ei_tup (ed_var rfl)) (fun d hd => ?_) (NoOw.of rfl) ?_).kn ?_) ea_nil)) (.d (.d .nil)) (by simp [notOw]) (.mk r _ ok hl)
    · obtain ⟨i, hi, rfl⟩ := mem_ints hd
      obtain ⟨h6, h7⟩ := h3 i hi
      exact ed_ixT (ed_var rfl) (ed_var rfl) (getD_ints h6 h7)
    · simp only [List.length_map]
      exact Nat.lt_of_le_of_lt h2 (by decide)
    · simp [List.map_map, Function.comp_def]
  · simp only [List.length_map]
    exact Nat.lt_of_le_of_lt h4 (by decide)
  · simp
  · rw [all_true]
inductive R_told_check : List Sl → PyData → Prop
  | mk (cols : List Int) (c : Ck) (h : okCk cols c) : R_told_check [.kn (ckD c)] (ckD c)
abbrev st_told_check : Stmt := topS 20
abbrev N_told_check : List Str := ["value", "rows", "row"]
theorem sc_told_check : FnScope N_told_check ["value"] (defScope st_told_check) := ⟨rfl, rfl, rfl, by decide +kernel, rfl, by decide +kernel, by decide +kernel⟩
theorem cl_told_check {P : Program} {w : World} {K : PySem.W.Frag} {mg : Str → Option Value} {base : Heap} (T : Nm mg) (D : Dn K mg "told_check" st_told_check ["value"]) : Cl P w K mg base 1 "told_check" (spP R_told_check) := by
  refine cl_of D sc_told_check (by rintro _ _ ⟨⟩; rfl) fun f cdv A outer s H E hr => ⟨_, (pss_cons (ps_setDcT (i := 1) (own := [("row", 2)]) (Room.un1 hr) rfl sc_told_check.nd rfl rfl (sw_trueD rfl rfl rfl (by decide +kernel)) (pi_tup (pe_ix ix_tup (pv 0) pe_int (fun _ _ => rfl))) (blkOk_by (N := N_told_check) (sc := defScope st_told_check) (by decide +kernel)) (fun _ _ _ _ _ => (pg_name (i := 2) sc_told_check.nd rfl (by first | exact Or.inl rfl | exact Or.inr rfl))) (fun _ _ _ _ _ => pts_nil) (fun _ _ _ _ _ => (pe_callTy (cr_tupleK (K := K)) (by rfl) T.tuple bt_tuple (pa_cons (pv 2) pa_nil))) (fun _ _ _ _ _ => pe_bl))
    (pss_one (ps_ret (pe_tup (pa_cons (pe_callTy cr_tuple (by rfl) T.tuple bt_tuple (pa_cons (pe_ix ix_tup (pv 0) pe_int (fun _ _ => rfl)) pa_nil)) (pa_cons (pe_callTy cr_tuple (by rfl) T.tuple bt_tuple (pa_cons (pe_callB (KX.cr_sortedD hr.units) (by rfl) T.sorted bt_sorted (pa_cons (pe_callTy (cr_listT rfl) (by rfl) T.list bt_list (pa_cons (pv 1) pa_nil)) pa_nil)) pa_nil)) pa_nil)))))), ?_⟩
  rintro _ _ ⟨cols, c, ⟨h1, h2⟩, h3, h4, h5, h6, h7⟩ -
  have hn : ∀ i, NoOw ([some (.kn (ckD c)), none, none] : En) i := fun i p ds e => by
    match i, e with
    | 0, e => cases e
    | 1, e => cases e
    | 2, e => cases e
    | i + 3, e => simp at e
  have e2 : (((c.2.map tI).filter fun _ => true).map fun d => match d with | .tuple ds => ds.map (fun d => match d with | .int i => i | _ => (0 : Int)) | _ => []) = c.2 := by
    rw [List.filter_eq_self.mpr (fun _ _ => rfl), List.map_map]
    conv => rhs; rw [← List.map_id c.2]
    refine List.map_congr_left fun r _ => ?_
    show (r.map PyData.int).map _ = r
    rw [List.map_map]
    conv => rhs; rw [← List.map_id r]
    rfl
  refine ⟨_, sd_seq (sd_asgK (ek_dc (p := fun _ => true) (f := fun d => match d with | .tuple ds => ds.map (fun d => match d with | .int i => i | _ => (0 : Int)) | _ => []) (A := fun d => [some (.kn (ckD c)), none, some (.kn d)]) (ei_tup (ed_ixT (d := tR c.2) (ed_var rfl) ed_c_int rfl)) (fun d hd => ?_) hn ?_) (np_of rfl))
    (sd_ret (ed_tup (ds := [tI c.1, tR c.2]) (ea_cons (ed_tupT (ed_ixT (d := tI c.1) (ed_var rfl) ed_c_int rfl)) (ea_cons (EvD.to (ed_tupL (en_sort (EvN.kn (en_listDic rfl)) (.l _) ?_ ?_ ?_ ?_).kn) ?_) ea_nil)) (by show 2 ≤ sizeLine; decide)))⟩
  · obtain ⟨r, hr, rfl⟩ := mem_tI hd
    refine ⟨[2], tg_name (np_of rfl), fun j h => h, eb_yes, fun _ => ⟨?_, ed_c_bl⟩, rfl⟩
    refine EvD.to (ed_tupT (ed_var rfl)) ?_
    show PyData.tuple _ = tI ((r.map PyData.int).map _)
    simp [tI, List.map_map, Function.comp_def]
  · simp only [List.length_map]
    exact Nat.lt_of_le_of_lt h4 (by decide)
  all_goals rw [e2, dedup_id h7]
  · exact alike_tI _
  · refine ok_tI fun r hr => ?_
    have := (h5 r hr).1
    intro z
    rw [z] at this
    simp at this
    omega
  · intro d hd
    obtain ⟨r, hr, rfl⟩ := mem_tI hd
    exact depth_tI r
  · simp only [List.length_map]
    exact Nat.le_trans h4 (by decide)
  · rw [sort_tI, sort_id h6]
    rfl
end DW


set_option maxRecDepth 100000
set_option maxHeartbeats 1000000
namespace DW
open PySem PySem.Spec PyProof.Rows L2
/-! ### kinds -/
def kindsAt (col : Nat) (m : Int) (o : Nat) : List (List Int) := ((List.range m.toNat).filter fun n : Nat => !decide ((n : Int) = (o : Int))).map fun n : Nat => [(col : Int), (o : Int), (n : Int)]
def kindsI (cols : List Int) : List (List Int) := cols.zipIdx.foldl (fun acc q => (List.range q.1.toNat).foldl (fun acc o => acc ++ kindsAt q.2 q.1 o) acc) []
theorem kindsAt_len (c : Nat) (m : Int) (o : Nat) : (kindsAt c m o).length ≤ m.toNat := by
  unfold kindsAt
  rw [List.length_map]
  exact Nat.le_trans (List.length_filter_le _ _) (by simp)
theorem enum_ints (l : List Int) : pairD (enumP (l.map PyData.int)) = l.zipIdx.map fun q => .tuple [.int (q.2 : Nat), .int q.1] := by
  simp [pairD, enumP, List.zipIdx_map, List.map_map, Function.comp_def]
theorem tup3 (a b c : Int) : PyData.tuple [.int a, .int b, .int c] = tI [a, b, c] := rfl
theorem fold_len {β : Type} {k : Nat} (f : β → List (List Int)) : ∀ (l : List β) (acc : List (List Int)), (∀ b ∈ l, (f b).length ≤ k) → (l.foldl (fun acc b => acc ++ f b) acc).length ≤ acc.length + l.length * k
  | [], acc, _ => by simp
  | b :: l, acc, h => by
    rw [List.foldl_cons]
    have h1 := fold_len f l (acc ++ f b) fun c hc => h c (by simp [hc])
    have h2 := h b (by simp)
    rw [List.length_append] at h1
    simp only [List.length_cons]
    rw [Nat.succ_mul]
    omega
theorem mem_zipIdx_ints {l : List Int} {q : Int × Nat} (h : q ∈ l.zipIdx) : q.1 ∈ l ∧ l[q.2]? = some q.1 := by
  have := List.mem_zipIdx_iff_getElem?.mp h
  exact ⟨List.mem_of_getElem? this, this⟩
inductive R_kinds_of (C : Addr) : List Sl → PyData → Prop
  | mk (cols : List Int) (cks : List Ck) (h : okCols cols) : R_kinds_of C [bookS C cols cks] (tR (kindsI cols))
abbrev st_kinds_of : Stmt := topS 22
abbrev N_kinds_of : List Str := ["book", "found", "column", "many", "old", "new"]
theorem sc_kinds_of : FnScope N_kinds_of ["book"] (defScope st_kinds_of) := ⟨rfl, rfl, rfl, by decide +kernel, rfl, by decide +kernel, by decide +kernel⟩
theorem cl_kinds_of {P : Program} {w : World} {K : PySem.W.Frag} {mg : Str → Option Value} {base : Heap} (T : Nm mg) (D : Dn K mg "kinds_of" st_kinds_of ["book"]) {C : Addr} (B : BkC K C) : Cl P w K mg base 1 "kinds_of" (spP (R_kinds_of C)) := by
  refine cl_of D sc_kinds_of (by rintro _ _ ⟨⟩; rfl) fun f cdv A outer s H E hr => ⟨_, (pss_cons (ps_set (i := 1) sc_kinds_of.nd rfl (by first | exact Or.inl rfl | exact Or.inr rfl) (pe_lst pa_nil))
    (pss_cons (ps_for PassesOwn.never rfl (KX.pi_enumA (by rfl) T.enumerate (pa_cons (pe_fld (pv 0) rfl) pa_nil)) (pg_tup rfl (pgs_cons (pg_name (i := 2) sc_kinds_of.nd rfl (by first | exact Or.inl rfl | exact Or.inr rfl)) (pgs_cons (pg_name (i := 3) sc_kinds_of.nd rfl (by first | exact Or.inl rfl | exact Or.inr rfl)) pgs_nil)))
      (pss_one (ps_for PassesOwn.never rfl (pi_range1 (by rfl) T.range (pa_cons (pv 3) pa_nil)) (pg_name (i := 4) sc_kinds_of.nd rfl (by first | exact Or.inl rfl | exact Or.inr rfl))
        (pss_one (ps_expr (pe_bm PySem.F.plainAttrs_list PySem.F.slot_list_extend PySem.F.type_list_extend mt_extend (pv 1) (pa_cons (pe_lc (own := [("new", 5)]) (g := (gName 5)) (tt := _) rfl sc_kinds_of.nd (pi_range1 (by rfl) T.range (pa_cons (pv 3) pa_nil)) (blkOk_by (N := N_kinds_of) (sc := defScope st_kinds_of) (by decide +kernel)) (fun _ _ _ _ _ => (pg_name (i := 5) sc_kinds_of.nd rfl (by first | exact Or.inl rfl | exact Or.inr rfl))) (fun _ _ _ _ _ => (pts_one (pt_cmpR op_ne (pv 5) (pv 4) (nomark _)))) (fun _ _ _ _ _ => (pe_tup (pa_cons (pv 2) (pa_cons (pv 4) (pa_cons (pv 5) pa_nil)))))) pa_nil)))))))
    (pss_one (ps_ret (pe_callTy cr_tuple (by rfl) T.tuple bt_tuple (pa_cons (pv 1) pa_nil)))))), ?_⟩
  rintro _ _ ⟨cols, cks, h1, h2, h3⟩ -
  refine ⟨_, sd_seq (sd_asgN (en_lst (ds := []) ea_nil (Nat.zero_le _)) (np_of rfl)) (sd_seq (for_acc (γ := List (List Int)) (enc := fun q : Int × Nat => .tuple [.int (q.2 : Nat), .int q.1]) (bs := cols.zipIdx) (c := [])
      (inv := fun acc => [some (bookS C cols cks), some (.ow false (acc.map tI)), none, none, none, none]) (step := fun acc q => (List.range q.1.toNat).foldl (fun acc o => acc ++ kindsAt q.2 q.1 o) acc)
      (I := fun rest acc => acc.length + rest.length * 16 ≤ 64) (EvI.to (ei_enum (ea_cons (ed_cols B rfl) ea_nil) (.t _)) (enum_ints cols)) ?_ fun acc q rest hq hI => ⟨?_, _, _, _, tg_two (np_of rfl) (np_of rfl),
        for_acc (γ := List (List Int)) (enc := fun o : Nat => .int (o : Nat)) (bs := List.range q.1.toNat) (c := acc) (inv := fun acc => [some (bookS C cols cks), some (.ow false (acc.map tI)), some (.kn (.int (q.2 : Nat))), some (.kn (.int q.1)), none, none])
          (step := fun acc o => acc ++ kindsAt q.2 q.1 o) (I := fun rest acc => acc.length + rest.length * 4 ≤ 64) (ei_range (ed_var rfl) ?_ ?_) ?_ fun acc o rest ho hI => ⟨?_, _, _, _, tg_name (np_of rfl),
            sd_ext (es := (kindsAt q.2 q.1 o).map tI) (EvD.to (en_filterT (enc := fun n : Nat => .int (n : Nat)) (bs := List.range q.1.toNat) (p := fun n : Nat => !decide ((n : Int) = (o : Int))) (f := fun n : Nat => tI [(q.2 : Int), (o : Int), (n : Int)]) (ei_range (ed_var rfl) ?_ ?_)
              (fun n hn => eb_test (ed_neI (ed_var rfl) (ed_var rfl))) (fun n hn _ => ed_tup (ds := [.int (q.2 : Nat), .int (o : Nat), .int (n : Nat)]) (ea_cons (ed_var rfl) (ea_cons (ed_var rfl) (ea_cons (ed_var rfl) ea_nil))) (by show 3 ≤ sizeLine; decide)) (NoOw.of rfl) ?_).kn ?_) rfl ?_, ?_⟩, ?_⟩)
      (sd_freeze (i := 1) (ds := (kindsI cols).map tI) rfl (sd_ret (ed_tupL (ed_var rfl)))))⟩
  · simp
    omega
  · have hm := h3 _ (mem_zipIdx_ints hq).1
    have := fold_len (kindsAt q.2 q.1) (List.range q.1.toNat) acc (k := 4) fun o _ => Nat.le_trans (kindsAt_len _ _ _) (by omega)
    simp only [List.length_cons, List.length_range] at this hI
    have : q.1.toNat ≤ 4 := by omega
    omega
  · have hm := h3 _ (mem_zipIdx_ints hq).1
    omega
  · have hm := h3 _ (mem_zipIdx_ints hq).1
    omega
  · have hm := h3 _ (mem_zipIdx_ints hq).1
    simp only [List.length_cons, List.length_range] at hI ⊢
    omega
  · have hm := h3 _ (mem_zipIdx_ints hq).1
    have := kindsAt_len q.2 q.1 o
    simp only [List.length_cons, List.length_append] at hI ⊢
    omega
  · have hm := h3 _ (mem_zipIdx_ints hq).1
    omega
  · have hm := h3 _ (mem_zipIdx_ints hq).1
    omega
  · have hm := h3 _ (mem_zipIdx_ints hq).1
    rw [List.length_range]
    exact Nat.lt_of_le_of_lt (by omega : q.1.toNat ≤ 4) (by decide)
  · unfold kindsAt
    rw [List.map_map]
    rfl
  · have hm := h3 _ (mem_zipIdx_ints hq).1
    have := kindsAt_len q.2 q.1 o
    simp only [List.length_cons, List.length_map] at hI ⊢
    exact Nat.le_trans (by omega : _ ≤ 64) (by decide)
  · rw [← List.map_append]
    exact .same (.same (.same (.same (.drop (fun _ z => by cases z) (.same .nil)))))
  · exact .same (.same (.drop (fun _ z => by cases z) (.drop (fun _ z => by cases z) (.same (.same .nil)))))
end DW


set_option maxRecDepth 100000
set_option maxHeartbeats 1000000
namespace DW
open PySem PySem.Spec PyProof.Rows L2
/-! ### lots, rows set, places -/
def lotsF (ps : List Int) : List (List Int) := ps.foldl (fun acc p => acc ++ acc.map fun l => l ++ [p]) [[]]
theorem lotsF_acc : ∀ (ps : List Int) (acc : List (List Int)), (ps.foldl (fun acc p => acc ++ acc.map fun l => l ++ [p]) acc).length = acc.length * 2 ^ ps.length
  | [], acc => by simp
  | p :: ps, acc => by
    rw [List.foldl_cons, lotsF_acc ps, List.length_append, List.length_map, List.length_cons, Nat.pow_succ]
    rw [← Nat.two_mul, Nat.mul_comm 2, Nat.mul_assoc, Nat.mul_comm 2]
theorem lotsF_len (ps : List Int) : (lotsF ps).length = 2 ^ ps.length := by
  unfold lotsF
  rw [lotsF_acc]
  simp
theorem lotsF_head (ps : List Int) : ∃ tl, lotsF ps = [] :: tl := by
  have : ∀ (ps : List Int) (acc : List (List Int)), (∃ tl, acc = [] :: tl) → ∃ tl, ps.foldl (fun acc p => acc ++ acc.map fun l => l ++ [p]) acc = [] :: tl := by
    intro ps
    induction ps with
    | nil => intro acc h; exact h
    | cons p ps ih =>
      intro acc ⟨tl, e⟩
      refine ih _ ⟨tl ++ acc.map (fun l => l ++ [p]), by rw [e]; rfl⟩
  exact this ps [[]] ⟨[], rfl⟩
theorem lotsF_small : ∀ (ps : List Int) (n : Nat) (acc : List (List Int)), (∀ l ∈ acc, l.length ≤ n) → ∀ l ∈ ps.foldl (fun acc p => acc ++ acc.map fun l => l ++ [p]) acc, l.length ≤ n + ps.length
  | [], n, acc, h, l, hl => by simpa using h l hl
  | p :: ps, n, acc, h, l, hl => by
    rw [List.foldl_cons] at hl
    have := lotsF_small ps (n + 1) _ (fun l hl => ?_) l hl
    · simp only [List.length_cons]
      omega
    · rcases List.mem_append.mp hl with q | q
      · exact Nat.le_succ_of_le (h l q)
      · obtain ⟨k, hk, rfl⟩ := List.mem_map.mp q
        have := h k hk
        simp
        omega
def lotsS (ps : List Int) : List (List Int) := (sortL (lotsF ps)).drop 1
inductive R_lots_set : List Sl → PyData → Prop
  | mk (ps : List Int) (h : ps.length ≤ 3) : R_lots_set [.kn (tI ps)] (.list ((lotsS ps).map tI))
abbrev st_lots_set : Stmt := topS 25
abbrev N_lots_set : List Str := ["places", "found", "place", "lot"]
theorem sc_lots_set : FnScope N_lots_set ["places"] (defScope st_lots_set) := ⟨rfl, rfl, rfl, by decide +kernel, rfl, by decide +kernel, by decide +kernel⟩
theorem cl_lots_set {P : Program} {w : World} {K : PySem.W.Frag} {mg : Str → Option Value} {base : Heap} (T : Nm mg) (D : Dn K mg "lots_set" st_lots_set ["places"]) : Cl P w K mg base 1 "lots_set" (spP R_lots_set) := by
  refine cl_of D sc_lots_set (by rintro _ _ ⟨⟩; rfl) fun f cdv A outer s H E hr => ⟨_, (pss_cons (ps_set (i := 1) sc_lots_set.nd rfl (by first | exact Or.inl rfl | exact Or.inr rfl) (pe_lst (pa_cons (pe_tup pa_nil) pa_nil)))
    (pss_cons (ps_for PassesOwn.never rfl (pi_tup (pv 0)) (pg_name (i := 2) sc_lots_set.nd rfl (by first | exact Or.inl rfl | exact Or.inr rfl))
      (pss_one (ps_expr (pe_bm PySem.F.plainAttrs_list PySem.F.slot_list_extend PySem.F.type_list_extend mt_extend (pv 1) (pa_cons (pe_lc (own := [("lot", 3)]) (g := (gName 3)) (tt := _) rfl sc_lots_set.nd (pi_list (pv 1)) (blkOk_by (N := N_lots_set) (sc := defScope st_lots_set) (by decide +kernel)) (fun _ _ _ _ _ => (pg_name (i := 3) sc_lots_set.nd rfl (by first | exact Or.inl rfl | exact Or.inr rfl))) (fun _ _ _ _ _ => pts_nil) (fun _ _ _ _ _ => (pe_op (op_catAK (K := K)) (pv 3) (pe_tup (pa_cons (pv 2) pa_nil))))) pa_nil)))))
    (pss_one (ps_ret (pe_slice sl_list (pe_callB (KX.cr_sortedD hr.units) (by rfl) T.sorted bt_sorted (pa_cons (pv 1) pa_nil)) (po_some pe_int) po_none))))), ?_⟩
  rintro _ _ ⟨ps, h⟩ -
  have hz : ∀ n, n ≤ 1000 → n < sizeLine := fun n hn => Nat.lt_of_le_of_lt hn (by decide)
  refine ⟨_, sd_seq (sd_asgN (en_lst (ds := [tI []]) (ea_cons (ed_tup (ds := []) ea_nil (Nat.zero_le _)) ea_nil) (by show 1 ≤ sizeLine; decide)) (np_of rfl))
    (sd_seq (for_acc (γ := List (List Int)) (enc := .int) (bs := ps) (c := [[]]) (inv := fun acc => [some (.kn (tI ps)), some (.ow false (acc.map tI)), none, none]) (step := fun acc p => acc ++ acc.map fun l => l ++ [p])
      (I := fun rest acc => acc.length * 2 ^ rest.length ≤ 8 ∧ ∀ l ∈ acc, l.length + rest.length ≤ 3) (ei_tup (ed_var rfl)) ?_ fun acc p rest hp hI => ⟨?_, _, _, _, tg_name (np_of rfl),
        sd_ext (es := (acc.map fun l => l ++ [p]).map tI) (en_thaw (i := 1) (ds := acc.map tI) (p := false) rfl ?_ (EvN.to (en_mapT (enc := tI) (bs := acc) (f := fun l => tI (l ++ [p])) (ei_list (ed_var rfl)) (fun l hl => EvD.to (ed_catT (ed_var rfl) (ed_tup (ds := [.int p]) (ea_cons (ed_var rfl) ea_nil) (by show 1 ≤ sizeLine; decide)) ?_) ?_) (NoOw.of rfl) ?_) ?_) ?_).kn rfl ?_, ?_⟩)
      (sd_freeze (i := 1) (ds := (lotsF ps).map tI) rfl (sd_ret (EvD.to (en_slL (lo := some 1) (hi := none) (en_sort (EvD.to (ed_var rfl) rfl) (.l ((lotsF ps).map tI)) ?_ ?_ ?_ ?_).kn (ep_int ed_c_int) ep_no).kn ?_))))⟩
  · refine ⟨?_, fun l hl => ?_⟩
    · have : 2 ^ ps.length ≤ 2 ^ 3 := Nat.pow_le_pow_right (by decide) h
      simpa using this
    · rw [List.mem_singleton.mp hl]
      simpa using h
  · refine ⟨?_, fun l hl => ?_⟩
    · have := hI.1
      rw [List.length_cons, Nat.pow_succ] at this
      rw [List.length_append, List.length_map, ← Nat.two_mul]
      rw [Nat.mul_comm 2, Nat.mul_assoc, Nat.mul_comm 2]
      exact this
    · rcases List.mem_append.mp hl with q | q
      · have := hI.2 l q
        simp only [List.length_cons] at this
        omega
      · obtain ⟨k, hk, rfl⟩ := List.mem_map.mp q
        have := hI.2 k hk
        simp only [List.length_cons, List.length_append, List.length_nil] at this ⊢
        omega
  · exact NL.ok (.kn (.ow (nolst_rows _) (.kn (.no .nil))))
  · have := hI.2 l hl
    simp only [List.length_cons, List.length_map, List.length_nil] at this ⊢
    exact Nat.le_of_lt (hz _ (by omega))
  · simp [tI]
  · have := hI.1
    have h2 : 1 ≤ 2 ^ (p :: rest).length := Nat.one_le_two_pow
    have : acc.length ≤ 8 := Nat.le_trans (Nat.le_mul_of_pos_right _ h2) this
    exact hz _ (by omega)
  · rw [List.map_map]
    rfl
  · exact nolst_rows _
  · have := hI.1
    have h2 : 1 ≤ 2 ^ (p :: rest).length := Nat.one_le_two_pow
    have : acc.length ≤ 8 := Nat.le_trans (Nat.le_mul_of_pos_right _ h2) this
    simp only [List.length_map]
    exact Nat.le_of_lt (hz _ (by omega))
  · rw [← List.map_append]
    exact .same (.same (.drop (fun _ z => by cases z) (.same .nil)))
  · exact alike_tI _
  · obtain ⟨tl, e⟩ := lotsF_head ps
    rw [e]
    exact ok_tI0
  · intro d hd
    obtain ⟨r, _, rfl⟩ := mem_tI hd
    exact depth_tI r
  · rw [List.length_map, lotsF_len]
    have : 2 ^ ps.length ≤ 2 ^ 3 := Nat.pow_le_pow_right (by decide) h
    exact Nat.le_of_lt (hz _ (by omega))
  · rw [cut_1, sort_tI, ← List.map_drop]
    rfl
def rowSet (one other lot : List Int) : List Int := one.zipIdx.map fun q => if ((q.2 : Nat) : Int) ∈ lot then other.getD q.2 0 else q.1
inductive R_row_set : List Sl → PyData → Prop
  | mk (one other lot : List Int) (h : one.length ≤ other.length) (h3 : one.length ≤ 3) : R_row_set [.kn (tI one), .kn (tI other), .kn (tI lot)] (tI (rowSet one other lot))
abbrev st_row_set : Stmt := topS 26
abbrev N_row_set : List Str := ["one", "other", "places", "at", "value"]
theorem sc_row_set : FnScope N_row_set ["one", "other", "places"] (defScope st_row_set) := ⟨rfl, rfl, rfl, by decide +kernel, rfl, by decide +kernel, by decide +kernel⟩
theorem cl_row_set {P : Program} {w : World} {K : PySem.W.Frag} {mg : Str → Option Value} {base : Heap} (T : Nm mg) (D : Dn K mg "row_set" st_row_set ["one", "other", "places"]) : Cl P w K mg base 1 "row_set" (spP R_row_set) := by
  refine cl_of D sc_row_set (by rintro _ _ ⟨⟩; rfl) fun f cdv A outer s H E hr => ⟨_, (pss_one (ps_ret (pe_callTy cr_tuple (by rfl) T.tuple bt_tuple (pa_cons (pe_lc (own := [("at", 3), ("value", 4)]) (g := (gTup _ 2 (gCons (gName 3) (gCons (gName 4) gNil)))) (tt := _) rfl sc_row_set.nd (KX.pi_enumA (by rfl) T.enumerate (pa_cons (pv 0) pa_nil)) (blkOk_by (N := N_row_set) (sc := defScope st_row_set) (by decide +kernel)) (fun _ _ _ _ _ => (pg_tup rfl (pgs_cons (pg_name (i := 3) sc_row_set.nd rfl (by first | exact Or.inl rfl | exact Or.inr rfl)) (pgs_cons (pg_name (i := 4) sc_row_set.nd rfl (by first | exact Or.inl rfl | exact Or.inr rfl)) pgs_nil)))) (fun _ _ _ _ _ => pts_nil) (fun _ _ _ _ _ => (pe_ifExp (pt_cmpR (op_inDTK (K := K) (Room.un65 hr)) (pv 3) (pv 2) (by rfl)) (pe_ix (ix_tupK (K := K)) (pv 1) (pv 3) (fun _ _ => rfl)) (pv 4)))) pa_nil)))), ?_⟩
  rintro _ _ ⟨one, other, lot, h, h3⟩ -
  refine ⟨_, sd_ret (EvD.to (ed_tupL (en_map2T (bs := one.zipIdx) (e1 := fun q => .int (q.2 : Nat)) (e2 := fun q => .int q.1) (f := fun q => .int (if ((q.2 : Nat) : Int) ∈ lot then other.getD q.2 0 else q.1)) (by decide) (EvI.to (ei_enum (ea_cons (ed_var rfl) ea_nil) (.t _)) (enum_ints one)) (fun q hq => ?_) (NoOw.of rfl) (NoOw.of rfl) ?_).kn) ?_)⟩
  · have hi := (List.getElem?_eq_some_iff.mp (mem_zipIdx_ints hq).2).1
    refine ed_if (b := decide (((q.2 : Nat) : Int) ∈ lot)) (EvB.to (eb_test (ed_inT (ed_var rfl) (ed_var rfl) (shp_int _) (shp_tI lot))) (any_ints _ _)) (fun z => ?_) (fun z => ?_)
    · rw [if_pos (of_decide_eq_true z)]
      exact ed_ixT (ed_var rfl) (ed_var rfl) (atI_getD (Nat.lt_of_lt_of_le hi h))
    · rw [if_neg (of_decide_eq_false z)]
      exact ed_var rfl
  · rw [List.length_zipIdx]
    exact Nat.lt_of_le_of_lt h3 (by decide)
  · unfold rowSet tI
    rw [List.map_map]
    rfl
def placesOf (ps one other kind : List Int) : List Int := ps.zipIdx.foldl (fun acc q => if [q.1, one.getD q.2 0, other.getD q.2 0] = kind then acc ++ [((q.2 : Nat) : Int)] else acc) []
theorem placesOf_len (ps one other kind : List Int) : (placesOf ps one other kind).length ≤ ps.length := by
  have : ∀ (l : List (Int × Nat)) (acc : List Int), (l.foldl (fun acc q => if [q.1, one.getD q.2 0, other.getD q.2 0] = kind then acc ++ [((q.2 : Nat) : Int)] else acc) acc).length ≤ acc.length + l.length := by
    intro l
    induction l with
    | nil => intro acc; simp
    | cons q l ih =>
      intro acc
      rw [List.foldl_cons]
      refine Nat.le_trans (ih _) ?_
      split
      · simp only [List.length_append, List.length_cons, List.length_nil]; omega
      · simp only [List.length_cons]; omega
  have := this ps.zipIdx []
  simpa [placesOf] using this
inductive R_places_of : List Sl → PyData → Prop
  | mk (ps one other kind : List Int) (h1 : ps.length ≤ one.length) (h2 : ps.length ≤ other.length) (h3 : ps.length ≤ 3) : R_places_of [.kn (tI ps), .kn (tI one), .kn (tI other), .kn (tI kind)] (tI (placesOf ps one other kind))
abbrev st_places_of : Stmt := topS 27
abbrev N_places_of : List Str := ["places", "one", "other", "kind", "found", "at", "column"]
theorem sc_places_of : FnScope N_places_of ["places", "one", "other", "kind"] (defScope st_places_of) := ⟨rfl, rfl, rfl, by decide +kernel, rfl, by decide +kernel, by decide +kernel⟩
theorem cl_places_of {P : Program} {w : World} {K : PySem.W.Frag} {mg : Str → Option Value} {base : Heap} (T : Nm mg) (D : Dn K mg "places_of" st_places_of ["places", "one", "other", "kind"]) : Cl P w K mg base 1 "places_of" (spP R_places_of) := by
  refine cl_of D sc_places_of (by rintro _ _ ⟨⟩; rfl) fun f cdv A outer s H E hr => ⟨_, (pss_cons (ps_set (i := 4) sc_places_of.nd rfl (by first | exact Or.inl rfl | exact Or.inr rfl) (pe_lst pa_nil))
    (pss_cons (ps_for PassesOwn.never rfl (KX.pi_enumA (by rfl) T.enumerate (pa_cons (pv 0) pa_nil)) (pg_tup rfl (pgs_cons (pg_name (i := 5) sc_places_of.nd rfl (by first | exact Or.inl rfl | exact Or.inr rfl)) (pgs_cons (pg_name (i := 6) sc_places_of.nd rfl (by first | exact Or.inl rfl | exact Or.inr rfl)) pgs_nil)))
      (pss_one (ps_if (pt_cmpR (op_eqD hr.units) (pe_tup (pa_cons (pv 6) (pa_cons (pe_ix ix_tup (pv 1) (pv 5) (fun _ _ => rfl)) (pa_cons (pe_ix ix_tup (pv 2) (pv 5) (fun _ _ => rfl)) pa_nil)))) (pv 3) (nomark _))
        (pss_one (ps_expr (pe_bm PySem.F.plainAttrs_list PySem.F.slot_list_append PySem.F.type_list_append mt_append (pv 4) (pa_cons (pv 5) pa_nil))))
        pss_nil)))
    (pss_one (ps_ret (pe_callTy cr_tuple (by rfl) T.tuple bt_tuple (pa_cons (pv 4) pa_nil)))))), ?_⟩
  rintro _ _ ⟨ps, one, other, kind, h1, h2, h3⟩ -
  refine ⟨_, sd_seq (sd_asgN (en_lst (ds := []) ea_nil (Nat.zero_le _)) (np_of rfl)) (sd_seq (for_acc (γ := List Int) (enc := fun q : Int × Nat => .tuple [.int (q.2 : Nat), .int q.1]) (bs := ps.zipIdx) (c := [])
      (inv := fun acc => [some (.kn (tI ps)), some (.kn (tI one)), some (.kn (tI other)), some (.kn (tI kind)), some (.ow false (acc.map .int)), none, none]) (step := fun acc q => if [q.1, one.getD q.2 0, other.getD q.2 0] = kind then acc ++ [((q.2 : Nat) : Int)] else acc)
      (I := fun rest acc => acc.length + rest.length ≤ 3) (EvI.to (ei_enum (ea_cons (ed_var rfl) ea_nil) (.t _)) (enum_ints ps)) (by simpa using h3) fun acc q rest hq hI => ?_)
      (sd_freeze (i := 4) (ds := (placesOf ps one other kind).map .int) rfl (sd_ret (ed_tupL (ed_var rfl)))))⟩
  have hi := (List.getElem?_eq_some_iff.mp (mem_zipIdx_ints hq).2).1
  have test : ∀ ρ : En, ρ[5]? = some (some (.kn (.int (q.2 : Nat)))) → ρ[6]? = some (some (.kn (.int q.1))) → ρ[1]? = some (some (.kn (tI one))) → ρ[2]? = some (some (.kn (tI other))) → ρ[3]? = some (some (.kn (tI kind))) →
      EvB (tTest (tOp (rEqD K) (tTup (tCons (tVar 6) (tCons (tOp (rIxT K) (tVar 1) (tVar 5)) (tCons (tOp (rIxT K) (tVar 2) (tVar 5)) tNil)))) (tVar 3))) ρ (decide ([q.1, one.getD q.2 0, other.getD q.2 0] = kind)) ρ := fun ρ e5 e6 e1 e2 e3 =>
    EvB.to (eb_test (ed_eqD (ed_tup (ds := [.int q.1, .int (one.getD q.2 0), .int (other.getD q.2 0)]) (ea_cons (ed_var e6) (ea_cons (ed_ixT (ed_var e1) (ed_var e5) (atI_getD (Nat.lt_of_lt_of_le hi h1))) (ea_cons (ed_ixT (ed_var e2) (ed_var e5) (atI_getD (Nat.lt_of_lt_of_le hi h2))) ea_nil))) (by show 3 ≤ sizeLine; decide)) (ed_var e3) (shp_tI [q.1, one.getD q.2 0, other.getD q.2 0]) (shp_tI kind))) (eqv_tI [q.1, one.getD q.2 0, other.getD q.2 0] kind)
  simp only [List.length_cons] at hI
  by_cases hk : [q.1, one.getD q.2 0, other.getD q.2 0] = kind
  · rw [if_pos hk]
    refine ⟨by simp only [List.length_append, List.length_cons, List.length_nil]; omega, _, _, _, tg_two (np_of rfl) (np_of rfl), sd_T (EvB.to (test _ rfl rfl rfl rfl rfl) (decide_eq_true hk)) (sd_app (ed_var rfl) rfl rfl ?_), ?_⟩
    · rw [List.length_map]
      exact Nat.lt_of_le_of_lt (by omega : _ ≤ 3) (by decide)
    · rw [List.map_append]
      exact .same (.same (.same (.same (.same (.drop (fun _ z => by cases z) (.drop (fun _ z => by cases z) .nil))))))
  · rw [if_neg hk]
    refine ⟨by omega, _, _, _, tg_two (np_of rfl) (np_of rfl), sd_F (EvB.to (test _ rfl rfl rfl rfl rfl) (decide_eq_false hk)) sd_nx, ?_⟩
    exact .same (.same (.same (.same (.same (.drop (fun _ z => by cases z) (.drop (fun _ z => by cases z) .nil))))))
end DW


set_option maxRecDepth 100000
set_option maxHeartbeats 1000000
namespace DW
open PySem PySem.Spec PyProof.Rows L2
theorem EvK.to {te : TE} {ρ ρ' : En} {ks ks' : List (List Key)} (h : EvK te ρ ks ρ') (e : ks = ks') : EvK te ρ ks' ρ' := e ▸ h
def barredF (c : Ck) (one other kind : List Int) : List (List Int) := (lotsS (placesOf c.1 one other kind)).filter fun lot => !decide (rowSet one other lot ∈ c.2)
theorem lotsS_len {ps : List Int} (h : ps.length ≤ 3) : (lotsS ps).length ≤ 8 := by
  unfold lotsS sortL
  rw [List.length_drop, List.length_mergeSort, lotsF_len]
  have : 2 ^ ps.length ≤ 2 ^ 3 := Nat.pow_le_pow_right (by decide) h
  omega
theorem zs {n : Nat} (h : n ≤ 1000) : n < sizeLine := Nat.lt_of_le_of_lt h (by decide)
theorem zs' {n : Nat} (h : n ≤ 1000) : n ≤ sizeLine := Nat.le_of_lt (zs h)
inductive R_barred_lots (C : Addr) : List Sl → PyData → Prop
  | mk (cols : List Int) (cks : List Ck) (k : Nat) (c : Ck) (one other kind : List Int) (hc : cks[k]? = some c) (h1 : one.length = c.1.length) (h2 : other.length = c.1.length) (h3 : c.1.length ≤ 3) :
    R_barred_lots C [bookS C cols cks, .kn (.int (k : Nat)), .kn (tI one), .kn (tI other), .kn (tI kind)] (.list ((barredF c one other kind).map tI))
abbrev st_barred_lots : Stmt := topS 28
abbrev N_barred_lots : List Str := ["book", "check", "one", "other", "kind", "places", "rows", "some", "lot"]
theorem sc_barred_lots : FnScope N_barred_lots ["book", "check", "one", "other", "kind"] (defScope st_barred_lots) := ⟨rfl, rfl, rfl, by decide +kernel, rfl, by decide +kernel, by decide +kernel⟩
theorem cl_barred_lots {P : Program} {w : World} {K : PySem.W.Frag} {mg : Str → Option Value} {base : Heap} (T : Nm mg) (D : Dn K mg "barred_lots" st_barred_lots ["book", "check", "one", "other", "kind"]) {C : Addr} (B : BkC K C) (c_places_of : Cl P w K mg base 1 "places_of" (spP R_places_of)) (c_lots_set : Cl P w K mg base 1 "lots_set" (spP R_lots_set)) (c_row_set : Cl P w K mg base 1 "row_set" (spP R_row_set)) : Cl P w K mg base 2 "barred_lots" (spP (R_barred_lots C)) := by
  refine cl_of D sc_barred_lots (by rintro _ _ ⟨⟩; rfl) fun f cdv A outer s H E hr => ⟨_, (pss_cons (ps_asg (pe_ix ix_tup (pe_fld (pv 0) rfl) (pv 1) (fun _ _ => rfl)) (pg_tup rfl (pgs_cons (pg_name (i := 5) sc_barred_lots.nd rfl (by first | exact Or.inl rfl | exact Or.inr rfl)) (pgs_cons (pg_name (i := 6) sc_barred_lots.nd rfl (by first | exact Or.inl rfl | exact Or.inr rfl)) pgs_nil))))
    (pss_cons (ps_set (i := 7) sc_barred_lots.nd rfl (by first | exact Or.inl rfl | exact Or.inr rfl) (pe_cl c_places_of hr (by decide) (by rfl) (pa_cons (pv 5) (pa_cons (pv 2) (pa_cons (pv 3) (pa_cons (pv 4) pa_nil))))))
    (pss_one (ps_ret (pe_lc (own := [("lot", 8)]) (g := (gName 8)) (tt := _) rfl sc_barred_lots.nd (pi_list (pe_cl c_lots_set hr (by decide) (by rfl) (pa_cons (pv 7) pa_nil))) (blkOk_by (N := N_barred_lots) (sc := defScope st_barred_lots) (by decide +kernel)) (fun _ _ _ _ _ => (pg_name (i := 8) sc_barred_lots.nd rfl (by first | exact Or.inl rfl | exact Or.inr rfl))) (fun _ _ _ _ _ => (pts_one (pt_cmpR (op_notInDTK (K := K) (Room.un65 hr)) (pe_cl c_row_set hr (by decide) (by rfl) (pa_cons (pv 2) (pa_cons (pv 3) (pa_cons (pv 8) pa_nil)))) (pv 6) (by rfl)))) (fun _ _ _ _ _ => (pv 8))))))), ?_⟩
  rintro _ _ ⟨cols, cks, k, c, one, other, kind, hc, h1, h2, h3⟩ -
  have hp := placesOf_len c.1 one other kind
  have hz := lotsS_len (ps := placesOf c.1 one other kind) (by omega)
  refine ⟨_, sd_seq (sd_tgt (ed_ixT (ed_cks B rfl) (ed_var rfl) (atI_nat (by rw [List.getElem?_map, hc]; rfl))) (tg_two (np_of rfl) (np_of rfl)))
    (sd_seq (sd_asg (ed_call (ea_cons (ed_var rfl) (ea_cons (ed_var rfl) (ea_cons (ed_var rfl) (ea_cons (ed_var rfl) ea_nil)))) (.d (.d (.d (.d .nil)))) (by simp [notOw]) (.mk c.1 one other kind (by omega) (by omega) h3)) (np_of rfl))
    (sd_ret (EvD.to (en_filterT (enc := tI) (bs := lotsS (placesOf c.1 one other kind)) (p := fun lot => !decide (rowSet one other lot ∈ c.2)) (f := tI) (ei_list (ed_call (ea_cons (ed_var rfl) ea_nil) (.d .nil) (by simp [notOw]) (.mk _ (by omega))))
      (fun lot hl => EvB.to (eb_test (ed_niT (ed_call (ea_cons (ed_var rfl) (ea_cons (ed_var rfl) (ea_cons (ed_var rfl) ea_nil))) (.d (.d (.d .nil))) (by simp [notOw]) (.mk one other lot (by omega) (by omega))) (ed_var rfl) (shp_tI _) (shp_rows _))) (by rw [any_tI])) (fun lot hl _ => ed_var rfl) (NoOw.of rfl) (zs (by omega))).kn rfl)))⟩
def zipI (ps one other : List Int) : List (List Int) := (ps.zip (one.zip other)).map fun q => [q.1, q.2.1, q.2.2]
theorem zip3_ints (ps one other : List Int) : zip3D (ps.map .int) (one.map .int) (other.map .int) = (zipI ps one other).map tI := by
  rw [zip3D_eq]
  unfold tripD zipI
  rw [List.zip_map, List.zip_map, List.map_map, List.map_map]
  rfl
def unlikeIn (ps one other : List Int) (kinds : List (List Int)) : Bool := (((zipI ps one other).filter fun e => !decide (e.getD 1 0 = e.getD 2 0)).map fun e => decide (e ∈ kinds)).all id
def pD (q : List Int × List Int) : PyData := .tuple [tI q.1, tI q.2]
def unlikeP (c : Ck) (kinds : List (List Int)) : List (List Int × List Int) :=
  c.2.foldl (fun acc one => c.2.foldl (fun acc other => if (!decide (one = other) && unlikeIn c.1 one other kinds) = true then acc ++ [(one, other)] else acc) acc) []
theorem len_fold {α β : Type} (f : List α → β → List α) (k : Nat) (h : ∀ acc b, (f acc b).length ≤ acc.length + k) : ∀ (l : List β) (acc : List α), (l.foldl f acc).length ≤ acc.length + l.length * k
  | [], acc => by simp
  | b :: l, acc => by
    rw [List.foldl_cons]
    have h1 := len_fold f k h l (f acc b)
    have h2 := h acc b
    simp only [List.length_cons]
    rw [Nat.succ_mul]
    omega
inductive R_unlike_pairs (C : Addr) : List Sl → PyData → Prop
  | mk (cols : List Int) (cks : List Ck) (k : Nat) (c : Ck) (kinds : List (List Int)) (hc : cks[k]? = some c) (h1 : ∀ r ∈ c.2, r.length = c.1.length) (h3 : c.1.length ≤ 3) (h4 : c.2.length ≤ 30) (h5 : kinds.length ≤ 100) :
    R_unlike_pairs C [bookS C cols cks, .kn (.int (k : Nat)), .kn (tR kinds)] (.list ((unlikeP c kinds).map pD))
abbrev st_unlike_pairs : Stmt := topS 29
abbrev N_unlike_pairs : List Str := ["book", "check", "kinds", "places", "rows", "told", "kind", "found", "one", "other", "ends", "end"]
theorem sc_unlike_pairs : FnScope N_unlike_pairs ["book", "check", "kinds"] (defScope st_unlike_pairs) := ⟨rfl, rfl, rfl, by decide +kernel, rfl, by decide +kernel, by decide +kernel⟩
theorem cl_unlike_pairs {P : Program} {w : World} {K : PySem.W.Frag} {mg : Str → Option Value} {base : Heap} (T : Nm mg) (D : Dn K mg "unlike_pairs" st_unlike_pairs ["book", "check", "kinds"]) {C : Addr} (B : BkC K C) : Cl P w K mg base 1 "unlike_pairs" (spP (R_unlike_pairs C)) := by
  refine cl_of D sc_unlike_pairs (by rintro _ _ ⟨⟩; rfl) fun f cdv A outer s H E hr => ⟨_, (pss_cons (ps_asg (pe_ix ix_tup (pe_fld (pv 0) rfl) (pv 1) (fun _ _ => rfl)) (pg_tup rfl (pgs_cons (pg_name (i := 3) sc_unlike_pairs.nd rfl (by first | exact Or.inl rfl | exact Or.inr rfl)) (pgs_cons (pg_name (i := 4) sc_unlike_pairs.nd rfl (by first | exact Or.inl rfl | exact Or.inr rfl)) pgs_nil))))
    (pss_cons (ps_set (i := 5) sc_unlike_pairs.nd rfl (by first | exact Or.inl rfl | exact Or.inr rfl) (pe_dcT (own := [("kind", 6)]) (Room.un1 hr) rfl sc_unlike_pairs.nd (pi_tup (pv 2)) (blkOk_by (N := N_unlike_pairs) (sc := defScope st_unlike_pairs) (by decide +kernel)) (fun _ _ _ _ _ => (pg_name (i := 6) sc_unlike_pairs.nd rfl (by first | exact Or.inl rfl | exact Or.inr rfl))) (fun _ _ _ _ _ => pts_nil) (fun _ _ _ _ _ => (pv 6)) (fun _ _ _ _ _ => pe_bl)))
    (pss_cons (ps_set (i := 7) sc_unlike_pairs.nd rfl (by first | exact Or.inl rfl | exact Or.inr rfl) (pe_lst pa_nil))
    (pss_cons (ps_for PassesOwn.never rfl (pi_tup (pv 4)) (pg_name (i := 8) sc_unlike_pairs.nd rfl (by first | exact Or.inl rfl | exact Or.inr rfl))
      (pss_one (ps_for PassesOwn.never rfl (pi_tup (pv 4)) (pg_name (i := 9) sc_unlike_pairs.nd rfl (by first | exact Or.inl rfl | exact Or.inr rfl))
        (pss_cons (ps_set (i := 10) sc_unlike_pairs.nd rfl (by first | exact Or.inl rfl | exact Or.inr rfl) (KX.pe_listZip3 rfl (by rfl) T.list (by rfl) T.zip (pa_cons (pv 3) (pa_cons (pv 8) (pa_cons (pv 9) pa_nil)))))
        (pss_one (ps_if (PW.pt (pw_and (pt_cmpR (op_neD hr.units) (pv 8) (pv 9) (nomark _)) (pw_and1 (pt_val (pe_callB (cr_all rfl) (by rfl) T.all bt_all (pa_cons (pe_lc (own := [("end", 11)]) (g := (gName 11)) (tt := _) rfl sc_unlike_pairs.nd (pi_list (pv 10)) (blkOk_by (N := N_unlike_pairs) (sc := defScope st_unlike_pairs) (by decide +kernel)) (fun _ _ _ _ _ => (pg_name (i := 11) sc_unlike_pairs.nd rfl (by first | exact Or.inl rfl | exact Or.inr rfl))) (fun _ _ _ _ _ => (pts_one (pt_cmpR op_ne (pe_ix (ix_tupK (K := K)) (pv 11) pe_int (fun _ _ => rfl)) (pe_ix (ix_tupK (K := K)) (pv 11) pe_int (fun _ _ => rfl)) (nomark _)))) (fun _ _ _ _ _ => (pe_cmpR (op_inDic (Room.un1 hr)) (pv 11) (pv 5) (by rfl)))) pa_nil))))))
          (pss_one (ps_expr (pe_bm PySem.F.plainAttrs_list PySem.F.slot_list_append PySem.F.type_list_append mt_append (pv 7) (pa_cons (pe_tup (pa_cons (pv 8) (pa_cons (pv 9) pa_nil))) pa_nil))))
          pss_nil))))))
    (pss_one (ps_ret (pv 7))))))), ?_⟩
  rintro _ _ ⟨cols, cks, k, c, kinds, hc, h1, h3, h4, h5⟩ -
  have hn : ∀ i, NoOw ([some (bookS C cols cks), some (.kn (.int (k : Nat))), some (.kn (tR kinds)), some (.kn (tI c.1)), some (.kn (tR c.2)), none, none, none, none, none, none, none] : En) i := fun i p ds e => by
    match i, e with
    | 0, e => cases e
    | 1, e => cases e
    | 2, e => cases e
    | 3, e => cases e
    | 4, e => cases e
    | 5, e => cases e
    | 6, e => cases e
    | 7, e => cases e
    | 8, e => cases e
    | 9, e => cases e
    | 10, e => cases e
    | 11, e => cases e
    | i + 12, e => simp at e
  let inv : List (List Int × List Int) → En := fun acc => [some (bookS C cols cks), some (.kn (.int (k : Nat))), some (.kn (tR kinds)), some (.kn (tI c.1)), some (.kn (tR c.2)), some (.dic ((dedupI kinds).map rk)), none, some (.ow false (acc.map pD)), none, none, none, none]
  let inv2 : List Int → List (List Int × List Int) → En := fun one acc => [some (bookS C cols cks), some (.kn (.int (k : Nat))), some (.kn (tR kinds)), some (.kn (tI c.1)), some (.kn (tR c.2)), some (.dic ((dedupI kinds).map rk)), none, some (.ow false (acc.map pD)), some (.kn (tI one)), none, none, none]
  refine ⟨_, sd_seq (sd_tgt (ed_ixT (ed_cks B rfl) (ed_var rfl) (atI_nat (by rw [List.getElem?_map, hc]; rfl))) (tg_two (np_of rfl) (np_of rfl)))
    (sd_seq (sd_asgK (EvK.to (ek_dc (p := fun _ => true) (f := unI) (A := fun d => [some (bookS C cols cks), some (.kn (.int (k : Nat))), some (.kn (tR kinds)), some (.kn (tI c.1)), some (.kn (tR c.2)), none, some (.kn d), none, none, none, none, none]) (ei_tup (ed_var rfl)) (fun d hd => ?_) hn ?_) (congrArg (fun z => (dedupI z).map rk) (dedup_keys kinds))) (np_of rfl))
    (sd_seq (sd_asgN (en_lst (ds := []) ea_nil (Nat.zero_le _)) (np_of rfl))
    (sd_seq (for_acc (γ := List (List Int × List Int)) (enc := tI) (bs := c.2) (c := []) (inv := inv) (step := fun acc one => c.2.foldl (fun acc other => if (!decide (one = other) && unlikeIn c.1 one other kinds) = true then acc ++ [(one, other)] else acc) acc)
      (I := fun rest acc => acc.length + rest.length * 30 ≤ 900) (EvI.to (ei_tup (ed_var rfl)) rfl) ?_ fun acc one rest h8 hI => ⟨?_, _, _, _, tg_name (np_of rfl),
        for_acc (γ := List (List Int × List Int)) (enc := tI) (bs := c.2) (c := acc) (inv := inv2 one) (step := fun acc other => if (!decide (one = other) && unlikeIn c.1 one other kinds) = true then acc ++ [(one, other)] else acc)
          (I := fun rest acc => acc.length + rest.length ≤ 900) (EvI.to (ei_tup (ed_var rfl)) rfl) ?_ fun acc other rest h9 hI => ?_, ?_⟩)
      (sd_freeze (i := 7) (ds := (unlikeP c kinds).map pD) ?_ (sd_ret (ed_var rfl))))))⟩
  · obtain ⟨r, hr, rfl⟩ := mem_tI hd
    refine ⟨[6], tg_name (np_of rfl), fun j h => h, eb_yes, fun _ => ⟨?_, ed_c_bl⟩, rfl⟩
    rw [unI_tI]
    exact ed_var rfl
  · rw [List.length_map]
    exact zs (by omega)
  · simp
    omega
  · have := len_fold (fun (acc : List (List Int × List Int)) other => if (!decide (one = other) && unlikeIn c.1 one other kinds) = true then acc ++ [(one, other)] else acc) 1 (fun acc b => by split <;> simp) c.2 acc
    simp only [List.length_cons] at hI
    omega
  · simp only [List.length_cons] at hI
    omega
  · have l1 := h1 _ h8
    have l2 := h1 _ h9
    have lz : (zipI c.1 one other).length ≤ 3 := by
      unfold zipI
      simp
      omega
    have mem : ∀ e ∈ zipI c.1 one other, e.length = 3 := fun e he => by
      obtain ⟨q, _, rfl⟩ := List.mem_map.mp he
      rfl
    let ρ : En := [some (bookS C cols cks), some (.kn (.int (k : Nat))), some (.kn (tR kinds)), some (.kn (tI c.1)), some (.kn (tR c.2)), some (.dic ((dedupI kinds).map rk)), none, some (.ow false (acc.map pD)), some (.kn (tI one)), some (.kn (tI other)), some (.kn (.list ((zipI c.1 one other).map tI))), none]
    have set : SD (tAsg (KX.tListZip3 K (tCons (tVar 3) (tCons (tVar 8) (tCons (tVar 9) tNil)))) (gName 10)) [some (bookS C cols cks), some (.kn (.int (k : Nat))), some (.kn (tR kinds)), some (.kn (tI c.1)), some (.kn (tR c.2)), some (.dic ((dedupI kinds).map rk)), none, some (.ow false (acc.map pD)), some (.kn (tI one)), some (.kn (tI other)), none, none] (.nx ρ) :=
      sd_asg (EvD.to (ed_listZip3 (ea_cons (ed_var rfl) (ea_cons (ed_var rfl) (ea_cons (ed_var rfl) ea_nil))) (.t _) (.t _) (.t _)) (by rw [zip3_ints])) (np_of rfl)
    have test := eb_and (a := !decide (one = other)) (b := unlikeIn c.1 one other kinds) (ρ := ρ) (EvB.to (eb_test (ed_neD (K := K) (ed_var (i := 8) rfl) (ed_var (i := 9) rfl) (shp_tI one) (shp_tI other))) (by rw [eqv_tI]))
      fun _ => eb_test (ed_all (K := K) (EvD.to (en_filterT (enc := tI) (bs := zipI c.1 one other) (p := fun e => !decide (e.getD 1 0 = e.getD 2 0)) (f := fun e => .bool (decide (e ∈ kinds))) (j := 11) (ei_list (K := K) (ed_var (i := 10) rfl))
        (fun e he => eb_test (ed_neI (ed_ixT (K := K) (ed_var (i := 11) rfl) ed_c_int (atI_getD (k := 1) (by rw [mem e he]; decide))) (ed_ixT (K := K) (ed_var (i := 11) rfl) ed_c_int (atI_getD (k := 2) (by rw [mem e he]; decide)))))
        (fun e he _ => EvD.to (ed_inDic (i := 5) (ed_var (i := 11) rfl) rfl) (by rw [mem_decide])) (NoOw.of rfl) (zs (by omega))).kn (by rw [List.map_map]; rfl)))
    simp only [List.length_cons] at hI
    by_cases hk : (!decide (one = other) && unlikeIn c.1 one other kinds) = true
    · rw [if_pos hk]
      refine ⟨by simp only [List.length_append, List.length_cons, List.length_nil]; omega, _, _, _, tg_name (np_of rfl), sd_seq set (sd_T (EvB.to test hk) (sd_app (ed_tup (ds := [tI one, tI other]) (ea_cons (ed_var rfl) (ea_cons (ed_var rfl) ea_nil)) (by show 2 ≤ sizeLine; decide)) rfl rfl ?_)), ?_⟩
      · rw [List.length_map]
        exact zs (by omega)
      · show Le (inv2 one (acc ++ [(one, other)])) _
        simp only [inv2]
        rw [List.map_append]
        exact .same (.same (.same (.same (.same (.same (.same (.same (.same (.drop (fun _ z => by cases z) (.drop (fun _ z => by cases z) (.same .nil)))))))))))
    · rw [if_neg hk]
      refine ⟨by omega, _, _, _, tg_name (np_of rfl), sd_seq set (sd_F (EvB.to test (by simpa using hk)) sd_nx), ?_⟩
      exact .same (.same (.same (.same (.same (.same (.same (.same (.same (.drop (fun _ z => by cases z) (.drop (fun _ z => by cases z) (.same .nil)))))))))))
  · exact .same (.same (.same (.same (.same (.same (.same (.same (.drop (fun _ z => by cases z) (.same (.same (.same .nil)))))))))))
  · rfl
end DW


set_option maxRecDepth 100000
set_option maxHeartbeats 1000000
namespace DW
open PySem PySem.Spec PyProof.Rows L2
def rowsOk (c : Ck) : Prop := (∀ r ∈ c.2, r.length = c.1.length) ∧ c.1.length ≤ 3 ∧ c.2.length ≤ 30
def psD (ps : List (List Int × List Int)) : PyData := .list (ps.map pD)
theorem range_getD {α β : Type} (f : α → β) (d : α) (l : List α) : (List.range l.length).map (fun k => f (l.getD k d)) = l.map f := by
  refine List.ext_getElem? fun i => ?_
  rw [List.getElem?_map, List.getElem?_map]
  by_cases h : i < l.length
  · rw [List.getElem?_range h]
    simp [List.getD_eq_getElem?_getD, h]
  · rw [List.getElem?_eq_none (by simpa using h), List.getElem?_eq_none (by simpa using h)]
    rfl
inductive R_all_unlike (C : Addr) : List Sl → PyData → Prop
  | mk (cols : List Int) (cks : List Ck) (kinds : List (List Int)) (h1 : ∀ c ∈ cks, rowsOk c) (h2 : cks.length ≤ 6) (h5 : kinds.length ≤ 100) : R_all_unlike C [bookS C cols cks, .kn (tR kinds)] (.list ((cks.map fun c => unlikeP c kinds).map psD))
abbrev st_all_unlike : Stmt := topS 30
abbrev N_all_unlike : List Str := ["book", "kinds", "check"]
theorem sc_all_unlike : FnScope N_all_unlike ["book", "kinds"] (defScope st_all_unlike) := ⟨rfl, rfl, rfl, by decide +kernel, rfl, by decide +kernel, by decide +kernel⟩
theorem cl_all_unlike {P : Program} {w : World} {K : PySem.W.Frag} {mg : Str → Option Value} {base : Heap} (T : Nm mg) (D : Dn K mg "all_unlike" st_all_unlike ["book", "kinds"]) {C : Addr} (B : BkC K C) (c_unlike_pairs : Cl P w K mg base 1 "unlike_pairs" (spP (R_unlike_pairs C))) : Cl P w K mg base 2 "all_unlike" (spP (R_all_unlike C)) := by
  refine cl_of D sc_all_unlike (by rintro _ _ ⟨⟩; rfl) fun f cdv A outer s H E hr => ⟨_, (pss_one (ps_ret (pe_lc (own := [("check", 2)]) (g := (gName 2)) (tt := _) rfl sc_all_unlike.nd (pi_range1 (by rfl) T.range (pa_cons (pe_callB cr_len (by rfl) T.len bt_len (pa_cons (pe_fld (pv 0) rfl) pa_nil)) pa_nil)) (blkOk_by (N := N_all_unlike) (sc := defScope st_all_unlike) (by decide +kernel)) (fun _ _ _ _ _ => (pg_name (i := 2) sc_all_unlike.nd rfl (by first | exact Or.inl rfl | exact Or.inr rfl))) (fun _ _ _ _ _ => pts_nil) (fun _ _ _ _ _ => (pe_cl c_unlike_pairs hr (by decide) (by rfl) (pa_cons (pv 0) (pa_cons (pv 2) (pa_cons (pv 1) pa_nil)))))))), ?_⟩
  rintro _ _ ⟨cols, cks, kinds, h1, h2, h5⟩ -
  refine ⟨_, sd_ret (EvD.to (en_mapT (enc := fun k : Nat => .int (k : Nat)) (bs := List.range cks.length) (f := fun k => psD (unlikeP (cks.getD k ([], [])) kinds)) (EvI.to (ei_range (ed_lenT (ed_cks B rfl)) ?_ ?_) ?_) (fun k hk => ?_) (NoOw.of rfl) ?_).kn ?_)⟩
  · rw [List.length_map]
    omega
  · rw [List.length_map]
    omega
  · rw [List.length_map]
    rfl
  · have hk := List.mem_range.mp hk
    have e : cks[k]? = some (cks.getD k ([], [])) := by simp [List.getD_eq_getElem?_getD, hk]
    obtain ⟨a1, a2, a3⟩ := h1 _ (List.mem_of_getElem? e)
    exact ed_call (ea_var (s := bookS C cols cks) rfl (ea_cons (ed_var rfl) (ea_cons (ed_var rfl) ea_nil))) (.var rfl (.d (.d .nil))) (by simp [notOw]) (.mk cols cks k _ kinds e a1 a2 a3 h5)
  · rw [List.length_range]
    exact zs (by omega)
  · rw [List.map_map, range_getD (fun c => psD (unlikeP c kinds))]
    rfl
def barE (cks : List Ck) (kind : List Int) (k : Nat) (_ : Unit) (q : List Int × List Int) : Except PyData Unit := match barredF (cks.getD k ([], [])) q.1 q.2 kind with
  | [] => .ok ()
  | l :: _ => .error (.tuple [.int (k : Nat), tI q.1, tI q.2, tI l])
def firstBarE (cks : List Ck) (kind : List Int) (pss : List (List (List Int × List Int))) : Except PyData Unit := goOn (fun _ (q : List (List Int × List Int) × Nat) => goOn (barE cks kind q.2) q.1 ()) pss.zipIdx ()
def resD : Except PyData Unit → PyData
  | .ok _ => .none
  | .error d => d
inductive R_first_bar (C : Addr) : List Sl → PyData → Prop
  | mk (cols : List Int) (cks : List Ck) (kind : List Int) (pss : List (List (List Int × List Int))) (h0 : ∀ c ∈ cks, rowsOk c) (h : ∀ q ∈ pss.zipIdx, q.2 < cks.length ∧ ∀ p ∈ q.1, p.1.length = (cks.getD q.2 ([], [])).1.length ∧ p.2.length = (cks.getD q.2 ([], [])).1.length) :
    R_first_bar C [bookS C cols cks, .kn (tI kind), .kn (.list (pss.map psD))] (resD (firstBarE cks kind pss))
abbrev st_first_bar : Stmt := topS 31
abbrev N_first_bar : List Str := ["book", "kind", "pairs", "check", "some", "one", "other", "lots"]
theorem sc_first_bar : FnScope N_first_bar ["book", "kind", "pairs"] (defScope st_first_bar) := ⟨rfl, rfl, rfl, by decide +kernel, rfl, by decide +kernel, by decide +kernel⟩
theorem cl_first_bar {P : Program} {w : World} {K : PySem.W.Frag} {mg : Str → Option Value} {base : Heap} (T : Nm mg) (D : Dn K mg "first_bar" st_first_bar ["book", "kind", "pairs"]) {C : Addr} (B : BkC K C) (c_barred_lots : Cl P w K mg base 2 "barred_lots" (spP (R_barred_lots C))) : Cl P w K mg base 3 "first_bar" (spP (R_first_bar C)) := by
  refine cl_of D sc_first_bar (by rintro _ _ ⟨⟩; rfl) fun f cdv A outer s H E hr => ⟨_, (pss_cons (ps_for PassesOwn.never rfl (KX.pi_enumA (by rfl) T.enumerate (pa_cons (pv 2) pa_nil)) (pg_tup rfl (pgs_cons (pg_name (i := 3) sc_first_bar.nd rfl (by first | exact Or.inl rfl | exact Or.inr rfl)) (pgs_cons (pg_name (i := 4) sc_first_bar.nd rfl (by first | exact Or.inl rfl | exact Or.inr rfl)) pgs_nil)))
      (pss_one (ps_for PassesOwn.never rfl (pi_list (pv 4)) (pg_tup rfl (pgs_cons (pg_name (i := 5) sc_first_bar.nd rfl (by first | exact Or.inl rfl | exact Or.inr rfl)) (pgs_cons (pg_name (i := 6) sc_first_bar.nd rfl (by first | exact Or.inl rfl | exact Or.inr rfl)) pgs_nil)))
        (pss_cons (ps_set (i := 7) sc_first_bar.nd rfl (by first | exact Or.inl rfl | exact Or.inr rfl) (pe_cl c_barred_lots hr (by decide) (by rfl) (pa_cons (pv 0) (pa_cons (pv 3) (pa_cons (pv 5) (pa_cons (pv 6) (pa_cons (pv 1) pa_nil)))))))
        (pss_one (ps_if (pt_cmpR op_gt2 (pe_callB cr_len (by rfl) T.len bt_len (pa_cons (pv 7) pa_nil)) pe_int (nomark _))
          (pss_one (ps_ret (pe_tup (pa_cons (pv 3) (pa_cons (pv 5) (pa_cons (pv 6) (pa_cons (pe_ix ix_list (pv 7) pe_int (fun _ _ => rfl)) pa_nil)))))))
          pss_nil))))))
    (pss_one (ps_ret pe_non))), ?_⟩
  rintro _ _ ⟨cols, cks, kind, pss, h0, h⟩ -
  have e : pairD (enumP (pss.map psD)) = pss.zipIdx.map fun q => .tuple [.int (q.2 : Nat), psD q.1] := by
    simp [pairD, enumP, List.zipIdx_map, List.map_map, Function.comp_def]
  let inv : Unit → En := fun _ => [some (bookS C cols cks), some (.kn (tI kind)), some (.kn (.list (pss.map psD))), none, none, none, none, none]
  have loop := for_find (γ := Unit) (enc := fun q : List (List Int × List Int) × Nat => .tuple [.int (q.2 : Nat), psD q.1]) (bs := pss.zipIdx) (c := ()) (inv := inv) (I := fun _ _ => True) (f := fun _ (q : List (List Int × List Int) × Nat) => goOn (barE cks kind q.2) q.1 ())
    (g := gTup K 2 (gCons (gName 3) (gCons (gName 4) gNil))) (wi := KX.iEnumA K (tCons (tVar 2) tNil)) (ρ := inv ())
    (tb := tFor (iList K (tVar 4)) (gTup K 2 (gCons (gName 5) (gCons (gName 6) gNil))) (tSeq (tAsg (tCall (spP (R_barred_lots C)) [] E0 (tCons (tVar 0) (tCons (tVar 3) (tCons (tVar 5) (tCons (tVar 6) (tCons (tVar 1) tNil)))))) (gName 7))
      (tIfS (tTest (tOp rGt2 (tCB (rLen K) (tCons (tVar 7) tNil)) (tC (.int 0)))) (tRet (tTup (tCons (tVar 3) (tCons (tVar 5) (tCons (tVar 6) (tCons (tOp (rIxL K) (tVar 7) (tC (.int 0))) tNil)))))) tNext)))
    (EvI.to (ei_enum (ea_cons (ed_var rfl) ea_nil) (.l _)) e) True.intro fun _ q rest hq _ => ⟨?_, fun _ _ => True.intro⟩
  · show ∃ ρ', SD (tSeq (tFor _ _ _) (tRet (tC .non))) (inv ()) (.rt (resD (firstBarE cks kind pss)) ρ')
    cases z : firstBarE cks kind pss with
    | ok u => exact ⟨_, sd_seq (loop.1 u z) (sd_ret ed_c_non)⟩
    | error d =>
      obtain ⟨ρ', l⟩ := loop.2 d z
      exact ⟨ρ', sd_seqR l⟩
  · obtain ⟨hk, hp⟩ := h q hq
    have e : cks[q.2]? = some (cks.getD q.2 ([], [])) := by simp [List.getD_eq_getElem?_getD, hk]
    obtain ⟨a1, a2, a3⟩ := h0 _ (List.mem_of_getElem? e)
    let inv2 : Unit → En := fun _ => [some (bookS C cols cks), some (.kn (tI kind)), some (.kn (.list (pss.map psD))), some (.kn (.int (q.2 : Nat))), some (.kn (psD q.1)), none, none, none]
    have loop2 := for_find (γ := Unit) (enc := pD) (bs := q.1) (c := ()) (inv := inv2) (I := fun _ _ => True) (f := barE cks kind q.2) (g := gTup K 2 (gCons (gName 5) (gCons (gName 6) gNil))) (wi := iList K (tVar 4)) (ρ := inv2 ())
      (tb := tSeq (tAsg (tCall (spP (R_barred_lots C)) [] E0 (tCons (tVar 0) (tCons (tVar 3) (tCons (tVar 5) (tCons (tVar 6) (tCons (tVar 1) tNil)))))) (gName 7))
        (tIfS (tTest (tOp rGt2 (tCB (rLen K) (tCons (tVar 7) tNil)) (tC (.int 0)))) (tRet (tTup (tCons (tVar 3) (tCons (tVar 5) (tCons (tVar 6) (tCons (tOp (rIxL K) (tVar 7) (tC (.int 0))) tNil)))))) tNext))
      (ei_list (ed_var rfl)) True.intro fun _ p rest hpp _ => ⟨?_, fun _ _ => True.intro⟩
    · refine ⟨_, _, tg_two (np_of rfl) (np_of rfl), fun c' hc => ⟨_, loop2.1 c' hc, ?_⟩, fun d hd => ?_⟩
      · exact .same (.same (.same (.drop (fun _ z => by cases z) (.drop (fun _ z => by cases z) (.same (.same (.same .nil)))))))
      · exact loop2.2 d hd
    · obtain ⟨b1, b2⟩ := hp p hpp
      have call : ∀ ρ : En, ρ[0]? = some (some (bookS C cols cks)) → ρ[1]? = some (some (.kn (tI kind))) → ρ[3]? = some (some (.kn (.int (q.2 : Nat)))) → ρ[5]? = some (some (.kn (tI p.1))) → ρ[6]? = some (some (.kn (tI p.2))) →
          EvD (tCall (spP (R_barred_lots C)) [] E0 (tCons (tVar 0) (tCons (tVar 3) (tCons (tVar 5) (tCons (tVar 6) (tCons (tVar 1) tNil)))))) ρ (.list ((barredF (cks.getD q.2 ([], [])) p.1 p.2 kind).map tI)) ρ := fun ρ e0 e1 e3 e5 e6 =>
        ed_call (ea_var e0 (ea_cons (ed_var e3) (ea_cons (ed_var e5) (ea_cons (ed_var e6) (ea_cons (ed_var e1) ea_nil))))) (.var e0 (.d (.d (.d (.d .nil))))) (by simp [notOw]) (.mk cols cks q.2 _ p.1 p.2 kind e b1 b2 a2)
      refine ⟨_, _, tg_two (np_of rfl) (np_of rfl), fun c' hc => ?_, fun d hd => ?_⟩
      · have z : barredF (cks.getD q.2 ([], [])) p.1 p.2 kind = [] := by
          unfold barE at hc
          split at hc
          · assumption
          · cases hc
        refine ⟨_, sd_seq (sd_asg (call _ rfl rfl rfl rfl rfl) (np_of rfl)) (sd_F (EvB.to (eb_test (ed_gt (ed_lenL (ed_var rfl)) ed_c_int)) ?_) sd_nx), ?_⟩
        · rw [z]
          rfl
        · exact .same (.same (.same (.same (.same (.drop (fun _ z => by cases z) (.drop (fun _ z => by cases z) (.drop (fun _ z => by cases z) .nil)))))))
      · obtain ⟨l, tl, z, rfl⟩ : ∃ l tl, barredF (cks.getD q.2 ([], [])) p.1 p.2 kind = l :: tl ∧ d = .tuple [.int (q.2 : Nat), tI p.1, tI p.2, tI l] := by
          unfold barE at hd
          split at hd
          · cases hd
          · rename_i l tl hz
            cases hd
            exact ⟨l, tl, hz, rfl⟩
        refine ⟨_, sd_seq (sd_asg (call _ rfl rfl rfl rfl rfl) (np_of rfl)) (sd_T (EvB.to (eb_test (ed_gt (ed_lenL (ed_var rfl)) ed_c_int)) ?_) (sd_ret (ed_tup (ds := [.int (q.2 : Nat), tI p.1, tI p.2, tI l]) (ea_cons (ed_var rfl) (ea_cons (ed_var rfl) (ea_cons (ed_var rfl) (ea_cons (ed_ixL (ed_var rfl) ed_c_int (atI_nat (k := 0) ?_)) ea_nil)))) (by show 4 ≤ sizeLine; decide))))⟩
        · rw [z]
          simp
        · rw [z]
          rfl
def rowNum (xs : List PyData) (bs : List Int) : Bool := decide (xs.length = bs.length) && (xs.zip bs).all fun q => isBelow q.1 q.2
inductive R_is_number_row : List Sl → PyData → Prop
  | mk (l : Bool) (x : PyData) (xs : List PyData) (bs : List Int) (s : SqD l x xs) (h : bs.length ≤ 10) : R_is_number_row [.kn x, .kn (tI bs)] (.bool (rowNum xs bs))
theorem isSeq_of {l : Bool} {x : PyData} {xs : List PyData} (s : SqD l x xs) : isSeq x = true := by cases s <;> rfl
abbrev st_is_number_row : Stmt := topS 32
abbrev N_is_number_row : List Str := ["value", "bounds", "number", "most"]
theorem sc_is_number_row : FnScope N_is_number_row ["value", "bounds"] (defScope st_is_number_row) := ⟨rfl, rfl, rfl, by decide +kernel, rfl, by decide +kernel, by decide +kernel⟩
theorem cl_is_number_row {P : Program} {w : World} {K : PySem.W.Frag} {mg : Str → Option Value} {base : Heap} (T : Nm mg) (D : Dn K mg "is_number_row" st_is_number_row ["value", "bounds"]) (c_is_sequence : Cl P w K mg base 1 "is_sequence" (spP R_is_sequence)) (c_is_below : Cl P w K mg base 3 "is_below" (spP R_is_below)) : Cl P w K mg base 4 "is_number_row" (spP R_is_number_row) := by
  refine cl_of D sc_is_number_row (by rintro _ _ ⟨⟩; rfl) fun f cdv A outer s H E hr => ⟨_, (pss_cons (ps_if (PW.pt (pw_or (pt_not (pt_val (pe_cl c_is_sequence hr (by decide) (by rfl) (pa_cons (pv 0) pa_nil)))) (pw_or1 (pt_cmpR op_ne (pe_callB cr_len (by rfl) T.len bt_len (pa_cons (pv 0) pa_nil)) (pe_callB cr_len (by rfl) T.len bt_len (pa_cons (pv 1) pa_nil)) (nomark _)))))
      (pss_one (ps_ret pe_bl))
      pss_nil)
    (pss_one (ps_ret (pe_callB (cr_all rfl) (by rfl) T.all bt_all (pa_cons (pe_lc (own := [("number", 2), ("most", 3)]) (g := (gTup _ 2 (gCons (gName 2) (gCons (gName 3) gNil)))) (tt := _) rfl sc_is_number_row.nd (KX.pi_zip2 (by rfl) T.zip (pa_cons (pv 0) (pa_cons (pv 1) pa_nil))) (blkOk_by (N := N_is_number_row) (sc := defScope st_is_number_row) (by decide +kernel)) (fun _ _ _ _ _ => (pg_tup rfl (pgs_cons (pg_name (i := 2) sc_is_number_row.nd rfl (by first | exact Or.inl rfl | exact Or.inr rfl)) (pgs_cons (pg_name (i := 3) sc_is_number_row.nd rfl (by first | exact Or.inl rfl | exact Or.inr rfl)) pgs_nil)))) (fun _ _ _ _ _ => pts_nil) (fun _ _ _ _ _ => (pe_cl c_is_below hr (by decide) (by rfl) (pa_cons (pv 2) (pa_cons (pv 3) pa_nil))))) pa_nil))))), ?_⟩
  rintro _ _ ⟨l, x, xs, bs, s, h⟩ -
  have test := fun ρ (e0 : ρ[0]? = some (some (.kn x))) (e1 : ρ[1]? = some (some (.kn (tI bs)))) => eb_or (ρ := ρ) (eb_not (eb_test (ed_call (E := E0) (R := R_is_sequence) (ea_cons (ed_var e0) ea_nil) (.d .nil) (by simp [notOw]) (.mk x)))) fun _ => eb_test (ed_neI (ed_lenS (K := K) (ed_var e0) s) (ed_lenT (K := K) (ed_var e1)))
  by_cases hl : xs.length = bs.length
  · refine ⟨_, sd_seq (sd_F (EvB.to (test _ rfl rfl) ?_) sd_nx) (sd_ret (EvD.to (ed_all (bs := (xs.zip bs).map fun q => isBelow q.1 q.2) (EvD.to (en_map2T (bs := xs.zip bs) (e1 := fun q => q.1) (e2 := fun q => .int q.2) (f := fun q => .bool (isBelow q.1 q.2)) (by decide) (EvI.to (ei_zip2 (ea_cons (ed_var rfl) (ea_cons (ed_var rfl) ea_nil)) s (.t _)) ?_) (fun q hq => ?_) (NoOw.of rfl) (NoOw.of rfl) ?_).kn ?_)) ?_))⟩
    · simp [isSeq_of s, hl]
    · unfold pairD
      rw [List.zip_map_right, List.map_map]
      rfl
    · exact ed_call (ea_cons (ed_var rfl) (ea_cons (ed_var rfl) ea_nil)) (.d (.d .nil)) (by simp [notOw]) (.mk q.1 q.2)
    · rw [List.length_zip]
      exact zs (by omega)
    · rw [List.map_map]
      rfl
    · unfold rowNum
      simp [hl, List.all_map]
  · refine ⟨_, sd_seqR (sd_T (EvB.to (test _ rfl rfl) ?_) (sd_ret (EvD.to ed_c_bl ?_)))⟩
    · simp [isSeq_of s]
      omega
    · unfold rowNum
      simp [hl]
def tupOf (xs : List PyData) : PyData := if rowNum xs [5, 5, 5] then .tuple xs else .none
inductive R_tuple_of : List Sl → PyData → Prop
  | mk (l : Bool) (x : PyData) (xs : List PyData) (s : SqD l x xs) : R_tuple_of [.kn x] (tupOf xs)
abbrev st_tuple_of : Stmt := topS 33
abbrev N_tuple_of : List Str := ["value"]
theorem sc_tuple_of : FnScope N_tuple_of ["value"] (defScope st_tuple_of) := ⟨rfl, rfl, rfl, by decide +kernel, rfl, by decide +kernel, by decide +kernel⟩
theorem cl_tuple_of {P : Program} {w : World} {K : PySem.W.Frag} {mg : Str → Option Value} {base : Heap} (T : Nm mg) (D : Dn K mg "tuple_of" st_tuple_of ["value"]) (c_is_number_row : Cl P w K mg base 4 "is_number_row" (spP R_is_number_row)) : Cl P w K mg base 5 "tuple_of" (spP R_tuple_of) := by
  refine cl_of D sc_tuple_of (by rintro _ _ ⟨⟩; rfl) fun f cdv A outer s H E hr => ⟨_, (pss_one (ps_ret (pe_ifExp (pt_val (pe_cl c_is_number_row hr (by decide) (by rfl) (pa_cons (pv 0) (pa_cons (pe_tup (pa_cons pe_int (pa_cons pe_int (pa_cons pe_int pa_nil)))) pa_nil)))) (pe_callTy cr_tuple (by rfl) T.tuple bt_tuple (pa_cons (pv 0) pa_nil)) pe_non))), ?_⟩
  rintro _ _ ⟨l, x, xs, s⟩ -
  refine ⟨[some (.kn x)], sd_ret (ed_if (b := rowNum xs [5, 5, 5]) (eb_B (ed_call (ea_cons (ed_var rfl) (ea_cons (ed_tup (ds := [.int 5, .int 5, .int 5]) (ea_cons ed_c_int (ea_cons ed_c_int (ea_cons ed_c_int ea_nil))) (by show 3 ≤ sizeLine; decide)) ea_nil)) (.d (.d .nil)) (by simp [notOw]) (.mk l x xs [5, 5, 5] s (by decide)))) (fun z => ?_) (fun z => ?_))⟩
  · unfold tupOf
    rw [if_pos z]
    exact ed_tupS (ed_var rfl) s
  · unfold tupOf
    rw [if_neg (by rw [z]; exact Bool.false_ne_true)]
    exact ed_c_non
end DW


set_option maxRecDepth 100000
set_option maxHeartbeats 1000000
namespace DW
open PySem PySem.Spec PyProof.Rows L2
/-! ### orders -/
def seqItems : PyData → List PyData
  | .list xs => xs
  | .tuple xs => xs
  | _ => []
theorem sq_of {d : PyData} (h : isSeq d = true) : ∃ l, SqD l d (seqItems d) := by
  cases d with
  | list xs => exact ⟨true, .l xs⟩
  | tuple xs => exact ⟨false, .t xs⟩
  | _ => cases h
def toldOf (x : PyData) : List PyData := (seqItems x).map fun d => tupOf (seqItems d)
def orderOf (kinds : List (List Int)) (x : PyData) : PyData :=
  if isSeq x = true ∧ (seqItems x).length = kinds.length ∧ (seqItems x).all isSeq = true then
    if (toldOf x).any isNone = true then .none else if sortL ((toldOf x).map unI) = kinds then .tuple (toldOf x) else .none
  else .none
theorem isBelow_int {d : PyData} {m : Int} (h : isBelow d m = true) : ∃ i, d = .int i ∧ 0 ≤ i ∧ i < m := by
  cases d with
  | int i =>
    simp only [isBelow, Bool.and_eq_true, decide_eq_true_eq] at h
    exact ⟨i, rfl, h.1, h.2⟩
  | _ => cases h
theorem rowNum_3 {xs : List PyData} (h : rowNum xs [5, 5, 5] = true) : ∃ a b c : Int, xs = [.int a, .int b, .int c] := by
  unfold rowNum at h
  simp only [Bool.and_eq_true, decide_eq_true_eq] at h
  obtain ⟨h1, h2⟩ := h
  match xs, h1 with
  | [x, y, z], _ =>
    simp only [List.zip_cons_cons, List.zip_nil_right, List.all_cons, List.all_nil, Bool.and_true, Bool.and_eq_true] at h2
    obtain ⟨a, rfl, _⟩ := isBelow_int h2.1
    obtain ⟨b, rfl, _⟩ := isBelow_int h2.2.1
    obtain ⟨c, rfl, _⟩ := isBelow_int h2.2.2
    exact ⟨a, b, c, rfl⟩
theorem tupOf_row {xs : List PyData} (h : isNone (tupOf xs) = false) : ∃ a b c : Int, tupOf xs = tI [a, b, c] := by
  unfold tupOf at h ⊢
  split at h
  · rename_i hr
    obtain ⟨a, b, c, rfl⟩ := rowNum_3 hr
    rw [if_pos hr]
    exact ⟨a, b, c, rfl⟩
  · cases h
theorem told_rows {x : PyData} (h : (toldOf x).any isNone = false) : toldOf x = ((toldOf x).map unI).map tI ∧ ∀ r ∈ (toldOf x).map unI, r ≠ [] := by
  have key : ∀ d ∈ toldOf x, ∃ a b c : Int, d = tI [a, b, c] := fun d hd => by
    have hn : isNone d = false := by
      rw [List.any_eq_false] at h
      simpa using h d hd
    obtain ⟨y, _, rfl⟩ := List.mem_map.mp hd
    exact tupOf_row hn
  refine ⟨?_, fun r hr => ?_⟩
  · rw [List.map_map]
    conv => lhs; rw [← List.map_id (toldOf x)]
    refine List.map_congr_left fun d hd => ?_
    obtain ⟨a, b, c, rfl⟩ := key d hd
    show tI [a, b, c] = tI (unI (tI [a, b, c]))
    rw [unI_tI]
  · obtain ⟨d, hd, rfl⟩ := List.mem_map.mp hr
    obtain ⟨a, b, c, rfl⟩ := key d hd
    rw [unI_tI]
    exact List.cons_ne_nil _ _
theorem kindsI_len {cols : List Int} (h : okCols cols) : (kindsI cols).length ≤ 64 := by
  obtain ⟨h1, h2, h3⟩ := h
  have : ∀ (l : List (Int × Nat)) (acc : List (List Int)), (∀ q ∈ l, 1 ≤ q.1 ∧ q.1 ≤ 4) → (l.foldl (fun acc q => (List.range q.1.toNat).foldl (fun acc o => acc ++ kindsAt q.2 q.1 o) acc) acc).length ≤ acc.length + l.length * 16 := by
    intro l
    induction l with
    | nil => intro acc _; simp
    | cons q l ih =>
      intro acc hq
      rw [List.foldl_cons]
      have hm := hq q (by simp)
      have e1 := fold_len (kindsAt q.2 q.1) (List.range q.1.toNat) acc (k := 4) fun o _ => Nat.le_trans (kindsAt_len _ _ _) (by omega)
      have e2 := ih ((List.range q.1.toNat).foldl (fun acc o => acc ++ kindsAt q.2 q.1 o) acc) fun q hq' => hq q (by simp [hq'])
      simp only [List.length_range, List.length_cons] at e1 e2 ⊢
      omega
  have e := this cols.zipIdx [] fun q hq => h3 _ (mem_zipIdx_ints hq).1
  unfold kindsI
  simp only [List.length_nil, List.length_zipIdx] at e
  omega
theorem shp_none : SeqAt.shaped .none = true := by
  unfold SeqAt.shaped
  simp [PyData.canLay0, PyData.depth]
theorem shp_told (x : PyData) : SeqAt.shaped (.tuple (toldOf x)) = true := by
  have key : ∀ l : List PyData, (∀ d ∈ l, d = .none ∨ ∃ r, d = tI r) → PyData.canLayAll0 l = true ∧ PyData.depthAll l ≤ 1 := by
    intro l
    induction l with
    | nil => intro _; simp [PyData.canLayAll0, PyData.depthAll]
    | cons d l ih =>
      intro h
      obtain ⟨a, b⟩ := ih fun e he => h e (by simp [he])
      rw [PyData.canLayAll0, PyData.depthAll, a]
      rcases h d (by simp) with rfl | ⟨r, rfl⟩
      · simp [PyData.canLay0, PyData.depth]
        exact b
      · rw [lay_tI, dep_tI]
        simp
        omega
  obtain ⟨a, b⟩ := key (toldOf x) fun d hd => by
    cases hn : isNone d with
    | true =>
      cases d with
      | none => exact .inl rfl
      | _ => cases hn
    | false =>
      obtain ⟨y, _, rfl⟩ := List.mem_map.mp hd
      obtain ⟨a, b, c, e⟩ := tupOf_row hn
      exact .inr ⟨_, e⟩
  unfold SeqAt.shaped
  rw [PyData.canLay0, a, PyData.depth]
  simp
  omega
theorem eqv_rows : ∀ a b : List (List Int), PyData.eqvAll (a.map tI) (b.map tI) = decide (a = b)
  | [], [] => by simp [PyData.eqvAll]
  | [], b :: bs => by simp [PyData.eqvAll]
  | a :: as, [] => by simp [PyData.eqvAll]
  | a :: as, b :: bs => by
    rw [List.map_cons, List.map_cons, PyData.eqvAll, eqv_tI, eqv_rows as bs]
    by_cases h : a = b <;> simp [h]
theorem eqv_tR (a b : List (List Int)) : PyData.eqv (tR a) (tR b) = decide (a = b) := by
  show PyData.eqv (.tuple (a.map tI)) (.tuple (b.map tI)) = _
  rw [PyData.eqv]
  exact eqv_rows a b
theorem any_none (l : List PyData) : (l.any fun z => PyData.eqv z .none) = l.any isNone := by
  induction l with
  | nil => rfl
  | cons d l ih =>
    rw [List.any_cons, List.any_cons, ih]
    cases d <;> simp [PyData.eqv, isNone]
inductive R_order_of (C : Addr) : List Sl → PyData → Prop
  | mk (cols : List Int) (cks : List Ck) (x : PyData) (h : okCols cols) : R_order_of C [bookS C cols cks, .kn x] (orderOf (kindsI cols) x)
abbrev st_order_of : Stmt := topS 35
abbrev N_order_of : List Str := ["book", "value", "kinds", "kind", "told"]
theorem sc_order_of : FnScope N_order_of ["book", "value"] (defScope st_order_of) := ⟨rfl, rfl, rfl, by decide +kernel, rfl, by decide +kernel, by decide +kernel⟩
theorem cl_order_of {P : Program} {w : World} {K : PySem.W.Frag} {mg : Str → Option Value} {base : Heap} (T : Nm mg) (D : Dn K mg "order_of" st_order_of ["book", "value"]) {C : Addr} (B : BkC K C) (c_kinds_of : Cl P w K mg base 1 "kinds_of" (spP (R_kinds_of C))) (c_is_sequence : Cl P w K mg base 1 "is_sequence" (spP R_is_sequence)) (c_tuple_of : Cl P w K mg base 5 "tuple_of" (spP R_tuple_of)) : Cl P w K mg base 6 "order_of" (spP (R_order_of C)) := by
  refine cl_of D sc_order_of (by rintro _ _ ⟨⟩; rfl) fun f cdv A outer s H E hr => ⟨_, (pss_cons (ps_set (i := 2) sc_order_of.nd rfl (by first | exact Or.inl rfl | exact Or.inr rfl) (pe_cl c_kinds_of hr (by decide) (by rfl) (pa_cons (pv 0) pa_nil)))
    (pss_cons (ps_if (PW.pt (pw_or (pt_not (pt_val (pe_cl c_is_sequence hr (by decide) (by rfl) (pa_cons (pv 1) pa_nil)))) (pw_or (pt_cmpR op_ne (pe_callB cr_len (by rfl) T.len bt_len (pa_cons (pv 1) pa_nil)) (pe_callB cr_len (by rfl) T.len bt_len (pa_cons (pv 2) pa_nil)) (nomark _)) (pw_or1 (pt_not (pt_val (pe_callB (cr_all rfl) (by rfl) T.all bt_all (pa_cons (pe_lc (own := [("kind", 3)]) (g := (gName 3)) (tt := _) rfl sc_order_of.nd (pi_either (pv 1)) (blkOk_by (N := N_order_of) (sc := defScope st_order_of) (by decide +kernel)) (fun _ _ _ _ _ => (pg_name (i := 3) sc_order_of.nd rfl (by first | exact Or.inl rfl | exact Or.inr rfl))) (fun _ _ _ _ _ => pts_nil) (fun _ _ _ _ _ => (pe_cl c_is_sequence hr (by decide) (by rfl) (pa_cons (pv 3) pa_nil)))) pa_nil))))))))
      (pss_one (ps_ret pe_non))
      pss_nil)
    (pss_cons (ps_set (i := 4) sc_order_of.nd rfl (by first | exact Or.inl rfl | exact Or.inr rfl) (pe_callTy cr_tuple (by rfl) T.tuple bt_tuple (pa_cons (pe_lc (own := [("kind", 3)]) (g := (gName 3)) (tt := _) rfl sc_order_of.nd (pi_either (pv 1)) (blkOk_by (N := N_order_of) (sc := defScope st_order_of) (by decide +kernel)) (fun _ _ _ _ _ => (pg_name (i := 3) sc_order_of.nd rfl (by first | exact Or.inl rfl | exact Or.inr rfl))) (fun _ _ _ _ _ => pts_nil) (fun _ _ _ _ _ => (pe_cl c_tuple_of hr (by decide) (by rfl) (pa_cons (pv 3) pa_nil)))) pa_nil)))
    (pss_one (ps_ret (pe_ifExp (PW.pt (pw_or (pt_cmpR (op_inDT (Room.un65 hr)) pe_non (pv 4) (by rfl)) (pw_or1 (pt_cmpR (op_neD hr.units) (pe_callTy cr_tuple (by rfl) T.tuple bt_tuple (pa_cons (pe_callB (KX.cr_sortedD hr.units) (by rfl) T.sorted bt_sorted (pa_cons (pv 4) pa_nil)) pa_nil)) (pv 2) (nomark _))))) pe_non (pv 4))))))), ?_⟩
  rintro _ _ ⟨cols, cks, x, h⟩ -
  have kl := kindsI_len h
  have asg : SD (tAsg (tCall (spP (R_kinds_of C)) [] E0 (tCons (tVar 0) tNil)) (gName 2)) [some (bookS C cols cks), some (.kn x), none, none, none] (.nx [some (bookS C cols cks), some (.kn x), some (.kn (tR (kindsI cols))), none, none]) := sd_asg (ed_call (ea_var (s := bookS C cols cks) rfl ea_nil) (.var rfl .nil) (by simp [notOw]) (.mk cols cks h)) (np_of rfl)
  let ρ : En := [some (bookS C cols cks), some (.kn x), some (.kn (tR (kindsI cols))), none, none]
  have isq : EvB (tTest (tCall (spP R_is_sequence) [] E0 (tCons (tVar 1) tNil))) ρ (isSeq x) ρ := eb_test (ed_call (ea_cons (ed_var (i := 1) rfl) ea_nil) (.d .nil) (by simp [notOw]) (.mk x))
  by_cases c1 : isSeq x = true
  · obtain ⟨l, s⟩ := sq_of c1
    have len := eb_test (ed_neI (ed_lenS (K := K) (ed_var (ρ := ρ) (i := 1) rfl) s) (ed_lenT (K := K) (ed_var (ρ := ρ) (i := 2) rfl)))
    by_cases c2 : (seqItems x).length = (kindsI cols).length
    · have all : EvB _ ρ ((seqItems x).all isSeq) ρ := EvB.to (eb_test (ed_all (K := K) (bs := (seqItems x).map isSeq) (EvD.to (en_mapT (enc := fun d => d) (bs := seqItems x) (j := 3) (f := fun d => .bool (isSeq d)) (te := tCall (spP R_is_sequence) [] E0 (tCons (tVar 3) tNil)) (EvI.to (ei_either (K := K) (ed_var (i := 1) rfl) s) (by simp)) (fun d hd => ed_call (ea_cons (ed_var rfl) ea_nil) (.d .nil) (by simp [notOw]) (.mk d)) (NoOw.of rfl) (zs (by omega))).kn (by rw [List.map_map]; rfl)))) (by simp [List.all_map])
      have cond := eb_or (eb_not isq) fun _ => eb_or len fun _ => eb_not all
      by_cases c3 : (seqItems x).all isSeq = true
      · have told := sd_asg (i := 4) (ed_tupL (K := K) (en_mapT (enc := fun d => d) (bs := seqItems x) (ρ := ρ) (j := 3) (f := fun d => tupOf (seqItems d)) (te := tCall (spP R_tuple_of) [] E0 (tCons (tVar 3) tNil)) (EvI.to (ei_either (K := K) (ed_var (i := 1) rfl) s) (by simp)) (fun d hd => by
            obtain ⟨l2, s2⟩ := sq_of (List.all_eq_true.mp c3 d hd)
            exact ed_call (ea_cons (ed_var rfl) ea_nil) (.d .nil) (by simp [notOw]) (.mk l2 d _ s2)) (NoOw.of rfl) (zs (by omega))).kn) (np_of rfl)
        let ρ2 : En := [some (bookS C cols cks), some (.kn x), some (.kn (tR (kindsI cols))), none, some (.kn (.tuple (toldOf x)))]
        have nn : EvB _ ρ2 ((toldOf x).any isNone) ρ2 := EvB.to (eb_test (ed_inT (K := K) ed_c_non (ed_var (i := 4) rfl) shp_none (shp_told x))) (any_none _)
        have res : orderOf (kindsI cols) x = if (toldOf x).any isNone = true then .none else if sortL ((toldOf x).map unI) = kindsI cols then .tuple (toldOf x) else .none := by
          unfold orderOf
          rw [if_pos ⟨c1, c2, c3⟩]
        refine ⟨_, sd_seq asg (sd_seq (sd_F (EvB.to cond (by simp [c1, c2, c3])) sd_nx) (sd_seq told (sd_ret (ed_if (b := (toldOf x).any isNone || !decide (sortL ((toldOf x).map unI) = kindsI cols)) (ρ1 := ρ2) (ρ2 := ρ2) (eb_or nn fun z => ?_) (fun z => ?_) (fun z => ?_)))))⟩
        · obtain ⟨r1, r2⟩ := told_rows z
          have sorted := en_sort (K := K) (te := tVar 4) (ρ := ρ2) (ρ1 := ρ2) (x := .tuple (toldOf x)) (ed_var (i := 4) rfl) (.t (toldOf x)) (by rw [r1]; exact alike_tI _) (by rw [r1]; exact ok_tI r2) (fun d hd => by
            rw [r1] at hd
            obtain ⟨r, _, rfl⟩ := mem_tI hd
            exact depth_tI r) (zs' (by unfold toldOf; rw [List.length_map]; omega))
          refine EvB.to (eb_test (ed_neD (K := K) (EvD.to (ed_tupL (K := K) sorted.kn) (d' := tR (sortL ((toldOf x).map unI))) ?_) (ed_var (i := 2) rfl) (shp_rows _) (shp_rows _))) ?_
          · conv => lhs; rw [r1]
            rw [sort_tI]
            rfl
          · rw [eqv_tR]
        · have e : (if (toldOf x).any isNone = true then PyData.none else if sortL ((toldOf x).map unI) = kindsI cols then .tuple (toldOf x) else .none) = .none := by
            by_cases z1 : (toldOf x).any isNone = true
            · rw [if_pos z1]
            · have z2 : ¬ sortL ((toldOf x).map unI) = kindsI cols := by simpa [z1] using z
              rw [if_neg z1, if_neg z2]
          rw [res, e]
          exact ed_c_non
        · have z1 : ¬ (toldOf x).any isNone = true := fun w => by rw [w] at z; cases z
          have z2 : sortL ((toldOf x).map unI) = kindsI cols := by
            have : (toldOf x).any isNone = false := by simpa using z1
            rw [this] at z
            simpa using z
          rw [res, if_neg z1, if_pos z2]
          exact ed_var rfl
      · refine ⟨_, sd_seq asg (sd_seqR (sd_T (EvB.to cond (by simp [c1, c2, c3])) (sd_ret (EvD.to ed_c_non ?_))))⟩
        unfold orderOf
        rw [if_neg (fun z => c3 z.2.2)]
    · refine ⟨_, sd_seq asg (sd_seqR (sd_T (EvB.to (b' := true) (eb_or (b := true) (eb_not isq) fun _ => eb_or (b := false) (EvB.to len (b' := true) (by simp; omega)) fun z => by cases z) (by simp)) (sd_ret (EvD.to ed_c_non ?_))))⟩
      unfold orderOf
      rw [if_neg (fun z => c2 z.2.1)]
  · refine ⟨_, sd_seq asg (sd_seqR (sd_T (EvB.to (b' := true) (eb_or (b := false) (eb_not isq) fun z => by simp [c1] at z) (by simp [c1])) (sd_ret (EvD.to ed_c_non ?_))))⟩
    unfold orderOf
    rw [if_neg (fun z => c1 z.1)]
def okOrder (cols : List Int) (order : List (List Int)) (x : PyData) : Prop := orderOf (kindsI cols) x = tR order
inductive R_check_order (C : Addr) : List Sl → PyData → Prop
  | mk (cols : List Int) (cks : List Ck) (x : PyData) (order : List (List Int)) (h : okCols cols) (ho : okOrder cols order x) : R_check_order C [bookS C cols cks, .kn x] (tR order)
abbrev st_check_order : Stmt := topS 36
abbrev N_check_order : List Str := ["book", "value", "told"]
theorem sc_check_order : FnScope N_check_order ["book", "value"] (defScope st_check_order) := ⟨rfl, rfl, rfl, by decide +kernel, rfl, by decide +kernel, by decide +kernel⟩
theorem cl_check_order {P : Program} {w : World} {K : PySem.W.Frag} {mg : Str → Option Value} {base : Heap} (T : Nm mg) (D : Dn K mg "check_order" st_check_order ["book", "value"]) {C : Addr} (B : BkC K C) (c_order_of : Cl P w K mg base 6 "order_of" (spP (R_order_of C))) : Cl P w K mg base 7 "check_order" (spP (R_check_order C)) := by
  refine cl_of D sc_check_order (by rintro _ _ ⟨⟩; rfl) fun f cdv A outer s H E hr => ⟨_, (pss_cons (ps_set (i := 2) sc_check_order.nd rfl (by first | exact Or.inl rfl | exact Or.inr rfl) (pe_cl c_order_of hr (by decide) (by rfl) (pa_cons (pv 0) (pa_cons (pv 1) pa_nil))))
    (pss_cons (ps_if (pt_cmpR op_isNon (pv 2) pe_non (nomark _))
      (pss_one ps_never)
      pss_nil)
    (pss_one (ps_ret (pv 2))))), ?_⟩
  rintro _ _ ⟨cols, cks, x, order, h, ho⟩ -
  refine ⟨_, sd_seq (sd_asg (EvD.to (ed_call (ea_var (s := bookS C cols cks) rfl (ea_cons (ed_var rfl) ea_nil)) (.var rfl (.d .nil)) (by simp [notOw]) (.mk cols cks x h)) ho) (np_of rfl)) (sd_seq (sd_F (EvB.to (eb_test (ed_isN (ed_var rfl))) rfl) sd_nx) (sd_ret (ed_var rfl)))⟩
theorem order_len {cols : List Int} {order : List (List Int)} {x : PyData} (h : okOrder cols order x) : order.length = (kindsI cols).length ∧ sortL order = kindsI cols := by
  unfold okOrder orderOf at h
  split at h
  · split at h
    · cases h
    · split at h
      · rename_i h1 h2 h3
        have e : toldOf x = order.map tI := PyData.tuple.inj h
        rw [e, List.map_map] at h3
        have e2 : (order.map (unI ∘ tI)) = order := by
          conv => rhs; rw [← List.map_id order]
          exact List.map_congr_left fun r _ => unI_tI r
        rw [e2] at h3
        refine ⟨?_, h3⟩
        rw [← h3]
        unfold sortL
        rw [List.length_mergeSort]
      · cases h
  · cases h
def rankF (cks : List Ck) (order : List (List Int)) : Bool := (order.zipIdx.map fun q => isNone (resD (firstBarE cks q.1 (cks.map fun c => unlikeP c (order.drop q.2))))).all id
theorem enum_rows (l : List (List Int)) : pairD (enumP (l.map tI)) = l.zipIdx.map fun q => .tuple [.int (q.2 : Nat), tI q.1] := by
  simp [pairD, enumP, List.zipIdx_map, List.map_map, Function.comp_def]
theorem cut_nat (ds : List PyData) (k : Nat) : cutD ds (some (k : Int)) none = ds.drop k := by
  unfold cutD
  rw [HT.sIx_nat, HT.sIx_none]
  by_cases h : k ≤ ds.length
  · rw [Nat.min_eq_left h, List.take_of_length_le (by simp)]
  · rw [Nat.min_eq_right (by omega), List.drop_eq_nil_of_le (by omega : ds.length ≤ k), List.drop_length]
    simp
theorem mem_unlikeP {c : Ck} {kinds : List (List Int)} {p : List Int × List Int} (h : p ∈ unlikeP c kinds) : p.1 ∈ c.2 ∧ p.2 ∈ c.2 := by
  have inner : ∀ (l : List (List Int)) (one : List Int) (acc : List (List Int × List Int)), one ∈ c.2 → (∀ x ∈ l, x ∈ c.2) → (∀ q ∈ acc, q.1 ∈ c.2 ∧ q.2 ∈ c.2) → ∀ q ∈ l.foldl (fun acc other => if (!decide (one = other) && unlikeIn c.1 one other kinds) = true then acc ++ [(one, other)] else acc) acc, q.1 ∈ c.2 ∧ q.2 ∈ c.2 := by
    intro l one
    induction l with
    | nil => intro acc _ _ ha; exact ha
    | cons x l ih =>
      intro acc ho hl ha
      rw [List.foldl_cons]
      refine ih _ ho (fun y hy => hl y (by simp [hy])) ?_
      split
      · intro q hq
        rcases List.mem_append.mp hq with z | z
        · exact ha q z
        · rw [List.mem_singleton.mp z]
          exact ⟨ho, hl x (by simp)⟩
      · exact ha
  have outer : ∀ (l : List (List Int)) (acc : List (List Int × List Int)), (∀ x ∈ l, x ∈ c.2) → (∀ q ∈ acc, q.1 ∈ c.2 ∧ q.2 ∈ c.2) → ∀ q ∈ l.foldl (fun acc one => c.2.foldl (fun acc other => if (!decide (one = other) && unlikeIn c.1 one other kinds) = true then acc ++ [(one, other)] else acc) acc) acc, q.1 ∈ c.2 ∧ q.2 ∈ c.2 := by
    intro l
    induction l with
    | nil => intro acc _ ha; exact ha
    | cons x l ih =>
      intro acc hl ha
      rw [List.foldl_cons]
      exact ih _ (fun y hy => hl y (by simp [hy])) (inner c.2 x acc (hl x (by simp)) (fun y hy => hy) ha)
  exact outer c.2 [] (fun x hx => hx) (fun q hq => by simp at hq) p h
inductive R_is_ranking (C : Addr) : List Sl → PyData → Prop
  | mk (cols : List Int) (cks : List Ck) (x : PyData) (order : List (List Int)) (h : okCols cols) (h0 : ∀ c ∈ cks, rowsOk c) (h2 : cks.length ≤ 6) (ho : okOrder cols order x) : R_is_ranking C [bookS C cols cks, .kn x] (.bool (rankF cks order))
abbrev st_is_ranking : Stmt := topS 37
abbrev N_is_ranking : List Str := ["book", "value", "told", "at", "kind"]
theorem sc_is_ranking : FnScope N_is_ranking ["book", "value"] (defScope st_is_ranking) := ⟨rfl, rfl, rfl, by decide +kernel, rfl, by decide +kernel, by decide +kernel⟩
theorem cl_is_ranking {P : Program} {w : World} {K : PySem.W.Frag} {mg : Str → Option Value} {base : Heap} (T : Nm mg) (D : Dn K mg "is_ranking" st_is_ranking ["book", "value"]) {C : Addr} (B : BkC K C) (c_order_of : Cl P w K mg base 6 "order_of" (spP (R_order_of C))) (c_first_bar : Cl P w K mg base 3 "first_bar" (spP (R_first_bar C))) (c_all_unlike : Cl P w K mg base 2 "all_unlike" (spP (R_all_unlike C))) : Cl P w K mg base 7 "is_ranking" (spP (R_is_ranking C)) := by
  refine cl_of D sc_is_ranking (by rintro _ _ ⟨⟩; rfl) fun f cdv A outer s H E hr => ⟨_, (pss_cons (ps_set (i := 2) sc_is_ranking.nd rfl (by first | exact Or.inl rfl | exact Or.inr rfl) (pe_cl c_order_of hr (by decide) (by rfl) (pa_cons (pv 0) (pa_cons (pv 1) pa_nil))))
    (pss_cons (ps_if (pt_cmpR op_isNon (pv 2) pe_non (nomark _))
      (pss_one (ps_ret pe_bl))
      pss_nil)
    (pss_one (ps_ret (pe_callB (cr_all rfl) (by rfl) T.all bt_all (pa_cons (pe_lc (own := [("at", 3), ("kind", 4)]) (g := (gTup _ 2 (gCons (gName 3) (gCons (gName 4) gNil)))) (tt := _) rfl sc_is_ranking.nd (KX.pi_enumA (by rfl) T.enumerate (pa_cons (pv 2) pa_nil)) (blkOk_by (N := N_is_ranking) (sc := defScope st_is_ranking) (by decide +kernel)) (fun _ _ _ _ _ => (pg_tup rfl (pgs_cons (pg_name (i := 3) sc_is_ranking.nd rfl (by first | exact Or.inl rfl | exact Or.inr rfl)) (pgs_cons (pg_name (i := 4) sc_is_ranking.nd rfl (by first | exact Or.inl rfl | exact Or.inr rfl)) pgs_nil)))) (fun _ _ _ _ _ => pts_nil) (fun _ _ _ _ _ => (pe_cmpR op_isNon (pe_cl c_first_bar hr (by decide) (by rfl) (pa_cons (pv 0) (pa_cons (pv 4) (pa_cons (pe_cl c_all_unlike hr (by decide) (by rfl) (pa_cons (pv 0) (pa_cons (pe_slice (sl_tupAK (K := K)) (pv 2) (po_some (pv 3)) po_none) pa_nil))) pa_nil)))) pe_non (nomark _)))) pa_nil)))))), ?_⟩
  rintro _ _ ⟨cols, cks, x, order, h, h0, h2, ho⟩ -
  have kl := kindsI_len h
  have ol := (order_len ho).1
  have valid : ∀ q ∈ order.zipIdx, ∀ z ∈ (cks.map fun c => unlikeP c (order.drop q.2)).zipIdx, z.2 < cks.length ∧ ∀ p ∈ z.1, p.1.length = (cks.getD z.2 ([], [])).1.length ∧ p.2.length = (cks.getD z.2 ([], [])).1.length := by
    intro q hq z hz
    obtain ⟨hz1, hz2⟩ : z.2 < cks.length ∧ z.1 = unlikeP (cks.getD z.2 ([], [])) (order.drop q.2) := by
      have := List.mem_zipIdx_iff_getElem?.mp hz
      rw [List.getElem?_map] at this
      cases e : cks[z.2]? with
      | none => rw [e] at this; cases this
      | some c =>
        rw [e] at this
        refine ⟨(List.getElem?_eq_some_iff.mp e).1, ?_⟩
        have : unlikeP c (order.drop q.2) = z.1 := by simpa using this
        rw [← this, List.getD_eq_getElem?_getD, e]
        rfl
    have e : cks[z.2]? = some (cks.getD z.2 ([], [])) := by simp [List.getD_eq_getElem?_getD, hz1]
    obtain ⟨a1, _, _⟩ := h0 _ (List.mem_of_getElem? e)
    refine ⟨hz1, fun p hp => ?_⟩
    rw [hz2] at hp
    obtain ⟨b1, b2⟩ := mem_unlikeP hp
    exact ⟨a1 _ b1, a1 _ b2⟩
  let ρq : List Int × Nat → En := fun q => [some (bookS C cols cks), some (.kn x), some (.kn (tR order)), some (.kn (.int (q.2 : Nat))), some (.kn (tI q.1))]
  have step : ∀ q ∈ order.zipIdx, EvD (tOp rIsNon (tCall (spP (R_first_bar C)) [] E0 (tCons (tVar 0) (tCons (tVar 4) (tCons (tCall (spP (R_all_unlike C)) [] E0 (tCons (tVar 0) (tCons (tSl (rSlA K) (tVar 2) (tPart (tVar 3)) tNoPart) tNil))) tNil)))) (tC .non)) (ρq q) (.bool (isNone (resD (firstBarE cks q.1 (cks.map fun c => unlikeP c (order.drop q.2)))))) (ρq q) := fun q hq => by
    have sl : EvD (tSl (rSlA K) (tVar 2) (tPart (tVar 3)) tNoPart) (ρq q) (tR (order.drop q.2)) (ρq q) := EvD.to (ed_slT (lo := some ((q.2 : Nat) : Int)) (hi := none) (ds := order.map tI) (ed_var rfl) (ep_int (ed_var rfl)) ep_no) (by rw [cut_nat, ← List.map_drop]; rfl)
    have au : EvD (tCall (spP (R_all_unlike C)) [] E0 (tCons (tVar 0) (tCons (tSl (rSlA K) (tVar 2) (tPart (tVar 3)) tNoPart) tNil))) (ρq q) (.list ((cks.map fun c => unlikeP c (order.drop q.2)).map psD)) (ρq q) :=
      ed_call (ss := [bookS C cols cks, .kn (tR (order.drop q.2))]) (ea_var (s := bookS C cols cks) rfl (ea_cons sl ea_nil)) (.var rfl (.d .nil)) (by simp [notOw]) (.mk cols cks (order.drop q.2) h0 h2 (by rw [List.length_drop]; omega))
    exact ed_isN (ed_call (ss := [bookS C cols cks, .kn (tI q.1), .kn (.list ((cks.map fun c => unlikeP c (order.drop q.2)).map psD))]) (ea_var (s := bookS C cols cks) rfl (ea_cons (ed_var rfl) (ea_cons au ea_nil))) (.var rfl (.d (.d .nil))) (by simp [notOw]) (.mk cols cks q.1 _ h0 (valid q hq)))
  let ρ1 : En := [some (bookS C cols cks), some (.kn x), some (.kn (tR order)), none, none]
  have asg : SD (tAsg (tCall (spP (R_order_of C)) [] E0 (tCons (tVar 0) (tCons (tVar 1) tNil))) (gName 2)) [some (bookS C cols cks), some (.kn x), none, none, none] (.nx ρ1) :=
    sd_asg (EvD.to (ed_call (ea_var (s := bookS C cols cks) rfl (ea_cons (ed_var rfl) ea_nil)) (.var rfl (.d .nil)) (by simp [notOw]) (.mk cols cks x h)) ho) (np_of rfl)
  have test : EvB (tTest (tOp rIsNon (tVar 2) (tC .non))) ρ1 false ρ1 := EvB.to (eb_test (ed_isN (x := tR order) (ed_var rfl))) rfl
  have lst := EvD.to (d' := .list ((order.zipIdx.map fun q => isNone (resD (firstBarE cks q.1 (cks.map fun c => unlikeP c (order.drop q.2))))).map .bool)) (en_map2T (K := K) (j := 3) (k := 4) (ρ := ρ1) (bs := order.zipIdx) (e1 := fun q => .int (q.2 : Nat)) (e2 := fun q => tI q.1) (f := fun q => .bool (isNone (resD (firstBarE cks q.1 (cks.map fun c => unlikeP c (order.drop q.2)))))) (by decide)
      (EvI.to (ei_enum (K := K) (ds := order.map tI) (x := tR order) (ea_cons (ed_var (i := 2) rfl) ea_nil) (.t _)) (enum_rows order)) (fun q hq => step q hq) (NoOw.of rfl) (NoOw.of rfl) ?_).kn ?_
  refine ⟨_, sd_seq asg (sd_seq (sd_F test sd_nx) (sd_ret (ed_all lst)))⟩
  · rw [List.length_zipIdx]
    exact zs (by omega)
  · rw [List.map_map]
    rfl
end DW


set_option maxRecDepth 100000
set_option maxHeartbeats 1000000
namespace DW
open PySem PySem.Spec PyProof.Rows L2
/-! ### stages, faults -/
abbrev Stg := List Int × List Int × List Int
def qD (q : Stg) : PyData := .tuple [tI q.1, tI q.2.1, tI q.2.2]
def stepS (ps one other : List Int) (st : List Stg × List Int) (kind : List Int) : List Stg × List Int :=
  (st.1 ++ (lotsS (placesOf ps one other kind)).map (fun lot => (kind, lot, rowSet one other (st.2 ++ lot))), st.2 ++ placesOf ps one other kind)
def stagesF (ps one other : List Int) (order : List (List Int)) : List Stg := (order.foldl (stepS ps one other) ([], [])).1
theorem fold_snoc {α β : Type} (f : β → α) : ∀ (l : List β) (acc : List α), l.foldl (fun acc b => acc ++ [f b]) acc = acc ++ l.map f
  | [], acc => by simp
  | b :: l, acc => by rw [List.foldl_cons, fold_snoc f l]; simp
theorem mem_lotsS {ps : List Int} {l : List Int} (h : l ∈ lotsS ps) : l ∈ lotsF ps := (List.mergeSort_perm _ _).mem_iff.mp (List.mem_of_mem_drop h)
theorem lotsS_small {ps : List Int} {l : List Int} (h : l ∈ lotsS ps) : l.length ≤ ps.length := by
  have := lotsF_small ps 0 [[]] (fun l hl => by rw [List.mem_singleton.mp hl]; simp) l (mem_lotsS h)
  simpa using this
inductive R_stages : List Sl → PyData → Prop
  | mk (ps one other : List Int) (order : List (List Int)) (h1 : one.length = ps.length) (h2 : other.length = ps.length) (h3 : ps.length ≤ 3) (h4 : order.length ≤ 64) : R_stages [.kn (tI ps), .kn (tI one), .kn (tI other), .kn (tR order)] (.list ((stagesF ps one other order).map qD))
abbrev st_stages : Stmt := topS 39
abbrev N_stages : List Str := ["columns", "one", "other", "ranking", "found", "ahead", "kind", "places", "lot"]
theorem sc_stages : FnScope N_stages ["columns", "one", "other", "ranking"] (defScope st_stages) := ⟨rfl, rfl, rfl, by decide +kernel, rfl, by decide +kernel, by decide +kernel⟩
theorem cl_stages {P : Program} {w : World} {K : PySem.W.Frag} {mg : Str → Option Value} {base : Heap} (T : Nm mg) (D : Dn K mg "stages" st_stages ["columns", "one", "other", "ranking"]) (c_places_of : Cl P w K mg base 1 "places_of" (spP R_places_of)) (c_lots_set : Cl P w K mg base 1 "lots_set" (spP R_lots_set)) (c_row_set : Cl P w K mg base 1 "row_set" (spP R_row_set)) : Cl P w K mg base 2 "stages" (spP R_stages) := by
  refine cl_of D sc_stages (by rintro _ _ ⟨⟩; rfl) fun f cdv A outer s H E hr => ⟨_, (pss_cons (ps_set (i := 4) sc_stages.nd rfl (by first | exact Or.inl rfl | exact Or.inr rfl) (pe_lst pa_nil))
    (pss_cons (ps_set (i := 5) sc_stages.nd rfl (by first | exact Or.inl rfl | exact Or.inr rfl) (pe_tup pa_nil))
    (pss_cons (ps_for PassesOwn.never rfl (pi_tup (pv 3)) (pg_name (i := 6) sc_stages.nd rfl (by first | exact Or.inl rfl | exact Or.inr rfl))
      (pss_cons (ps_set (i := 7) sc_stages.nd rfl (by first | exact Or.inl rfl | exact Or.inr rfl) (pe_cl c_places_of hr (by decide) (by rfl) (pa_cons (pv 0) (pa_cons (pv 1) (pa_cons (pv 2) (pa_cons (pv 6) pa_nil))))))
      (pss_cons (ps_for PassesOwn.never rfl (pi_list (pe_cl c_lots_set hr (by decide) (by rfl) (pa_cons (pv 7) pa_nil))) (pg_name (i := 8) sc_stages.nd rfl (by first | exact Or.inl rfl | exact Or.inr rfl))
        (pss_one (ps_expr (pe_bm PySem.F.plainAttrs_list PySem.F.slot_list_append PySem.F.type_list_append mt_append (pv 4) (pa_cons (pe_tup (pa_cons (pv 6) (pa_cons (pv 8) (pa_cons (pe_cl c_row_set hr (by decide) (by rfl) (pa_cons (pv 1) (pa_cons (pv 2) (pa_cons (pe_op op_catA (pv 5) (pv 8)) pa_nil)))) pa_nil)))) pa_nil)))))
      (pss_one (ps_aug (i := 5) sc_stages.nd rfl (by first | exact Or.inl rfl | exact Or.inr rfl) (pv 7) ip_catA)))))
    (pss_one (ps_ret (pv 4)))))), ?_⟩
  rintro _ _ ⟨ps, one, other, order, h1, h2, h3, h4⟩ -
  let inv : List Stg × List Int → En := fun st => [some (.kn (tI ps)), some (.kn (tI one)), some (.kn (tI other)), some (.kn (tR order)), some (.ow false (st.1.map qD)), some (.kn (tI st.2)), none, none, none]
  let inv2 : List Int → List Int → List Stg → En := fun kind ahead acc => [some (.kn (tI ps)), some (.kn (tI one)), some (.kn (tI other)), some (.kn (tR order)), some (.ow false (acc.map qD)), some (.kn (tI ahead)), some (.kn (tI kind)), some (.kn (tI (placesOf ps one other kind))), none]
  have zt : (3 : Nat) ≤ sizeLine := by decide
  refine ⟨_, sd_seq (sd_asgN (en_lst (ds := []) ea_nil (Nat.zero_le _)) (np_of rfl)) (sd_seq (sd_asg (ed_tup (ds := []) ea_nil (Nat.zero_le _)) (np_of rfl))
    (sd_seq (for_acc (γ := List Stg × List Int) (enc := tI) (bs := order) (c := ([], [])) (inv := inv) (step := stepS ps one other) (I := fun rest st => st.1.length + rest.length * 8 ≤ 512 ∧ st.2.length + rest.length * 3 ≤ 192) (EvI.to (ei_tup (ed_var rfl)) rfl) ?_ fun st kind rest hk hI => ⟨?_, _, _, _, tg_name (np_of rfl),
        sd_seq (sd_asg (ed_call (ss := [.kn (tI ps), .kn (tI one), .kn (tI other), .kn (tI kind)]) (ea_cons (ed_var rfl) (ea_cons (ed_var rfl) (ea_cons (ed_var rfl) (ea_cons (ed_var rfl) ea_nil)))) (.d (.d (.d (.d .nil)))) (by simp [notOw]) (.mk ps one other kind (by omega) (by omega) h3)) (np_of rfl))
        (sd_seq (for_acc (γ := List Stg) (enc := tI) (bs := lotsS (placesOf ps one other kind)) (c := st.1) (inv := inv2 kind st.2) (step := fun acc lot => acc ++ [(kind, lot, rowSet one other (st.2 ++ lot))]) (I := fun rest acc => acc.length + rest.length ≤ 512 ∧ ∀ lot ∈ rest, lot.length ≤ 3)
            (ei_list (ed_call (ss := [.kn (tI (placesOf ps one other kind))]) (ea_cons (ed_var rfl) ea_nil) (.d .nil) (by simp [notOw]) (.mk _ ?_))) ?_ fun acc lot rest2 hl hJ => ⟨?_, _, _, _, tg_name (np_of rfl),
              sd_app (d := qD (kind, lot, rowSet one other (st.2 ++ lot))) (ed_tup (ds := [tI kind, tI lot, tI (rowSet one other (st.2 ++ lot))]) (ea_cons (ed_var rfl) (ea_cons (ed_var rfl) (ea_cons (ed_call (ss := [.kn (tI one), .kn (tI other), .kn (tI (st.2 ++ lot))]) (ea_cons (ed_var rfl) (ea_cons (ed_var rfl) (ea_cons (EvD.to (ed_catT (ed_var rfl) (ed_var rfl) ?_) ?_) ea_nil))) (.d (.d (.d .nil))) (by simp [notOw]) (.mk one other (st.2 ++ lot) (by omega) (by omega))) ea_nil))) zt) rfl rfl ?_, ?_⟩)
          (sd_augT (ds := st.2.map .int) (es := (placesOf ps one other kind).map .int) rfl (ed_var rfl) ?_)), ?_⟩)
      (sd_freeze (i := 4) (ds := (stagesF ps one other order).map qD) rfl (sd_ret (ed_var rfl)))))⟩
  · simp
    omega
  · have pl := placesOf_len ps one other kind
    have ll := lotsS_len (ps := placesOf ps one other kind) (by omega)
    unfold stepS
    simp only [List.length_append, List.length_map, List.length_cons] at hI ⊢
    omega
  · have pl := placesOf_len ps one other kind
    omega
  · have pl := placesOf_len ps one other kind
    have ll := lotsS_len (ps := placesOf ps one other kind) (by omega)
    simp only [List.length_cons] at hI
    exact ⟨by omega, fun lot hl => Nat.le_trans (lotsS_small hl) (by omega)⟩
  · simp only [List.length_append, List.length_cons, List.length_nil] at hJ ⊢
    exact ⟨by omega, fun lot hl => hJ.2 lot (by simp [hl])⟩
  · have := hJ.2 lot (by simp)
    simp only [List.length_map]
    exact zs' (by omega)
  · simp [tI]
  · have := hJ.1
    simp only [List.length_map, List.length_cons] at this ⊢
    exact zs (by omega)
  · simp only [inv2, List.map_append]
    exact .same (.same (.same (.same (.same (.same (.same (.same (.drop (fun _ z => by cases z) .nil))))))))
  · have pl := placesOf_len ps one other kind
    simp only [List.length_map]
    exact zs' (by omega)
  · rw [fold_snoc (fun lot => (kind, lot, rowSet one other (st.2 ++ lot)))]
    have e : PyData.tuple (List.map PyData.int st.2 ++ List.map PyData.int (placesOf ps one other kind)) = tI (st.2 ++ placesOf ps one other kind) := by simp [tI]
    rw [e]
    exact .same (.same (.same (.same (.same (.same (.drop (fun _ z => by cases z) (.drop (fun _ z => by cases z) (.same .nil))))))))
def faultQ (c : Ck) (one other : List Int) (_ : Unit) (q : Stg) : Except PyData Unit := if q.2.2 ∈ c.2 then .ok () else .error (.tuple [tI one, tI other, tI q.1, tI q.2.1])
def faultE (c : Ck) (order : List (List Int)) : Except PyData Unit := goOn (fun _ one => goOn (fun _ other => goOn (faultQ c one other) (stagesF c.1 one other order) ()) c.2 ()) c.2 ()
inductive R_fault_in : List Sl → PyData → Prop
  | mk (c : Ck) (order : List (List Int)) (h : rowsOk c) (h4 : order.length ≤ 64) : R_fault_in [.kn (tI c.1), .kn (tR c.2), .kn (tR order)] (resD (faultE c order))
abbrev st_fault_in : Stmt := topS 40
abbrev N_fault_in : List Str := ["columns", "rows", "ranking", "known", "row", "one", "other", "kind", "lot"]
theorem sc_fault_in : FnScope N_fault_in ["columns", "rows", "ranking"] (defScope st_fault_in) := ⟨rfl, rfl, rfl, by decide +kernel, rfl, by decide +kernel, by decide +kernel⟩
theorem cl_fault_in {P : Program} {w : World} {K : PySem.W.Frag} {mg : Str → Option Value} {base : Heap} (T : Nm mg) (D : Dn K mg "fault_in" st_fault_in ["columns", "rows", "ranking"]) (c_stages : Cl P w K mg base 2 "stages" (spP R_stages)) : Cl P w K mg base 3 "fault_in" (spP R_fault_in) := by
  refine cl_of D sc_fault_in (by rintro _ _ ⟨⟩; rfl) fun f cdv A outer s H E hr => ⟨_, (pss_cons (ps_setDcT (i := 3) (own := [("row", 4)]) (Room.un1 hr) rfl sc_fault_in.nd rfl rfl (sw_trueD rfl rfl rfl (by decide +kernel)) (pi_tup (pv 1)) (blkOk_by (N := N_fault_in) (sc := defScope st_fault_in) (by decide +kernel)) (fun _ _ _ _ _ => (pg_name (i := 4) sc_fault_in.nd rfl (by first | exact Or.inl rfl | exact Or.inr rfl))) (fun _ _ _ _ _ => pts_nil) (fun _ _ _ _ _ => (pv 4)) (fun _ _ _ _ _ => pe_bl))
    (pss_cons (ps_for PassesOwn.never rfl (pi_tup (pv 1)) (pg_name (i := 5) sc_fault_in.nd rfl (by first | exact Or.inl rfl | exact Or.inr rfl))
      (pss_one (ps_for PassesOwn.never rfl (pi_tup (pv 1)) (pg_name (i := 6) sc_fault_in.nd rfl (by first | exact Or.inl rfl | exact Or.inr rfl))
        (pss_one (ps_for PassesOwn.never rfl (pi_list (pe_cl c_stages hr (by decide) (by rfl) (pa_cons (pv 0) (pa_cons (pv 5) (pa_cons (pv 6) (pa_cons (pv 2) pa_nil)))))) (pg_tup rfl (pgs_cons (pg_name (i := 7) sc_fault_in.nd rfl (by first | exact Or.inl rfl | exact Or.inr rfl)) (pgs_cons (pg_name (i := 8) sc_fault_in.nd rfl (by first | exact Or.inl rfl | exact Or.inr rfl)) (pgs_cons (pg_name (i := 4) sc_fault_in.nd rfl (by first | exact Or.inl rfl | exact Or.inr rfl)) pgs_nil))))
          (pss_one (ps_if (pt_cmpR (op_notInDic (Room.un1 hr)) (pv 4) (pv 3) (by rfl))
            (pss_one (ps_ret (pe_tup (pa_cons (pv 5) (pa_cons (pv 6) (pa_cons (pv 7) (pa_cons (pv 8) pa_nil)))))))
            pss_nil)))))))
    (pss_one (ps_ret pe_non)))), ?_⟩
  rintro _ _ ⟨c, order, ⟨h1, h2, h3⟩, h4⟩ -
  have hn : ∀ i, NoOw ([some (.kn (tI c.1)), some (.kn (tR c.2)), some (.kn (tR order)), none, none, none, none, none, none] : En) i := fun i p ds e => by
    match i, e with
    | 0, e => cases e
    | 1, e => cases e
    | 2, e => cases e
    | 3, e => cases e
    | 4, e => cases e
    | 5, e => cases e
    | 6, e => cases e
    | 7, e => cases e
    | 8, e => cases e
    | i + 9, e => simp at e
  let ρ0 : En := [some (.kn (tI c.1)), some (.kn (tR c.2)), some (.kn (tR order)), none, none, none, none, none, none]
  let inv : Unit → En := fun _ => [some (.kn (tI c.1)), some (.kn (tR c.2)), some (.kn (tR order)), some (.dic ((dedupI c.2).map rk)), none, none, none, none, none]
  let inv1 : List Int → Unit → En := fun one _ => [some (.kn (tI c.1)), some (.kn (tR c.2)), some (.kn (tR order)), some (.dic ((dedupI c.2).map rk)), none, some (.kn (tI one)), none, none, none]
  let inv2 : List Int → List Int → Unit → En := fun one other _ => [some (.kn (tI c.1)), some (.kn (tR c.2)), some (.kn (tR order)), some (.dic ((dedupI c.2).map rk)), none, some (.kn (tI one)), some (.kn (tI other)), none, none]
  have known : SD (tAsg (tDcT (iTup K (tVar 1)) (gName 4) tYes (tVar 4) (tC (.bl true)) [4]) (gName 3)) ρ0 (.nx (inv ())) :=
    sd_asgK (i := 3) (ρ1 := ρ0) (EvK.to (ek_dc (p := fun _ => true) (f := unI) (A := fun d => [some (.kn (tI c.1)), some (.kn (tR c.2)), some (.kn (tR order)), none, some (.kn d), none, none, none, none]) (ei_tup (ed_var rfl)) (fun d hd => by
      obtain ⟨r, hr, rfl⟩ := mem_tI hd
      refine ⟨[4], tg_name (np_of rfl), fun j h => h, eb_yes, fun _ => ⟨?_, ed_c_bl⟩, rfl⟩
      rw [unI_tI]
      exact ed_var rfl) hn (by rw [List.length_map]; exact zs (by omega))) (congrArg (fun z => (dedupI z).map rk) (dedup_keys c.2))) (np_of rfl)
  let body : TS := tIfS (tTest (tOp rNotInDic (tVar 4) (tVar 3))) (tRet (tTup (tCons (tVar 5) (tCons (tVar 6) (tCons (tVar 7) (tCons (tVar 8) tNil)))))) tNext
  let g3 : TG := gTup K 3 (gCons (gName 7) (gCons (gName 8) (gCons (gName 4) gNil)))
  let w3 : TI := iList K (tCall (spP R_stages) [] E0 (tCons (tVar 0) (tCons (tVar 5) (tCons (tVar 6) (tCons (tVar 2) tNil)))))
  have turn3 : ∀ one ∈ c.2, ∀ other ∈ c.2, ∀ q ∈ stagesF c.1 one other order, TurnD g3 body qD (inv2 one other) (faultQ c one other) () q := by
    intro one ho other hot q hq
    have tgt : TgD g3 (qD q) (inv2 one other ()) [some (.kn (tI c.1)), some (.kn (tR c.2)), some (.kn (tR order)), some (.dic ((dedupI c.2).map rk)), some (.kn (tI q.2.2)), some (.kn (tI one)), some (.kn (tI other)), some (.kn (tI q.1)), some (.kn (tI q.2.1))] [7, 8, 4] := tg_three (np_of rfl) (np_of rfl) (np_of rfl)
    have test := EvB.to (eb_test (ed_niDic (ta := tVar 4) (i := 3) (ρ := [some (.kn (tI c.1)), some (.kn (tR c.2)), some (.kn (tR order)), some (.dic ((dedupI c.2).map rk)), some (.kn (tI q.2.2)), some (.kn (tI one)), some (.kn (tI other)), some (.kn (tI q.1)), some (.kn (tI q.2.1))]) (r := q.2.2) (rows := dedupI c.2) (ed_var rfl) rfl)) (by rw [mem_decide])
    refine ⟨_, _, tgt, fun c' hc => ?_, fun d hd => ?_⟩
    · have z : q.2.2 ∈ c.2 := by
        unfold faultQ at hc
        split at hc
        · assumption
        · cases hc
      refine ⟨_, sd_F (EvB.to test (by simp [z])) sd_nx, ?_⟩
      exact .same (.same (.same (.same (.drop (fun _ z => by cases z) (.same (.same (.drop (fun _ z => by cases z) (.drop (fun _ z => by cases z) .nil))))))))
    · obtain ⟨z, rfl⟩ : ¬ q.2.2 ∈ c.2 ∧ d = .tuple [tI one, tI other, tI q.1, tI q.2.1] := by
        unfold faultQ at hd
        split at hd
        · cases hd
        · rename_i z
          cases hd
          exact ⟨z, rfl⟩
      exact ⟨_, sd_T (EvB.to test (by simp [z])) (sd_ret (ed_tup (ds := [tI one, tI other, tI q.1, tI q.2.1]) (ea_cons (ed_var rfl) (ea_cons (ed_var rfl) (ea_cons (ed_var rfl) (ea_cons (ed_var rfl) ea_nil)))) (by show 4 ≤ sizeLine; decide)))⟩
  have loop3 : ∀ one ∈ c.2, ∀ other ∈ c.2, (∀ c', goOn (faultQ c one other) (stagesF c.1 one other order) () = .ok c' → SD (tFor w3 g3 body) (inv2 one other ()) (.nx (inv2 one other c'))) ∧ ∀ d, goOn (faultQ c one other) (stagesF c.1 one other order) () = .error d → ∃ ρ', SD (tFor w3 g3 body) (inv2 one other ()) (.rt d ρ') := fun one ho other hot =>
    for_find (γ := Unit) (enc := qD) (bs := stagesF c.1 one other order) (c := ()) (inv := inv2 one other) (I := fun _ _ => True) (ei_list (ed_call (ss := [.kn (tI c.1), .kn (tI one), .kn (tI other), .kn (tR order)]) (ea_cons (ed_var rfl) (ea_cons (ed_var rfl) (ea_cons (ed_var rfl) (ea_cons (ed_var rfl) ea_nil)))) (.d (.d (.d (.d .nil)))) (by simp [notOw]) (.mk c.1 one other order (h1 _ ho) (h1 _ hot) h2 h4))) True.intro
      fun _ q rest hq _ => ⟨turn3 one ho other hot q hq, fun _ _ => True.intro⟩
  have loop2 : ∀ one ∈ c.2, (∀ c', goOn (fun _ other => goOn (faultQ c one other) (stagesF c.1 one other order) ()) c.2 () = .ok c' → SD (tFor (iTup K (tVar 1)) (gName 6) (tFor w3 g3 body)) (inv1 one ()) (.nx (inv1 one c'))) ∧ ∀ d, goOn (fun _ other => goOn (faultQ c one other) (stagesF c.1 one other order) ()) c.2 () = .error d → ∃ ρ', SD (tFor (iTup K (tVar 1)) (gName 6) (tFor w3 g3 body)) (inv1 one ()) (.rt d ρ') := fun one ho =>
    for_find (γ := Unit) (enc := tI) (bs := c.2) (c := ()) (inv := inv1 one) (I := fun _ _ => True) (ei_tup (ed_var rfl)) True.intro fun _ other rest hot _ => ⟨⟨_, _, tg_name (np_of rfl), fun c' hc => ⟨_, (loop3 one ho other hot).1 c' hc, by
      exact .same (.same (.same (.same (.same (.same (.drop (fun _ z => by cases z) (.same (.same .nil))))))))⟩, fun d hd => (loop3 one ho other hot).2 d hd⟩, fun _ _ => True.intro⟩
  have loop1 : (∀ c', faultE c order = .ok c' → SD (tFor (iTup K (tVar 1)) (gName 5) (tFor (iTup K (tVar 1)) (gName 6) (tFor w3 g3 body))) (inv ()) (.nx (inv c'))) ∧ ∀ d, faultE c order = .error d → ∃ ρ', SD (tFor (iTup K (tVar 1)) (gName 5) (tFor (iTup K (tVar 1)) (gName 6) (tFor w3 g3 body))) (inv ()) (.rt d ρ') :=
    for_find (γ := Unit) (enc := tI) (bs := c.2) (c := ()) (inv := inv) (I := fun _ _ => True) (ei_tup (ed_var rfl)) True.intro fun _ one rest ho _ => ⟨⟨_, _, tg_name (np_of rfl), fun c' hc => ⟨_, (loop2 one ho).1 c' hc, by
      exact .same (.same (.same (.same (.same (.drop (fun _ z => by cases z) (.same (.same (.same .nil))))))))⟩, fun d hd => (loop2 one ho).2 d hd⟩, fun _ _ => True.intro⟩
  cases z : faultE c order with
  | ok u => exact ⟨_, sd_seq known (sd_seq (loop1.1 u z) (sd_ret ed_c_non))⟩
  | error d =>
    obtain ⟨ρ', l⟩ := loop1.2 d z
    exact ⟨ρ', sd_seq known (sd_seqR l)⟩
inductive R_need_check (C : Addr) : List Sl → PyData → Prop
  | mk (cols : List Int) (cks : List Ck) (k : Nat) (h : k < cks.length) : R_need_check C [bookS C cols cks, .kn (.int (k : Nat))] (.int (k : Nat))
abbrev st_need_check : Stmt := topS 23
abbrev N_need_check : List Str := ["book", "value"]
theorem sc_need_check : FnScope N_need_check ["book", "value"] (defScope st_need_check) := ⟨rfl, rfl, rfl, by decide +kernel, rfl, by decide +kernel, by decide +kernel⟩
theorem cl_need_check {P : Program} {w : World} {K : PySem.W.Frag} {mg : Str → Option Value} {base : Heap} (T : Nm mg) (D : Dn K mg "need_check" st_need_check ["book", "value"]) {C : Addr} (B : BkC K C) (c_is_below : Cl P w K mg base 3 "is_below" (spP R_is_below)) : Cl P w K mg base 4 "need_check" (spP (R_need_check C)) := by
  refine cl_of D sc_need_check (by rintro _ _ ⟨⟩; rfl) fun f cdv A outer s H E hr => ⟨_, (pss_cons (ps_if (pt_not (pt_val (pe_cl c_is_below hr (by decide) (by rfl) (pa_cons (pv 1) (pa_cons (pe_callB cr_len (by rfl) T.len bt_len (pa_cons (pe_fld (pv 0) rfl) pa_nil)) pa_nil)))))
      (pss_one ps_never)
      pss_nil)
    (pss_one (ps_ret (pv 1)))), ?_⟩
  rintro _ _ ⟨cols, cks, k, h⟩ -
  refine ⟨_, sd_seq (sd_F (EvB.to (eb_not (eb_test (ed_call (ss := [.kn (.int (k : Nat)), .kn (.int ((cks.map ckD).length : Nat))]) (ea_cons (ed_var rfl) (ea_cons (ed_lenT (ed_cks B rfl)) ea_nil)) (.d (.d .nil)) (by simp [notOw]) (.mk _ _)))) ?_) sd_nx) (sd_ret (ed_var rfl))⟩
  simp only [isBelow, List.length_map]
  rw [decide_eq_true (by omega), decide_eq_true (by omega)]
  rfl
def suitsD (cks : List Ck) (k : Nat) (order : List (List Int)) : PyData := resD (faultE (cks.getD k ([], [])) order)
inductive R_suits_paper (C : Addr) : List Sl → PyData → Prop
  | mk (cols : List Int) (cks : List Ck) (k : Nat) (x : PyData) (order : List (List Int)) (h : okCols cols) (h0 : ∀ c ∈ cks, rowsOk c) (hk : k < cks.length) (ho : okOrder cols order x) : R_suits_paper C [bookS C cols cks, .kn (.int (k : Nat)), .kn x] (suitsD cks k order)
abbrev st_suits_paper : Stmt := topS 41
abbrev N_suits_paper : List Str := ["book", "check", "ranking", "order", "columns", "rows"]
theorem sc_suits_paper : FnScope N_suits_paper ["book", "check", "ranking"] (defScope st_suits_paper) := ⟨rfl, rfl, rfl, by decide +kernel, rfl, by decide +kernel, by decide +kernel⟩
theorem cl_suits_paper {P : Program} {w : World} {K : PySem.W.Frag} {mg : Str → Option Value} {base : Heap} (T : Nm mg) (D : Dn K mg "suits_paper" st_suits_paper ["book", "check", "ranking"]) {C : Addr} (B : BkC K C) (c_need_check : Cl P w K mg base 4 "need_check" (spP (R_need_check C))) (c_check_order : Cl P w K mg base 7 "check_order" (spP (R_check_order C))) (c_fault_in : Cl P w K mg base 3 "fault_in" (spP R_fault_in)) : Cl P w K mg base 8 "suits_paper" (spP (R_suits_paper C)) := by
  refine cl_of D sc_suits_paper (by rintro _ _ ⟨⟩; rfl) fun f cdv A outer s H E hr => ⟨_, (pss_cons (ps_expr (pe_cl c_need_check hr (by decide) (by rfl) (pa_cons (pv 0) (pa_cons (pv 1) pa_nil))))
    (pss_cons (ps_set (i := 3) sc_suits_paper.nd rfl (by first | exact Or.inl rfl | exact Or.inr rfl) (pe_cl c_check_order hr (by decide) (by rfl) (pa_cons (pv 0) (pa_cons (pv 2) pa_nil))))
    (pss_cons (ps_asg (pe_ix ix_tup (pe_fld (pv 0) rfl) (pv 1) (fun _ _ => rfl)) (pg_tup rfl (pgs_cons (pg_name (i := 4) sc_suits_paper.nd rfl (by first | exact Or.inl rfl | exact Or.inr rfl)) (pgs_cons (pg_name (i := 5) sc_suits_paper.nd rfl (by first | exact Or.inl rfl | exact Or.inr rfl)) pgs_nil))))
    (pss_one (ps_ret (pe_cl c_fault_in hr (by decide) (by rfl) (pa_cons (pv 4) (pa_cons (pv 5) (pa_cons (pv 3) pa_nil))))))))), ?_⟩
  rintro _ _ ⟨cols, cks, k, x, order, h, h0, hk, ho⟩ -
  have e : cks[k]? = some (cks.getD k ([], [])) := by simp [List.getD_eq_getElem?_getD, hk]
  have ol : order.length ≤ 64 := by
    rw [(order_len ho).1]
    exact kindsI_len h
  refine ⟨_, sd_seq (sd_drop (ed_call (ss := [bookS C cols cks, .kn (.int (k : Nat))]) (ea_var (s := bookS C cols cks) rfl (ea_cons (ed_var rfl) ea_nil)) (.var rfl (.d .nil)) (by simp [notOw]) (.mk cols cks k hk)))
    (sd_seq (sd_asg (ed_call (ss := [bookS C cols cks, .kn x]) (ea_var (s := bookS C cols cks) rfl (ea_cons (ed_var rfl) ea_nil)) (.var rfl (.d .nil)) (by simp [notOw]) (.mk cols cks x order h ho)) (np_of rfl))
    (sd_seq (sd_tgt (ed_ixT (d := ckD (cks.getD k ([], []))) (ed_cks B rfl) (ed_var rfl) (atI_nat (by rw [List.getElem?_map, e]; rfl))) (tg_two (np_of rfl) (np_of rfl)))
    (sd_ret (ed_call (ss := [.kn (tI (cks.getD k ([], [])).1), .kn (tR (cks.getD k ([], [])).2), .kn (tR order)]) (ea_cons (ed_var rfl) (ea_cons (ed_var rfl) (ea_cons (ed_var rfl) ea_nil))) (.d (.d (.d .nil))) (by simp [notOw]) (.mk _ order (h0 _ (List.mem_of_getElem? e)) ol)))))⟩
inductive R_suits (C : Addr) : List Sl → PyData → Prop
  | mk (cols : List Int) (cks : List Ck) (k : Nat) (x : PyData) (order : List (List Int)) (h : okCols cols) (h0 : ∀ c ∈ cks, rowsOk c) (hk : k < cks.length) (ho : okOrder cols order x) : R_suits C [bookS C cols cks, .kn (.int (k : Nat)), .kn x] (.bool (isNone (suitsD cks k order)))
abbrev st_suits : Stmt := topS 42
abbrev N_suits : List Str := ["book", "check", "ranking"]
theorem sc_suits : FnScope N_suits ["book", "check", "ranking"] (defScope st_suits) := ⟨rfl, rfl, rfl, by decide +kernel, rfl, by decide +kernel, by decide +kernel⟩
theorem cl_suits {P : Program} {w : World} {K : PySem.W.Frag} {mg : Str → Option Value} {base : Heap} (T : Nm mg) (D : Dn K mg "suits" st_suits ["book", "check", "ranking"]) {C : Addr} (B : BkC K C) (c_suits_paper : Cl P w K mg base 8 "suits_paper" (spP (R_suits_paper C))) : Cl P w K mg base 9 "suits" (spP (R_suits C)) := by
  refine cl_of D sc_suits (by rintro _ _ ⟨⟩; rfl) fun f cdv A outer s H E hr => ⟨_, (pss_one (ps_ret (pe_cmpR op_isNon (pe_cl c_suits_paper hr (by decide) (by rfl) (pa_cons (pv 0) (pa_cons (pv 1) (pa_cons (pv 2) pa_nil)))) pe_non (nomark _)))), ?_⟩
  rintro _ _ ⟨cols, cks, k, x, order, h, h0, hk, ho⟩ -
  exact ⟨_, sd_ret (ed_isN (ed_call (ss := [bookS C cols cks, .kn (.int (k : Nat)), .kn x]) (ea_var (s := bookS C cols cks) rfl (ea_cons (ed_var rfl) (ea_cons (ed_var rfl) ea_nil))) (.var rfl (.d (.d .nil))) (by simp [notOw]) (.mk cols cks k x order h h0 hk ho)))⟩
end DW


set_option maxRecDepth 100000
set_option maxHeartbeats 1000000
namespace DW
open PySem PySem.Spec PyProof.Rows L2
def rPow2 : R2 := rI CPow fun i j => .int (i ^ j.toNat)
theorem op_pow2 {X : Cx} : OpR X (binaryOp .Pow) rPow2 := op_pow
def rFdiv2 : R2 := rI CDiv fun i j => .int (i / j)
theorem op_fdiv2 {X : Cx} : OpR X (binaryOp .FloorDiv) rFdiv2 := op_fdiv
section
variable {ρ ρ1 ρ2 ρ3 : En} {ta tb tc te : TE} {tA : TA} {ds es : List PyData} {d x y z : PyData} {i j k : Nat} {K : PySem.W.Frag} {m n : Int} {p : Bool} {ns : List Int}
theorem ed_pow (ha : EvD ta ρ (.int m) ρ1) (hb : EvD tb ρ1 (.int n) ρ2) (hc : CPow m n) : EvD (tOp rPow2 ta tb) ρ (.int (m ^ n.toNat)) ρ2 := ed_I (g := fun i j => .int (i ^ j.toNat)) (g' := fun i j => .int (i ^ j.toNat)) hc ha hb fun _ => .int _
theorem ed_fdiv (ha : EvD ta ρ (.int m) ρ1) (hb : EvD tb ρ1 (.int n) ρ2) (hc : CDiv m n) : EvD (tOp rFdiv2 ta tb) ρ (.int (m / n)) ρ2 := ed_I (g := fun i j => .int (i / j)) (g' := fun i j => .int (i / j)) hc ha hb fun _ => .int _
/-- xs[e], xs an owned list -/
theorem ed_ixO (h : ρ[i]? = some (some (.ow p ds))) (hb : EvD tb ρ (.int m) ρ) (ha : L2.atI ds m = some d) : EvD (tOp (rIxL K) (tVar i) tb) ρ d ρ := fun Hk σ H a Q q => by
  obtain ⟨v, h1, l, xs, rfl, hk, hl, r⟩ := a.en i _ h
  refine ⟨_, h1, hb Hk σ H a _ fun u Hk1 H1 g1 ru => ?_⟩
  cases ru
  obtain ⟨v2, h2, l2, ys, e2, hk2, hl2, r2⟩ := g1.at'.en i _ h
  rw [h1] at h2
  cases h2
  cases e2
  obtain ⟨w, w1, w2⟩ := r2.atI ha
  exact ⟨l, ys, m, w, rfl, rfl, .of hl2, w1, q w Hk1 H1 g1 w2⟩
/-- len(xs), xs an owned list -/
theorem ed_lenO (h : ρ[i]? = some (some (.ow p ds))) : EvD (tCB (rLen K) (tCons (tVar i) tNil)) ρ (.int ds.length) ρ := fun Hk σ H a Q q => by
  obtain ⟨v, h1, l, xs, rfl, hk, hl, r⟩ := a.en i _ h
  refine ⟨_, h1, l, xs, rfl, .inl (.of hl), ?_⟩
  rw [r.length]
  exact q _ Hk H (Go.refl a) (.int _)
theorem ed_lenScr (h : ρ[i]? = some (some (.scr K ns))) : EvD (tCB (rLen K) (tCons (tVar i) tNil)) ρ (.int ns.length) ρ := fun Hk σ H a Q q => by
  obtain ⟨v, h1, l, rfl, hs⟩ := a.en i _ h
  refine ⟨_, h1, l, ns.map V.int, rfl, .inl (sq_ex a.kh hs), ?_⟩
  rw [List.length_map]
  exact q _ Hk H (Go.refl a) (.int _)
theorem ed_ixScr (h : ρ[i]? = some (some (.scr K ns))) (hb : EvD tb ρ (.int m) ρ) (ha : L2.atI ns m = some n) : EvD (tOp (rIxL K) (tVar i) tb) ρ (.int n) ρ := fun Hk σ H a Q q => by
  obtain ⟨v, h1, l, rfl, hs⟩ := a.en i _ h
  refine ⟨_, h1, hb Hk σ H a _ fun u Hk1 H1 g1 ru => ?_⟩
  cases ru
  have hs1 : SqL K H1 l (ns.map V.int) := sq_ex (g1.gr.kk.trans g1.at'.kh) hs
  refine ⟨l, ns.map V.int, m, .int n, rfl, rfl, hs1, ?_, q _ Hk1 H1 g1 (.int _)⟩
  unfold L2.atI at ha ⊢
  rw [List.length_map]
  cases e : L2.ixN ns.length m with
  | none => rw [e] at ha; cases ha
  | some j =>
    rw [e] at ha
    have ha : ns[j]? = some n := ha
    show (ns.map V.int)[j]? = _
    rw [List.getElem?_map, ha]
    rfl
/-! ### stores side by side -/
theorem sd_parDD (h : EvA tA ρ [.d x, .d y] ρ1) (hi : ¬ Pin ρ1 i) (hj : ¬ Pin (ρ1.set i (some (.kn x))) j) : SD (tPar i j tA) ρ (.nx ((ρ1.set i (some (.kn x))).set j (some (.kn y)))) := fun Hk σ H D a q =>
  h Hk σ H a _ fun vs Hk1 H1 g1 r => by
    have r2 := ArAll.data (ds := [x, y]) r
    cases r2 with
    | cons r1 r2 =>
      cases r2 with
      | cons r2 r3 =>
        cases r3
        have s1 := GoS.set g1.at' (i := i) (s := .kn x) r1 (fun _ _ z => by cases z) hi
        have s2 := GoS.set s1.at' (i := j) (s := .kn y) r2 (fun _ _ z => by cases z) hj
        exact ⟨_, _, rfl, q Hk1 _ H1 ((g1.s.trans s1).trans s2)⟩
/-- a new list that is owned from now on -/
theorem GoS.newL {Hk : Hp} {σ : L2.St} {H : Hp} {l : Addr} {xs : List V} (a : At ρ Hk σ H) (n : ∀ b, Owns σ ρ b → b ≠ l) (hk : Hk l = none) (hl : H l = some (.lst xs)) (r : RpA Hk xs ds) (hp : ¬ Pin ρ i) {H0 : Hp} (h0 : H0 l = none) {ρ0 : En} {Hk0 : Hp} {σ0 : L2.St} (g : GoS ρ0 Hk0 σ0 H0 ρ Hk σ H) :
    GoS ρ0 Hk0 σ0 H0 (ρ.set i (some (.ow false ds))) Hk (σ.set i (some (.ref l))) H := by
  refine ⟨a.setN n hk hl r, g.gr, fun b hb => ?_, fun j p => ?_⟩
  · obtain ⟨j, p, es, e1, e2⟩ := hb
    rcases set_inv e1 with ⟨e, hi, e3⟩ | ⟨e, e1⟩
    · subst e
      rw [List.getElem?_set_self (by rw [a.len]; exact hi)] at e2
      cases e2
      exact .inr h0
    · rw [List.getElem?_set_ne e] at e2
      exact g.own b ⟨j, p, es, e1, e2⟩
  · obtain ⟨p1, p2⟩ := g.pin j p
    have ne : i ≠ j := fun e => hp (e ▸ p1)
    obtain ⟨es, e1⟩ := p1
    exact ⟨⟨es, (List.getElem?_set_ne ne).trans e1⟩, (List.getElem?_set_ne ne).trans p2⟩
theorem sd_parNN (h1 : EvN ta ρ ds ρ1) (h2 : EvN tb ρ1 es ρ2) (hi : ¬ Pin ρ2 i) (hj : ¬ Pin (ρ2.set i (some (.ow false ds))) j) (hij : i ≠ j) : SD (tPar i j (tCons ta (tCons tb tNil))) ρ (.nx ((ρ2.set i (some (.ow false ds))).set j (some (.ow false es)))) := fun Hk σ H D a q =>
  h1 Hk σ H a _ fun l xs Hk1 H1 g1 n1 k1 e1 r1 => h2 Hk1 σ H1 g1.at' _ fun l2 ys Hk2 H2 g2 n2 k2 e2 r2 => by
    have no1 : ¬ Owns σ ρ1 l := fun hx => by
      obtain ⟨_, zs, e4⟩ := a.owned (g1.own l hx)
      rw [n1] at e4
      cases e4
    have e1' : H2 l = some (.lst xs) := g2.gr.keep l _ e1 no1
    have k1' : Hk2 l = none := g2.gr.old l _ e1 True.intro no1 k1
    have ne : l2 ≠ l := fun z => by
      rw [z, e1] at n2
      cases n2
    have o1 : ∀ b, Owns σ ρ2 b → b ≠ l := fun b hb z => no1 (z ▸ g2.own b hb)
    have n2' : H l2 = none := by
      cases q0 : H l2 with
      | none => rfl
      | some u => exact absurd n2 (g1.gr.live l2 (by rw [q0]; simp))
    have s0 := (g1.trans g2).s
    have s1 := GoS.newL (i := i) g2.at' o1 k1' e1' (r1.ex g2.gr.kk) hi n1 s0
    have o2 : ∀ b, Owns (σ.set i (some (.ref l))) (ρ2.set i (some (.ow false ds))) b → b ≠ l2 := fun b hb z => by
      subst z
      obtain ⟨j, p, fs, e3, e4⟩ := hb
      rcases set_inv e3 with ⟨e, hl, _⟩ | ⟨e, e3⟩
      · subst e
        rw [List.getElem?_set_self (by rw [g2.at'.len]; exact hl)] at e4
        cases e4
        exact ne rfl
      · rw [List.getElem?_set_ne e] at e4
        obtain ⟨_, zs, e5⟩ := a.owned ((g1.trans g2).own _ ⟨j, p, fs, e3, e4⟩)
        rw [n2'] at e5
        cases e5
    exact ⟨_, _, rfl, q Hk2 _ H2 (GoS.newL (i := j) s1.at' o2 k2 e2 r2 hj n2' s1)⟩
theorem sd_parDND (h1 : EvD ta ρ x ρ1) (h2 : EvN tb ρ1 es ρ2) (h3 : EvD tc ρ2 z ρ3) (hi : ¬ Pin ρ3 i) (hj : ¬ Pin (ρ3.set i (some (.kn x))) j) (hk : ¬ Pin ((ρ3.set i (some (.kn x))).set j (some (.ow false es))) k) : SD (tPar3 i j k (tCons ta (tCons tb (tCons tc tNil)))) ρ (.nx (((ρ3.set i (some (.kn x))).set j (some (.ow false es))).set k (some (.kn z)))) := fun Hk σ H D a q =>
  h1 Hk σ H a _ fun v Hk1 H1 g1 r1 => h2 Hk1 σ H1 g1.at' _ fun l ys Hk2 H2 g2 n2 k2 e2 r2 => h3 Hk2 σ H2 g2.at' _ fun w Hk3 H3 g3 r3 => by
    have n2' : H l = none := by
      cases q0 : H l with
      | none => rfl
      | some u => exact absurd n2 (g1.gr.live l (by rw [q0]; simp))
    have no2 : ¬ Owns σ ρ2 l := fun hx => by
      obtain ⟨_, zs, e4⟩ := a.owned ((g1.trans g2).own l hx)
      rw [n2'] at e4
      cases e4
    have e2' : H3 l = some (.lst ys) := g3.gr.keep l _ e2 no2
    have k2' : Hk3 l = none := g3.gr.old l _ e2 True.intro no2 k2
    have s0 := ((g1.trans g2).trans g3).s
    have s1 := GoS.set g3.at' (i := i) (s := .kn x) ((r1.ex g2.gr.kk).ex g3.gr.kk) (fun _ _ z => by cases z) hi
    have s2 := s0.trans s1
    have o2 : ∀ b, Owns (σ.set i (some v)) (ρ3.set i (some (.kn x))) b → b ≠ l := fun b hb z => no2 (z ▸ g3.own b (own_set (s := .kn x) (fun _ _ z => by cases z) b hb))
    have s3 := GoS.newL (i := j) s2.at' o2 k2' e2' ((r2.ex g3.gr.kk)) hj n2' s2
    have s4 := GoS.set s3.at' (i := k) (s := .kn z) r3 (fun _ _ z => by cases z) hk
    exact ⟨_, _, _, rfl, q Hk3 _ H3 (s3.trans s4)⟩
end
end DW

set_option maxRecDepth 100000
set_option maxHeartbeats 1000000
namespace DW
open PySem PySem.Spec PyProof.Rows L2
/-! ### where draws come from -/
def absI (i : Int) : Int := if i < 0 then -i else i
def cellM (ns : List Int) (k : Nat) : Int := if (k : Int) < (ns.length : Nat) then absI (ns.getD k 0) else if (0 : Int) < (ns.length : Nat) then (9343 * (k : Int) + 743) + absI (ns.getD (k % ns.length) 0) % 2147483587 * 54319 else 9343 * (k : Int) + 743
abbrev Bx := Int × Int
def bxD (x : Bx) : List PyData := [.int x.1, .int x.2]
def boxM (ns : List Int) (k : Nat) : Bx := (if (10 : Int) ^ 18 ≤ cellM ns k then cellM ns k else 0, (cellM ns k % 2147483587 * 69069 + 743 * (k : Int)) % 2147483587 + 1)
theorem atI_ns {ns : List Int} {k : Nat} (h : k < ns.length) : L2.atI ns (k : Int) = some (ns.getD k 0) := atI_nat (by simp [List.getD_eq_getElem?_getD, h])
inductive R__law_box (K : PySem.W.Frag) : List Sl → List PyData → Prop
  | mk (ns : List Int) (k : Nat) (h : k < 10) : R__law_box K [.scr K ns, .kn (.int (k : Nat))] (bxD (boxM ns k))
abbrev st__law_box : Stmt := topS 44
abbrev N__law_box : List Str := ["_law_script", "_law_k", "_law_cell", "_law_great"]
theorem sc__law_box : FnScope N__law_box ["_law_script", "_law_k"] (defScope st__law_box) := ⟨rfl, rfl, rfl, by decide +kernel, rfl, by decide +kernel, by decide +kernel⟩
theorem cl__law_box {P : Program} {w : World} {K : PySem.W.Frag} {mg : Str → Option Value} {base : Heap} (T : Nm mg) (D : Dn K mg "_law_box" st__law_box ["_law_script", "_law_k"]) : Cl P w K mg base 1 "_law_box" (spN (R__law_box K)) := by
  refine cl_ofN D sc__law_box (by rintro _ _ ⟨⟩; rfl) fun f cdv A outer s H E hr => ⟨_, (pss_cons (ps_set (i := 2) sc__law_box.nd rfl (by first | exact Or.inl rfl | exact Or.inr rfl) (pe_op op_add2 (pe_op op_mul2 pe_int (pv 1)) pe_int))
    (pss_cons (ps_if (pt_cmpR op_lt2 (pv 1) (pe_callB cr_len (by rfl) T.len bt_len (pa_cons (pv 0) pa_nil)) (nomark _))
      (pss_one (ps_set (i := 2) sc__law_box.nd rfl (by first | exact Or.inl rfl | exact Or.inr rfl) (pe_callB cr_abs (by rfl) T.abs bt_abs (pa_cons (pe_callTy cr_int (by rfl) T.int bt_int (pa_cons (pe_ix ix_list (pv 0) (pv 1) (fun _ _ => rfl)) pa_nil)) pa_nil))))
      (pss_one (ps_if (pt_cmpR op_gt2 (pe_callB cr_len (by rfl) T.len bt_len (pa_cons (pv 0) pa_nil)) pe_int (nomark _))
        (pss_one (ps_set (i := 2) sc__law_box.nd rfl (by first | exact Or.inl rfl | exact Or.inr rfl) (pe_op op_add2 (pv 2) (pe_op op_mul2 (pe_op op_mod2 (pe_callTy cr_int (by rfl) T.int bt_int (pa_cons (pe_callB cr_abs (by rfl) T.abs bt_abs (pa_cons (pe_callTy cr_int (by rfl) T.int bt_int (pa_cons (pe_ix ix_list (pv 0) (pe_op op_mod2 (pe_callTy cr_int (by rfl) T.int bt_int (pa_cons (pv 1) pa_nil)) (pe_callB cr_len (by rfl) T.len bt_len (pa_cons (pv 0) pa_nil))) (fun _ _ => rfl)) pa_nil)) pa_nil)) pa_nil)) pe_int) pe_int))))
        pss_nil)))
    (pss_cons (ps_set (i := 3) sc__law_box.nd rfl (by first | exact Or.inl rfl | exact Or.inr rfl) (pe_ifExp (pt_cmpR op_ge2 (pv 2) (pe_op op_pow2 pe_int pe_int) (nomark _)) (pv 2) pe_int))
    (pss_one (ps_ret (pe_lst (pa_cons (pv 3) (pa_cons (pe_op op_add2 (pe_op op_mod2 (pe_callTy cr_int (by rfl) T.int bt_int (pa_cons (pe_op op_add2 (pe_op op_mul2 (pe_op op_mod2 (pe_callTy cr_int (by rfl) T.int bt_int (pa_cons (pv 2) pa_nil)) pe_int) pe_int) (pe_op op_mul2 pe_int (pv 1))) pa_nil)) pe_int) pe_int) pa_nil)))))))), ?_⟩
  rintro _ _ ⟨ns, k, hk⟩ -
  have c1 : ∀ a b : Int, -(2 ^ 64) < a → a < 2 ^ 64 → CMul a b := fun a b h1 h2 => .inl ⟨h1, h2⟩
  have c2 : ∀ a b : Int, -(2 ^ 64) < b → b < 2 ^ 64 → CMul a b := fun a b h1 h2 => .inr ⟨h1, h2⟩
  let ρ0 : En := [some (.scr K ns), some (.kn (.int (k : Nat))), none, none]
  let ρ1 : Int → En := fun c => [some (.scr K ns), some (.kn (.int (k : Nat))), some (.kn (.int c)), none]
  have first : SD _ ρ0 (.nx (ρ1 (9343 * (k : Int) + 743))) := sd_asg (i := 2) (ed_add (ed_mul ed_c_int (ed_var (i := 1) rfl) (c1 _ _ (by decide) (by decide))) ed_c_int) (np_of rfl)
  have last : ∀ c : Int, SDN _ (ρ1 c) (bxD (if (10 : Int) ^ 18 ≤ c then c else 0, (c % 2147483587 * 69069 + 743 * (k : Int)) % 2147483587 + 1)) := fun c => by
    have cond : EvB _ (ρ1 c) (decide ((10 : Int) ^ 18 ≤ c)) (ρ1 c) := eb_test (ed_ge (ed_var (i := 2) rfl) (ed_pow (m := 10) (n := 18) ed_c_int ed_c_int ⟨by decide, by decide, by decide⟩))
    have great : SD _ (ρ1 c) (.nx [some (.scr K ns), some (.kn (.int (k : Nat))), some (.kn (.int c)), some (.kn (.int (if (10 : Int) ^ 18 ≤ c then c else 0)))]) := sd_asg (i := 3) (ed_if (ρ2 := ρ1 c) cond (fun z => by rw [if_pos (of_decide_eq_true z)]; exact ed_var (i := 2) rfl) (fun z => by rw [if_neg (of_decide_eq_false z)]; exact ed_c_int)) (np_of rfl)
    exact sdn_seq great (sdn_ret (en_lst (ds := [.int (if (10 : Int) ^ 18 ≤ c then c else 0), .int ((c % 2147483587 * 69069 + 743 * (k : Int)) % 2147483587 + 1)]) (ea_cons (ed_var (i := 3) rfl) (ea_cons (ed_add (ed_mod (ed_int (ed_add (ed_mul (ed_mod (ed_int (ed_var (i := 2) rfl)) ed_c_int (by decide)) ed_c_int (c2 _ _ (by decide) (by decide))) (ed_mul ed_c_int (ed_var (i := 1) rfl) (c1 _ _ (by decide) (by decide))))) ed_c_int (by decide)) ed_c_int) ea_nil)) (by show 2 ≤ sizeLine; decide)))
  have test1 : EvB _ (ρ1 (9343 * (k : Int) + 743)) (decide ((k : Int) < (ns.length : Nat))) (ρ1 (9343 * (k : Int) + 743)) := eb_test (ed_lt (ed_var (i := 1) rfl) (ed_lenScr (i := 0) rfl))
  have test2 : EvB _ (ρ1 (9343 * (k : Int) + 743)) (decide ((0 : Int) < (ns.length : Nat))) (ρ1 (9343 * (k : Int) + 743)) := eb_test (ed_gt (ed_lenScr (i := 0) rfl) ed_c_int)
  by_cases h1 : (k : Int) < (ns.length : Nat)
  · have e : cellM ns k = absI (ns.getD k 0) := if_pos h1
    unfold boxM
    rw [e]
    exact sdn_seq first (sdn_seq (ρ1 := ρ1 (absI (ns.getD k 0))) (sd_T (EvB.to test1 (decide_eq_true h1)) (sd_asg (i := 2) (ed_abs (ed_int (ed_ixScr (i := 0) rfl (ed_var (i := 1) rfl) (atI_ns (by omega))))) (np_kn rfl))) (last _))
  · by_cases h2 : (0 : Int) < (ns.length : Nat)
    · have e : cellM ns k = (9343 * (k : Int) + 743) + absI (ns.getD (k % ns.length) 0) % 2147483587 * 54319 := (if_neg h1).trans (if_pos h2)
      unfold boxM
      rw [e]
      have ix : L2.atI ns ((k : Int) % (ns.length : Nat)) = some (ns.getD (k % ns.length) 0) := by
        have : ((k : Int) % (ns.length : Nat)) = ((k % ns.length : Nat) : Int) := by simp
        rw [this]
        exact atI_ns (Nat.mod_lt _ (by omega))
      exact sdn_seq first (sdn_seq (ρ1 := ρ1 ((9343 * (k : Int) + 743) + absI (ns.getD (k % ns.length) 0) % 2147483587 * 54319)) (sd_F (EvB.to test1 (decide_eq_false h1)) (sd_T (EvB.to test2 (decide_eq_true h2)) (sd_asg (i := 2) (ed_add (ed_var (i := 2) rfl) (ed_mul (ed_mod (ed_int (ed_abs (ed_int (ed_ixScr (i := 0) rfl (ed_mod (ed_int (ed_var (i := 1) rfl)) (ed_lenScr (i := 0) rfl) h2) ix)))) ed_c_int (by decide)) ed_c_int (c2 _ _ (by decide) (by decide)))) (np_kn rfl)))) (last _))
    · have e : cellM ns k = 9343 * (k : Int) + 743 := (if_neg h1).trans (if_neg h2)
      unfold boxM
      rw [e]
      exact sdn_seq first (sdn_seq (ρ1 := ρ1 (9343 * (k : Int) + 743)) (sd_F (EvB.to test1 (decide_eq_false h1)) (sd_F (EvB.to test2 (decide_eq_false h2)) sd_nx)) (last _))
def rawM (b : Int) : Int := (b * 40692 + 167) % 2147483399
def nxtM (b : Int) : Int := (rawM b * 40014 + 19) % 2147483587 + 1
def takeR (x : Bx) (m : Int) : Int := if 0 < x.1 then x.1 % m else (rawM x.2 * 2147483629 + nxtM x.2) / 8209 % m
def takeB (x : Bx) (m : Int) : Bx := if 0 < x.1 then (x.1 / m, x.2) else (x.1, nxtM x.2)
theorem takeR_ok (x : Bx) {m : Int} (h : 0 < m) : 0 ≤ takeR x m ∧ takeR x m < m := by
  unfold takeR
  split
  · exact ⟨Int.emod_nonneg _ (by omega), Int.emod_lt_of_pos _ h⟩
  · exact ⟨Int.emod_nonneg _ (by omega), Int.emod_lt_of_pos _ h⟩
inductive R__law_take : List PyData → List Sl → PyData → List PyData → Prop
  | mk (x : Bx) (m : Int) (h : 0 < m) (h2 : m < 1073741824) : R__law_take (bxD x) [.kn (.int m)] (.int (takeR x m)) (bxD (takeB x m))
abbrev st__law_take : Stmt := topS 45
abbrev N__law_take : List Str := ["_law_box_here", "_law_many", "_law_digit", "_law_raw"]
theorem sc__law_take : FnScope N__law_take ["_law_box_here", "_law_many"] (defScope st__law_take) := ⟨rfl, rfl, rfl, by decide +kernel, rfl, by decide +kernel, by decide +kernel⟩
theorem cl__law_take {P : Program} {w : World} {K : PySem.W.Frag} {mg : Str → Option Value} {base : Heap} (T : Nm mg) (D : Dn K mg "_law_take" st__law_take ["_law_box_here", "_law_many"]) : Cl P w K mg base 1 "_law_take" (spB R__law_take) := by
  refine cl_ofB D sc__law_take (by rintro _ _ _ _ ⟨⟩; rfl) fun f cdv A outer s H E hr => ⟨_, (pss_cons (ps_if (pt_cmpR op_gt2 (pe_ix ix_list (pv 0) pe_int (fun _ _ => rfl)) pe_int (nomark _))
      (pss_cons (ps_set (i := 2) sc__law_take.nd rfl (by first | exact Or.inl rfl | exact Or.inr rfl) (pe_op op_mod2 (pe_callTy cr_int (by rfl) T.int bt_int (pa_cons (pe_ix ix_list (pv 0) pe_int (fun _ _ => rfl)) pa_nil)) (pv 1)))
      (pss_cons (ps_asg (pe_op op_fdiv2 (pe_ix ix_list (pv 0) pe_int (fun _ _ => rfl)) (pv 1)) (pg_sub (pv 0) pe_int set_list))
      (pss_one (ps_ret (pv 2)))))
      pss_nil)
    (pss_cons (ps_set (i := 3) sc__law_take.nd rfl (by first | exact Or.inl rfl | exact Or.inr rfl) (pe_op op_mod2 (pe_callTy cr_int (by rfl) T.int bt_int (pa_cons (pe_op op_add2 (pe_op op_mul2 (pe_ix ix_list (pv 0) pe_int (fun _ _ => rfl)) pe_int) pe_int) pa_nil)) pe_int))
    (pss_cons (ps_asg (pe_op op_add2 (pe_op op_mod2 (pe_callTy cr_int (by rfl) T.int bt_int (pa_cons (pe_op op_add2 (pe_op op_mul2 (pv 3) pe_int) pe_int) pa_nil)) pe_int) pe_int) (pg_sub (pv 0) pe_int set_list))
    (pss_one (ps_ret (pe_op op_mod2 (pe_callTy cr_int (by rfl) T.int bt_int (pa_cons (pe_op op_fdiv2 (pe_op op_add2 (pe_op op_mul2 (pv 3) pe_int) (pe_ix ix_list (pv 0) pe_int (fun _ _ => rfl))) pe_int) pa_nil)) (pv 1))))))), ?_⟩
  rintro _ _ _ _ ⟨x, m, h, h2⟩ -
  have c2 : ∀ a b : Int, -(2 ^ 64) < b → b < 2 ^ 64 → CMul a b := fun a b h1 h2 => .inr ⟨h1, h2⟩
  let ρ0 : En := [some (.ow true (bxD x)), some (.kn (.int m)), none, none]
  have g0 : EvD (tOp (rIxL K) (tVar 0) (tC (.int 0))) ρ0 (.int x.1) ρ0 := ed_ixO (i := 0) (m := 0) rfl ed_c_int rfl
  have test : EvB _ ρ0 (decide (0 < x.1)) ρ0 := eb_test (ed_gt g0 ed_c_int)
  by_cases hg : 0 < x.1
  · have e1 : takeR x m = x.1 % m := if_pos hg
    have e2 : takeB x m = (x.1 / m, x.2) := if_pos hg
    rw [e1, e2]
    let ρ1 : En := [some (.ow true (bxD x)), some (.kn (.int m)), some (.kn (.int (x.1 % m))), none]
    have s1 : SD _ ρ0 (.nx ρ1) := sd_asg (i := 2) (ed_mod (ed_int g0) (ed_var (i := 1) rfl) h) (np_of rfl)
    have g1 : EvD (tOp (rIxL K) (tVar 0) (tC (.int 0))) ρ1 (.int x.1) ρ1 := ed_ixO (i := 0) (m := 0) rfl ed_c_int rfl
    have s2 : SD _ ρ1 (.nx [some (.ow true (bxD (x.1 / m, x.2))), some (.kn (.int m)), some (.kn (.int (x.1 % m))), none]) := sd_setI (i := 0) (k := 0) (ed_fdiv g1 (ed_var (i := 1) rfl) ⟨h, h2⟩) rfl ed_c_int (by show 0 < 2; decide)
    exact ⟨_, rfl, sd_seqR (sd_T (EvB.to test (decide_eq_true hg)) (sd_seq s1 (sd_seq s2 (sd_ret (ed_var (i := 2) rfl)))))⟩
  · have e1 : takeR x m = (rawM x.2 * 2147483629 + nxtM x.2) / 8209 % m := if_neg hg
    have e2 : takeB x m = (x.1, nxtM x.2) := if_neg hg
    rw [e1, e2]
    let ρ1 : En := [some (.ow true (bxD x)), some (.kn (.int m)), none, some (.kn (.int (rawM x.2)))]
    let ρ2 : En := [some (.ow true (bxD (x.1, nxtM x.2))), some (.kn (.int m)), none, some (.kn (.int (rawM x.2)))]
    have s1 : SD _ ρ0 (.nx ρ1) := sd_asg (i := 3) (ed_mod (ed_int (ed_add (ed_mul (ed_ixO (K := K) (i := 0) (m := 1) (d := .int x.2) rfl ed_c_int rfl) ed_c_int (c2 _ _ (by decide) (by decide))) ed_c_int)) ed_c_int (by decide)) (np_of rfl)
    have s2 : SD _ ρ1 (.nx ρ2) := sd_setI (i := 0) (k := 1) (d := .int (nxtM x.2)) (ds := bxD x) (ed_add (ed_mod (ed_int (ed_add (ed_mul (ed_var (i := 3) rfl) ed_c_int (c2 _ _ (by decide) (by decide))) ed_c_int)) ed_c_int (by decide)) ed_c_int) rfl ed_c_int (by show 1 < 2; decide)
    exact ⟨_, rfl, sd_seq (sd_F (EvB.to test (decide_eq_false hg)) sd_nx) (sd_seq s1 (sd_seq s2 (sd_ret (ed_mod (ed_int (ed_fdiv (ed_add (ed_mul (ed_var (i := 3) rfl) ed_c_int (c2 _ _ (by decide) (by decide))) (ed_ixO (K := K) (i := 0) (m := 1) (d := .int (nxtM x.2)) rfl ed_c_int rfl)) ed_c_int ⟨by decide, by decide⟩)) (ed_var (i := 1) rfl) h))))⟩
inductive R__law_pick : List PyData → List Sl → PyData → List PyData → Prop
  | mk (x : Bx) (l : List PyData) (h : 0 < l.length) (h2 : l.length < 1073741824) : R__law_pick (bxD x) [.kn (.list l)] (l.getD (takeR x l.length).toNat .none) (bxD (takeB x l.length))
abbrev st__law_pick : Stmt := topS 46
abbrev N__law_pick : List Str := ["_law_box_here", "_law_some"]
theorem sc__law_pick : FnScope N__law_pick ["_law_box_here", "_law_some"] (defScope st__law_pick) := ⟨rfl, rfl, rfl, by decide +kernel, rfl, by decide +kernel, by decide +kernel⟩
theorem cl__law_pick {P : Program} {w : World} {K : PySem.W.Frag} {mg : Str → Option Value} {base : Heap} (T : Nm mg) (D : Dn K mg "_law_pick" st__law_pick ["_law_box_here", "_law_some"]) (c__law_take : Cl P w K mg base 1 "_law_take" (spB R__law_take)) : Cl P w K mg base 2 "_law_pick" (spB R__law_pick) := by
  refine cl_ofB D sc__law_pick (by rintro _ _ _ _ ⟨⟩; rfl) fun f cdv A outer s H E hr => ⟨_, (pss_one (ps_ret (pe_ix ix_list (pv 1) (pe_cl c__law_take hr (by decide) (by rfl) (pa_cons (pv 0) (pa_cons (pe_callB cr_len (by rfl) T.len bt_len (pa_cons (pv 1) pa_nil)) pa_nil))) (fun _ _ => rfl)))), ?_⟩
  rintro _ _ _ _ ⟨x, l, h, h2⟩ -
  obtain ⟨t1, t2⟩ := takeR_ok x (m := (l.length : Nat)) (by omega)
  obtain ⟨k, hk⟩ := Int.eq_ofNat_of_zero_le t1
  refine ⟨[some (.ow true (bxD (takeB x l.length))), some (.kn (.list l))], rfl, sd_ret (ed_ixL (ed_var (i := 1) rfl) (ed_callB (i := 0) (as := [.d (.int (l.length : Nat))]) (ss := [.kn (.int (l.length : Nat))]) (ea_cons (ed_lenL (ed_var (i := 1) rfl)) ea_nil) rfl rfl (.d .nil) (by simp [notOw]) (.mk x (l.length : Nat) (by omega) (by omega))) ?_)⟩
  rw [hk]
  refine atI_nat ?_
  have : k < l.length := by omega
  simp [List.getD_eq_getElem?_getD, this]
theorem map_erase' {α β : Type} (f : α → β) : ∀ (l : List α) (k : Nat), (l.map f).eraseIdx k = (l.eraseIdx k).map f
  | [], k => by cases k <;> rfl
  | a :: l, 0 => rfl
  | a :: l, k + 1 => by
    show f a :: (l.map f).eraseIdx k = f a :: (l.eraseIdx k).map f
    rw [map_erase' f l k]
abbrev TSt := List (List Int) × List (List Int) × Bx
def turnM (st : TSt) (_ : Nat) : TSt := (st.1 ++ [st.2.1.getD (takeR st.2.2 st.2.1.length).toNat []], st.2.1.eraseIdx (takeR st.2.2 st.2.1.length).toNat, takeB st.2.2 st.2.1.length)
def turnedM (x : Bx) (l : List (List Int)) : TSt := (List.range l.length).foldl turnM ([], l, x)
inductive R__law_turned : List PyData → List Sl → PyData → List PyData → Prop
  | mk (x : Bx) (l : List (List Int)) (h2 : l.length ≤ 100) : R__law_turned (bxD x) [.kn (.list (l.map tI))] (.list ((turnedM x l).1.map tI)) (bxD (turnedM x l).2.2)
abbrev st__law_turned : Stmt := topS 56
abbrev N__law_turned : List Str := ["_law_box_here", "_law_things", "_law_found", "_law_left", "_law_turn"]
theorem sc__law_turned : FnScope N__law_turned ["_law_box_here", "_law_things"] (defScope st__law_turned) := ⟨rfl, rfl, rfl, by decide +kernel, rfl, by decide +kernel, by decide +kernel⟩
theorem cl__law_turned {P : Program} {w : World} {K : PySem.W.Frag} {mg : Str → Option Value} {base : Heap} (T : Nm mg) (D : Dn K mg "_law_turned" st__law_turned ["_law_box_here", "_law_things"]) (c__law_take : Cl P w K mg base 1 "_law_take" (spB R__law_take)) : Cl P w K mg base 2 "_law_turned" (spB R__law_turned) := by
  refine cl_ofB D sc__law_turned (by rintro _ _ _ _ ⟨⟩; rfl) fun f cdv A outer s H E hr => ⟨_, (pss_cons (ps_par (i := 2) (j := 3) rfl sc__law_turned.nd rfl rfl (by decide) rfl rfl (pa_cons (pe_lst pa_nil) (pa_cons (pe_callTy cr_list (by rfl) T.list bt_list (pa_cons (pv 1) pa_nil)) pa_nil)) (by rfl))
    (pss_cons (ps_for PassesOwn.never rfl (pi_range1 (by rfl) T.range (pa_cons (pe_callB cr_len (by rfl) T.len bt_len (pa_cons (pv 3) pa_nil)) pa_nil)) (pg_name (i := 4) sc__law_turned.nd rfl (by first | exact Or.inl rfl | exact Or.inr rfl))
      (pss_one (ps_expr (pe_bm PySem.F.plainAttrs_list PySem.F.slot_list_append PySem.F.type_list_append mt_append (pv 2) (pa_cons (pe_bm PySem.F.plainAttrs_list PySem.F.slot_list_pop PySem.F.type_list_pop mt_popAt (pv 3) (pa_cons (pe_cl c__law_take hr (by decide) (by rfl) (pa_cons (pv 0) (pa_cons (pe_callB cr_len (by rfl) T.len bt_len (pa_cons (pv 3) pa_nil)) pa_nil))) pa_nil)) pa_nil)))))
    (pss_one (ps_ret (pv 2))))), ?_⟩
  rintro _ _ _ _ ⟨x, l, h2⟩ -
  let inv : TSt → En := fun st => [some (.ow true (bxD st.2.2)), some (.kn (.list (l.map tI))), some (.ow false (st.1.map tI)), some (.ow false (st.2.1.map tI)), none]
  have par := sd_parNN (i := 2) (j := 3) (ρ := [some (.ow true (bxD x)), some (.kn (.list (l.map tI))), none, none, none]) (en_lst (ds := []) ea_nil (Nat.zero_le _)) (en_listL (K := K) (te := tVar 1) (ds := l.map tI) (ed_var rfl)) (np_of rfl) (np_of rfl) (by decide)
  have loop := for_acc (γ := TSt) (enc := fun i : Nat => .int (i : Nat)) (bs := List.range l.length) (c := ([], l, x)) (inv := inv) (step := turnM) (g := gName 4) (I := fun rest st => st.2.1.length = rest.length ∧ st.1.length + rest.length ≤ 100) (ρ := inv ([], l, x))
    (wi := iRng1 (tCons (tCB (rLen K) (tCons (tVar 3) tNil)) tNil)) (tb := tDrop (tBM K "list" rAppend (tVar 2) (tCons (tBM K "list" rPopAt (tVar 3) (tCons (tCall (spB R__law_take) [] E0 (tCons (tVar 0) (tCons (tCB (rLen K) (tCons (tVar 3) tNil)) tNil))) tNil)) tNil)))
    (EvI.to (ei_range (ed_lenO (ds := l.map tI) rfl) (by rw [List.length_map]; omega) (by rw [List.length_map]; omega)) (by rw [List.length_map]; rfl)) (by simpa using h2) fun st i rest hi hI => ?_
  · exact ⟨_, rfl, sd_seq par (sd_seq loop (sd_freeze (i := 2) (ds := (turnedM x l).1.map tI) rfl (sd_ret (ed_var rfl))))⟩
  · obtain ⟨hl, hI⟩ := hI
    simp only [List.length_cons] at hl hI
    obtain ⟨t1, t2⟩ := takeR_ok st.2.2 (m := (st.2.1.length : Nat)) (by omega)
    obtain ⟨k, hk⟩ := Int.eq_ofNat_of_zero_le t1
    have hk2 : k < st.2.1.length := by omega
    have ek : (takeR st.2.2 st.2.1.length).toNat = k := by rw [hk]; rfl
    have est : turnM st i = (st.1 ++ [st.2.1.getD k []], st.2.1.eraseIdx k, takeB st.2.2 st.2.1.length) := by
      unfold turnM
      rw [ek]
    rw [est]
    refine ⟨⟨by simp [List.length_eraseIdx, hk2]; omega, by simp; omega⟩, _, _, _, tg_name (np_of rfl), sd_app (d := tI (st.2.1.getD k [])) (es := st.1.map tI) (ds := st.1.map tI) (p := false) (ed_pop (k := k) (es := st.2.1.map tI) (ds := st.2.1.map tI) (p := false)
      (EvD.to (ed_callB (i := 0) (p := true) (ds := bxD st.2.2) (es := bxD st.2.2) (as := [.d (.int (st.2.1.map tI).length)]) (ss := [.kn (.int (st.2.1.length : Nat))]) (ea_cons (ed_lenO rfl) ea_nil) rfl rfl (by rw [List.length_map]; exact .d .nil) (by simp [notOw]) (.mk st.2.2 (st.2.1.length : Nat) (by omega) (by omega))) (by rw [hk])) rfl rfl (by simp [List.getD_eq_getElem?_getD, hk2]) (by omega)) rfl rfl (by rw [List.length_map]; exact zs (by omega)), ?_⟩
    have e1 : (st.2.1.map tI).eraseIdx k = (st.2.1.eraseIdx k).map tI := map_erase' tI _ k
    simp only [inv]
    rw [List.map_append, ← e1]
    exact .same (.same (.same (.same (.drop (fun _ z => by cases z) .nil))))
end DW


set_option maxRecDepth 100000
set_option maxHeartbeats 1000000
namespace DW
open PySem PySem.Spec PyProof.Rows L2
/-! ### a list or a tuple, in and subscripts -/
def rInE (K : PySem.W.Frag) : R2 := fun x y H Q => rInD K x y H Q ∨ rInDT K x y H Q
theorem op_inEK {X : Cx} {K : PySem.W.Frag} (hu : X.A.units + 65 < cLine) (h : X.K = K := by rfl) : OpR X (compareOp .In) (rInE K) := by subst h; exact OpR.or (op_inD hu) (op_inDT hu)
def rIxE (K : PySem.W.Frag) : R2 := fun x y H Q => rIxL K x y H Q ∨ rIxT K x y H Q
theorem ix_eitherK {X : Cx} {K : PySem.W.Frag} (h : X.K = K := by rfl) : IxR X (rIxE K) := by
  subst h
  intro value slice pins s σ H x y v u Q I rx ry q hs
  rcases q with q | q
  · exact ix_list value slice pins s σ H x y v u Q I rx ry q hs
  · exact ix_tup value slice pins s σ H x y v u Q I rx ry q hs
section
variable {ρ ρ1 ρ2 : En} {ta tb te : TE} {ds es : List PyData} {d x y z : PyData} {l : Bool} {K : PySem.W.Frag} {m : Int}
theorem ed_inE (ha : EvD ta ρ x ρ1) (hb : EvD tb ρ1 y ρ2) (s : SqD l y ds) (hx : SeqAt.shaped x = true) (hy : SeqAt.shaped y = true) : EvD (tOp (rInE K) ta tb) ρ (.bool (ds.any fun z => PyData.eqv z x)) ρ2 := by
  cases s with
  | l ds =>
    have := ed_inL (K := K) ha hb hx hy
    exact fun Hk σ H a Q q => ha Hk σ H a _ fun u Hk1 H1 g1 r1 => hb Hk1 σ H1 g1.at' _ fun v Hk2 H2 g2 r2 => .inl ⟨x, ds, (r1.ex (g2.gr.kk.trans g2.at'.kh)).dp, (r2.ex g2.at'.kh).dp, hx, hy, q _ Hk2 H2 (g1.trans g2) (.bl _)⟩
  | t ds =>
    exact fun Hk σ H a Q q => ha Hk σ H a _ fun u Hk1 H1 g1 r1 => hb Hk1 σ H1 g1.at' _ fun v Hk2 H2 g2 r2 => .inr ⟨x, ds, (r1.ex (g2.gr.kk.trans g2.at'.kh)).dp, (r2.ex g2.at'.kh).dp, hx, hy, q _ Hk2 H2 (g1.trans g2) (.bl _)⟩
theorem ed_ixE (ha : EvD ta ρ x ρ1) (s : SqD l x ds) (hb : EvD tb ρ1 (.int m) ρ2) (h : L2.atI ds m = some d) : EvD (tOp (rIxE K) ta tb) ρ d ρ2 := by
  cases s with
  | l ds => exact fun Hk σ H a Q q => ha Hk σ H a _ fun u Hk1 H1 g1 r1 => hb Hk1 σ H1 g1.at' _ fun v Hk2 H2 g2 r2 => .inl (by
      cases r2
      cases r1 with
      | @lst p xs _ hp r =>
        obtain ⟨w, h1, h2⟩ := (r.ex g2.gr.kk).atI h
        exact ⟨p, xs, m, w, rfl, rfl, .of (g2.at'.kh _ _ (g2.gr.kk _ _ hp)), h1, q w Hk2 H2 (g1.trans g2) h2⟩)
  | t ds => exact fun Hk σ H a Q q => ha Hk σ H a _ fun u Hk1 H1 g1 r1 => hb Hk1 σ H1 g1.at' _ fun v Hk2 H2 g2 r2 => .inr (by
      cases r2
      cases r1 with
      | @tup p xs _ hp r =>
        obtain ⟨w, h1, h2⟩ := (r.ex g2.gr.kk).atI h
        exact ⟨p, xs, m, w, rfl, rfl, .of (g2.at'.kh _ _ (g2.gr.kk _ _ hp)), h1, q w Hk2 H2 (g1.trans g2) h2⟩)
theorem en_listS (h : EvD te ρ x ρ1) (s : SqD l x ds) : EvN (tCB (rListOf K) (tCons te tNil)) ρ ds ρ1 := by
  cases s with
  | l ds => exact en_listL h
  | t ds => exact en_listT h
theorem shpS {r : List Int} (s : SqD l x (r.map .int)) : SeqAt.shaped x = true := by
  cases s
  · exact shp_L r
  · exact shp_tI r
theorem shpRS {r : List (List Int)} (s : SqD l x (r.map tI)) : SeqAt.shaped x = true := by
  cases s
  · exact shp_rowsL r
  · exact shp_rows r
end
end DW

set_option maxRecDepth 100000
set_option maxHeartbeats 1000000
namespace DW
open PySem PySem.Spec PyProof.Rows L2
/-! ### the law's own lots, rows, kinds, places -/
inductive R__law_lots : List Sl → PyData → Prop
  | mk (ps : List Int) (h : ps.length ≤ 3) : R__law_lots [.kn (.list (ps.map .int))] (.list (((lotsF ps).drop 1).map tI))
abbrev st__law_lots : Stmt := topS 47
abbrev N__law_lots : List Str := ["_law_places", "_law_found", "_law_place", "_law_lot"]
theorem sc__law_lots : FnScope N__law_lots ["_law_places"] (defScope st__law_lots) := ⟨rfl, rfl, rfl, by decide +kernel, rfl, by decide +kernel, by decide +kernel⟩
theorem cl__law_lots {P : Program} {w : World} {K : PySem.W.Frag} {mg : Str → Option Value} {base : Heap} (T : Nm mg) (D : Dn K mg "_law_lots" st__law_lots ["_law_places"]) : Cl P w K mg base 1 "_law_lots" (spP R__law_lots) := by
  refine cl_of D sc__law_lots (by rintro _ _ ⟨⟩; rfl) fun f cdv A outer s H E hr => ⟨_, (pss_cons (ps_set (i := 1) sc__law_lots.nd rfl (by first | exact Or.inl rfl | exact Or.inr rfl) (pe_lst (pa_cons (pe_tup pa_nil) pa_nil)))
    (pss_cons (ps_for PassesOwn.never rfl (pi_list (pv 0)) (pg_name (i := 2) sc__law_lots.nd rfl (by first | exact Or.inl rfl | exact Or.inr rfl))
      (pss_one (ps_set (i := 1) sc__law_lots.nd rfl (by first | exact Or.inl rfl | exact Or.inr rfl) (pe_op op_cat (pv 1) (pe_lc (own := [("_law_lot", 3)]) (g := (gName 3)) (tt := _) rfl sc__law_lots.nd (pi_list (pv 1)) (blkOk_by (N := N__law_lots) (sc := defScope st__law_lots) (by decide +kernel)) (fun _ _ _ _ _ => (pg_name (i := 3) sc__law_lots.nd rfl (by first | exact Or.inl rfl | exact Or.inr rfl))) (fun _ _ _ _ _ => pts_nil) (fun _ _ _ _ _ => (pe_op (op_catAK (K := K)) (pv 3) (pe_tup (pa_cons (pv 2) pa_nil)))))))))
    (pss_one (ps_ret (pe_slice sl_list (pv 1) (po_some pe_int) po_none))))), ?_⟩
  rintro _ _ ⟨ps, h⟩ -
  let inv : List (List Int) → En := fun acc => [some (.kn (.list (ps.map .int))), some (.kn (.list (acc.map tI))), none, none]
  refine ⟨_, sd_seq (sd_asg (i := 1) (en_lst (ds := [tI []]) (ea_cons (ed_tup (ds := []) ea_nil (Nat.zero_le _)) ea_nil) (by show 1 ≤ sizeLine; decide)).kn (np_of rfl))
    (sd_seq (for_acc (γ := List (List Int)) (enc := .int) (bs := ps) (c := [[]]) (inv := inv) (step := fun acc p => acc ++ acc.map fun l => l ++ [p])
      (I := fun rest acc => acc.length * 2 ^ rest.length ≤ 8 ∧ ∀ l ∈ acc, l.length + rest.length ≤ 3) (EvI.to (ei_list (ed_var rfl)) rfl) ?_ fun acc p rest hp hI => ⟨?_, _, _, _, tg_name (np_of rfl),
        sd_asg (i := 1) (EvD.to (en_cat (ds := acc.map tI) (es := (acc.map fun l => l ++ [p]).map tI) (ed_var rfl) (EvN.to (en_mapT (enc := tI) (bs := acc) (f := fun l => tI (l ++ [p])) (ei_list (ed_var rfl)) (fun l hl => EvD.to (ed_catT (ed_var rfl) (ed_tup (ds := [.int p]) (ea_cons (ed_var rfl) ea_nil) (by show 1 ≤ sizeLine; decide)) ?_) ?_) (NoOw.of rfl) ?_) ?_).kn ?_).kn rfl) (np_kn rfl), ?_⟩)
      (sd_ret (EvD.to (en_slL (lo := some 1) (hi := none) (ds := (lotsF ps).map tI) (ed_var rfl) (ep_int ed_c_int) ep_no).kn ?_)))⟩
  · refine ⟨?_, fun l hl => ?_⟩
    · have : 2 ^ ps.length ≤ 2 ^ 3 := Nat.pow_le_pow_right (by decide) h
      simpa using this
    · rw [List.mem_singleton.mp hl]
      simpa using h
  · refine ⟨?_, fun l hl => ?_⟩
    · have := hI.1
      rw [List.length_cons, Nat.pow_succ] at this
      rw [List.length_append, List.length_map, ← Nat.two_mul]
      rw [Nat.mul_comm 2, Nat.mul_assoc, Nat.mul_comm 2]
      exact this
    · rcases List.mem_append.mp hl with q | q
      · have := hI.2 l q
        simp only [List.length_cons] at this
        omega
      · obtain ⟨k, hk, rfl⟩ := List.mem_map.mp q
        have := hI.2 k hk
        simp only [List.length_cons, List.length_append, List.length_nil] at this ⊢
        omega
  · have := hI.2 l hl
    simp only [List.length_cons, List.length_map, List.length_nil] at this ⊢
    exact zs' (by omega)
  · simp [tI]
  · have := hI.1
    have h2 : 1 ≤ 2 ^ (p :: rest).length := Nat.one_le_two_pow
    have : acc.length ≤ 8 := Nat.le_trans (Nat.le_mul_of_pos_right _ h2) this
    exact zs (by omega)
  · rw [List.map_map]
    rfl
  · have := hI.1
    have h2 : 1 ≤ 2 ^ (p :: rest).length := Nat.one_le_two_pow
    have : acc.length ≤ 8 := Nat.le_trans (Nat.le_mul_of_pos_right _ h2) this
    simp only [List.length_map]
    exact zs' (by omega)
  · simp only [inv]
    rw [List.map_append]
    exact .same (.same (.drop (fun _ z => by cases z) (.same .nil)))
  · rw [cut_1, ← List.map_drop]
def lawSet (one other lot : List Int) : List Int := (List.range one.length).map fun k : Nat => if ((k : Nat) : Int) ∈ lot then other.getD k 0 else one.getD k 0
inductive R__law_set : List Sl → PyData → Prop
  | mk (l : Bool) (x : PyData) (one other lot : List Int) (s : SqD l x (lot.map .int)) (h : one.length ≤ other.length) (h3 : one.length ≤ 3) : R__law_set [.kn (tI one), .kn (tI other), .kn x] (tI (lawSet one other lot))
abbrev st__law_set : Stmt := topS 48
abbrev N__law_set : List Str := ["_law_one", "_law_other", "_law_lot", "_law_at_here"]
theorem sc__law_set : FnScope N__law_set ["_law_one", "_law_other", "_law_lot"] (defScope st__law_set) := ⟨rfl, rfl, rfl, by decide +kernel, rfl, by decide +kernel, by decide +kernel⟩
theorem cl__law_set {P : Program} {w : World} {K : PySem.W.Frag} {mg : Str → Option Value} {base : Heap} (T : Nm mg) (D : Dn K mg "_law_set" st__law_set ["_law_one", "_law_other", "_law_lot"]) : Cl P w K mg base 1 "_law_set" (spP R__law_set) := by
  refine cl_of D sc__law_set (by rintro _ _ ⟨⟩; rfl) fun f cdv A outer s H E hr => ⟨_, (pss_one (ps_ret (pe_callTy cr_tuple (by rfl) T.tuple bt_tuple (pa_cons (pe_lc (own := [("_law_at_here", 3)]) (g := (gName 3)) (tt := _) rfl sc__law_set.nd (pi_range1 (by rfl) T.range (pa_cons (pe_callB cr_len (by rfl) T.len bt_len (pa_cons (pv 0) pa_nil)) pa_nil)) (blkOk_by (N := N__law_set) (sc := defScope st__law_set) (by decide +kernel)) (fun _ _ _ _ _ => (pg_name (i := 3) sc__law_set.nd rfl (by first | exact Or.inl rfl | exact Or.inr rfl))) (fun _ _ _ _ _ => pts_nil) (fun _ _ _ _ _ => (pe_ifExp (pt_cmpR (op_inEK (K := K) (Room.un65 hr)) (pv 3) (pv 2) (by rfl)) (pe_ix (ix_tupK (K := K)) (pv 1) (pv 3) (fun _ _ => rfl)) (pe_ix (ix_tupK (K := K)) (pv 0) (pv 3) (fun _ _ => rfl))))) pa_nil)))), ?_⟩
  rintro _ _ ⟨l, x, one, other, lot, s, h, h3⟩ -
  refine ⟨_, sd_ret (EvD.to (ed_tupL (en_mapT (enc := fun k : Nat => .int (k : Nat)) (bs := List.range one.length) (f := fun k : Nat => .int (if ((k : Nat) : Int) ∈ lot then other.getD k 0 else one.getD k 0)) (EvI.to (ei_range (ed_lenT (ds := one.map .int) (ed_var rfl)) (by rw [List.length_map]; omega) (by rw [List.length_map]; omega)) (by rw [List.length_map]; rfl)) (fun k hk => ?_) (NoOw.of rfl) ?_).kn) ?_)⟩
  · have hk := List.mem_range.mp hk
    refine ed_if (b := decide (((k : Nat) : Int) ∈ lot)) (EvB.to (eb_test (ed_inE (ed_var rfl) (ed_var rfl) s (shp_int _) (shpS s))) (any_ints _ _)) (fun z => ?_) (fun z => ?_)
    · rw [if_pos (of_decide_eq_true z)]
      exact ed_ixT (ed_var rfl) (ed_var rfl) (atI_getD (Nat.lt_of_lt_of_le hk h))
    · rw [if_neg (of_decide_eq_false z)]
      exact ed_ixT (ed_var rfl) (ed_var rfl) (atI_getD hk)
  · rw [List.length_range]
    exact zs (by omega)
  · unfold lawSet tI
    rw [List.map_map]
    rfl
def lawKinds (cols : List Int) : List (List Int) := (List.range cols.length).foldl (fun acc c => (List.range (cols.getD c 0).toNat).foldl (fun acc o => acc ++ kindsAt c (cols.getD c 0) o) acc) []
inductive R__law_kinds : List Sl → PyData → Prop
  | mk (l : Bool) (x : PyData) (cols : List Int) (s : SqD l x (cols.map .int)) (h : okCols cols) : R__law_kinds [.kn x] (.list ((lawKinds cols).map tI))
abbrev st__law_kinds : Stmt := topS 49
abbrev N__law_kinds : List Str := ["_law_columns", "_law_found", "_law_column", "_law_old", "_law_new"]
theorem sc__law_kinds : FnScope N__law_kinds ["_law_columns"] (defScope st__law_kinds) := ⟨rfl, rfl, rfl, by decide +kernel, rfl, by decide +kernel, by decide +kernel⟩
theorem cl__law_kinds {P : Program} {w : World} {K : PySem.W.Frag} {mg : Str → Option Value} {base : Heap} (T : Nm mg) (D : Dn K mg "_law_kinds" st__law_kinds ["_law_columns"]) : Cl P w K mg base 1 "_law_kinds" (spP R__law_kinds) := by
  refine cl_of D sc__law_kinds (by rintro _ _ ⟨⟩; rfl) fun f cdv A outer s H E hr => ⟨_, (pss_cons (ps_set (i := 1) sc__law_kinds.nd rfl (by first | exact Or.inl rfl | exact Or.inr rfl) (pe_lst pa_nil))
    (pss_cons (ps_for PassesOwn.never rfl (pi_range1 (by rfl) T.range (pa_cons (pe_callB cr_len (by rfl) T.len bt_len (pa_cons (pv 0) pa_nil)) pa_nil)) (pg_name (i := 2) sc__law_kinds.nd rfl (by first | exact Or.inl rfl | exact Or.inr rfl))
      (pss_one (ps_for PassesOwn.never rfl (pi_range1 (by rfl) T.range (pa_cons (pe_ix (ix_eitherK (K := K)) (pv 0) (pv 2) (fun _ _ => rfl)) pa_nil)) (pg_name (i := 3) sc__law_kinds.nd rfl (by first | exact Or.inl rfl | exact Or.inr rfl))
        (pss_one (ps_set (i := 1) sc__law_kinds.nd rfl (by first | exact Or.inl rfl | exact Or.inr rfl) (pe_op op_cat (pv 1) (pe_lc (own := [("_law_new", 4)]) (g := (gName 4)) (tt := _) rfl sc__law_kinds.nd (pi_range1 (by rfl) T.range (pa_cons (pe_ix (ix_eitherK (K := K)) (pv 0) (pv 2) (fun _ _ => rfl)) pa_nil)) (blkOk_by (N := N__law_kinds) (sc := defScope st__law_kinds) (by decide +kernel)) (fun _ _ _ _ _ => (pg_name (i := 4) sc__law_kinds.nd rfl (by first | exact Or.inl rfl | exact Or.inr rfl))) (fun _ _ _ _ _ => (pts_one (pt_cmpR op_ne (pv 4) (pv 3) (nomark _)))) (fun _ _ _ _ _ => (pe_tup (pa_cons (pv 2) (pa_cons (pv 3) (pa_cons (pv 4) pa_nil))))))))))))
    (pss_one (ps_ret (pv 1))))), ?_⟩
  rintro _ _ ⟨l, x, cols, s, h1, h2, h3⟩ -
  let inv : List (List Int) → En := fun acc => [some (.kn x), some (.kn (.list (acc.map tI))), none, none, none]
  let inv2 : Nat → List (List Int) → En := fun c acc => [some (.kn x), some (.kn (.list (acc.map tI))), some (.kn (.int (c : Nat))), none, none]
  have ok : ∀ c ∈ List.range cols.length, 1 ≤ cols.getD c 0 ∧ cols.getD c 0 ≤ 4 := fun c hc => by
    have hc := List.mem_range.mp hc
    have : cols[c]? = some (cols.getD c 0) := by simp [List.getD_eq_getElem?_getD, hc]
    exact h3 _ (List.mem_of_getElem? this)
  have ix : ∀ c ∈ List.range cols.length, ∀ ρ : En, ρ[0]? = some (some (.kn x)) → ρ[2]? = some (some (.kn (.int (c : Nat)))) → EvD (tOp (rIxE K) (tVar 0) (tVar 2)) ρ (.int (cols.getD c 0)) ρ := fun c hc ρ e0 e2 => ed_ixE (ed_var e0) s (ed_var e2) (atI_getD (List.mem_range.mp hc))
  refine ⟨_, sd_seq (sd_asg (i := 1) (en_lst (ds := []) ea_nil (Nat.zero_le _)).kn (np_of rfl)) (sd_seq (for_acc (γ := List (List Int)) (enc := fun c : Nat => .int (c : Nat)) (bs := List.range cols.length) (c := [])
      (inv := inv) (step := fun acc c => (List.range (cols.getD c 0).toNat).foldl (fun acc o => acc ++ kindsAt c (cols.getD c 0) o) acc)
      (I := fun rest acc => acc.length + rest.length * 16 ≤ 64) (EvI.to (ei_range (ed_lenS (ed_var rfl) s) (by rw [List.length_map]; omega) (by rw [List.length_map]; omega)) (by rw [List.length_map]; rfl)) ?_ fun acc c rest hc hI => ⟨?_, _, _, _, tg_name (np_of rfl),
        for_acc (γ := List (List Int)) (enc := fun o : Nat => .int (o : Nat)) (bs := List.range (cols.getD c 0).toNat) (c := acc) (inv := inv2 c)
          (step := fun acc o => acc ++ kindsAt c (cols.getD c 0) o) (I := fun rest acc => acc.length + rest.length * 4 ≤ 64) (EvI.to (ei_range (ix c hc _ rfl rfl) (by have := ok c hc; omega) (by have := ok c hc; omega)) rfl) ?_ fun acc o rest ho hI => ⟨?_, _, _, _, tg_name (np_of rfl),
            sd_asg (i := 1) (EvD.to (en_cat (ds := acc.map tI) (es := (kindsAt c (cols.getD c 0) o).map tI) (ed_var rfl) (EvD.to (en_filterT (enc := fun n : Nat => .int (n : Nat)) (bs := List.range (cols.getD c 0).toNat) (p := fun n : Nat => !decide ((n : Int) = (o : Int))) (f := fun n : Nat => tI [(c : Int), (o : Int), (n : Int)]) (EvI.to (ei_range (ix c hc _ rfl rfl) (by have := ok c hc; omega) (by have := ok c hc; omega)) rfl)
              (fun n hn => eb_test (ed_neI (ed_var rfl) (ed_var rfl))) (fun n hn _ => ed_tup (ds := [.int (c : Nat), .int (o : Nat), .int (n : Nat)]) (ea_cons (ed_var rfl) (ea_cons (ed_var rfl) (ea_cons (ed_var rfl) ea_nil))) (by show 3 ≤ sizeLine; decide)) (NoOw.of rfl) ?_).kn ?_) ?_).kn rfl) (np_kn rfl), ?_⟩, ?_⟩)
      (sd_ret (ed_var rfl)))⟩
  · simp
    omega
  · have hm := ok c hc
    have := fold_len (kindsAt c (cols.getD c 0)) (List.range (cols.getD c 0).toNat) acc (k := 4) fun o _ => Nat.le_trans (kindsAt_len _ _ _) (by omega)
    simp only [List.length_cons, List.length_range] at this hI
    omega
  · have hm := ok c hc
    simp only [List.length_cons, List.length_range] at hI ⊢
    omega
  · have hm := ok c hc
    have := kindsAt_len c (cols.getD c 0) o
    simp only [List.length_cons, List.length_append] at hI ⊢
    omega
  · have hm := ok c hc
    rw [List.length_range]
    exact zs (by omega)
  · unfold kindsAt
    rw [List.map_map]
    rfl
  · have hm := ok c hc
    have := kindsAt_len c (cols.getD c 0) o
    simp only [List.length_cons, List.length_map] at hI ⊢
    exact zs' (by omega)
  · simp only [inv2]
    rw [List.map_append]
    exact .same (.same (.same (.drop (fun _ z => by cases z) (.same .nil))))
  · exact .same (.same (.drop (fun _ z => by cases z) (.same (.same .nil))))
end DW


set_option maxRecDepth 100000
set_option maxHeartbeats 1000000
namespace DW
open PySem PySem.Spec PyProof.Rows L2
def lawAt (ps one other kind : List Int) : List Int := ((List.range ps.length).filter fun k : Nat => decide ([ps.getD k 0, one.getD k 0, other.getD k 0] = kind)).map fun k : Nat => (k : Int)
theorem lawAt_len (ps one other kind : List Int) : (lawAt ps one other kind).length ≤ ps.length := by
  unfold lawAt
  rw [List.length_map]
  exact Nat.le_trans (List.length_filter_le _ _) (by simp)
inductive R__law_at : List Sl → PyData → Prop
  | mk (ps one other kind : List Int) (h1 : ps.length ≤ one.length) (h2 : ps.length ≤ other.length) (h3 : ps.length ≤ 3) : R__law_at [.kn (tI ps), .kn (tI one), .kn (tI other), .kn (tI kind)] (.list ((lawAt ps one other kind).map .int))
abbrev st__law_at : Stmt := topS 50
abbrev N__law_at : List Str := ["_law_places", "_law_one", "_law_other", "_law_kind", "_law_at_here"]
theorem sc__law_at : FnScope N__law_at ["_law_places", "_law_one", "_law_other", "_law_kind"] (defScope st__law_at) := ⟨rfl, rfl, rfl, by decide +kernel, rfl, by decide +kernel, by decide +kernel⟩
theorem cl__law_at {P : Program} {w : World} {K : PySem.W.Frag} {mg : Str → Option Value} {base : Heap} (T : Nm mg) (D : Dn K mg "_law_at" st__law_at ["_law_places", "_law_one", "_law_other", "_law_kind"]) : Cl P w K mg base 1 "_law_at" (spP R__law_at) := by
  refine cl_of D sc__law_at (by rintro _ _ ⟨⟩; rfl) fun f cdv A outer s H E hr => ⟨_, (pss_one (ps_ret (pe_lc (own := [("_law_at_here", 4)]) (g := (gName 4)) (tt := _) rfl sc__law_at.nd (pi_range1 (by rfl) T.range (pa_cons (pe_callB cr_len (by rfl) T.len bt_len (pa_cons (pv 0) pa_nil)) pa_nil)) (blkOk_by (N := N__law_at) (sc := defScope st__law_at) (by decide +kernel)) (fun _ _ _ _ _ => (pg_name (i := 4) sc__law_at.nd rfl (by first | exact Or.inl rfl | exact Or.inr rfl))) (fun _ _ _ _ _ => (pts_one (pt_cmpR (op_eqDK (K := K) hr.units) (pe_tup (pa_cons (pe_ix (ix_tupK (K := K)) (pv 0) (pv 4) (fun _ _ => rfl)) (pa_cons (pe_ix (ix_tupK (K := K)) (pv 1) (pv 4) (fun _ _ => rfl)) (pa_cons (pe_ix (ix_tupK (K := K)) (pv 2) (pv 4) (fun _ _ => rfl)) pa_nil)))) (pv 3) (nomark _)))) (fun _ _ _ _ _ => (pv 4))))), ?_⟩
  rintro _ _ ⟨ps, one, other, kind, h1, h2, h3⟩ -
  refine ⟨_, sd_ret (EvD.to (en_filterT (enc := fun k : Nat => .int (k : Nat)) (bs := List.range ps.length) (p := fun k : Nat => decide ([ps.getD k 0, one.getD k 0, other.getD k 0] = kind)) (f := fun k : Nat => .int (k : Nat)) (EvI.to (ei_range (ed_lenT (ds := ps.map .int) (ed_var rfl)) (by rw [List.length_map]; omega) (by rw [List.length_map]; omega)) (by rw [List.length_map]; rfl))
    (fun k hk => EvB.to (eb_test (ed_eqD (ed_tup (ds := [.int (ps.getD k 0), .int (one.getD k 0), .int (other.getD k 0)]) (ea_cons (ed_ixT (ed_var rfl) (ed_var rfl) (atI_getD (List.mem_range.mp hk))) (ea_cons (ed_ixT (ed_var rfl) (ed_var rfl) (atI_getD (Nat.lt_of_lt_of_le (List.mem_range.mp hk) h1))) (ea_cons (ed_ixT (ed_var rfl) (ed_var rfl) (atI_getD (Nat.lt_of_lt_of_le (List.mem_range.mp hk) h2))) ea_nil))) (by show 3 ≤ sizeLine; decide)) (ed_var rfl) (shp_tI [ps.getD k 0, one.getD k 0, other.getD k 0]) (shp_tI kind))) (eqv_tI [ps.getD k 0, one.getD k 0, other.getD k 0] kind))
    (fun k hk _ => ed_var rfl) (NoOw.of rfl) ?_).kn ?_)⟩
  · rw [List.length_range]
    exact zs (by omega)
  · unfold lawAt
    rw [List.map_map]
    rfl
def lawUnlike (ps one other : List Int) : List (List Int) := (zipI ps one other).filter fun e => !decide (e.getD 1 0 = e.getD 2 0)
theorem zip3_trip (ps one other : List Int) : tripD ((ps.map PyData.int).zip ((one.map .int).zip (other.map .int))) = (ps.zip (one.zip other)).map fun q => .tuple [.int q.1, .int q.2.1, .int q.2.2] := by
  unfold tripD
  rw [List.zip_map, List.zip_map, List.map_map]
  rfl
theorem en_filter3T {β : Type} {K : PySem.W.Frag} {wi : TI} {tt : TT} {te : TE} {ρ : En} {bs : List β} {p : β → Bool} {f : β → PyData} {j k m : Nat} {e1 e2 e3 : β → PyData} (hjk : j ≠ k) (hjm : j ≠ m) (hkm : k ≠ m) (hi : EvI wi ρ (bs.map fun q => .tuple [e1 q, e2 q, e3 q]) ρ)
    (ht : ∀ q ∈ bs, EvB tt (((ρ.set j (some (.kn (e1 q)))).set k (some (.kn (e2 q)))).set m (some (.kn (e3 q)))) (p q) (((ρ.set j (some (.kn (e1 q)))).set k (some (.kn (e2 q)))).set m (some (.kn (e3 q)))))
    (he : ∀ q ∈ bs, p q = true → EvD te (((ρ.set j (some (.kn (e1 q)))).set k (some (.kn (e2 q)))).set m (some (.kn (e3 q)))) (f q) (((ρ.set j (some (.kn (e1 q)))).set k (some (.kn (e2 q)))).set m (some (.kn (e3 q)))))
    (h1 : NoOw ρ j) (h2 : NoOw ρ k) (h3 : NoOw ρ m) (hz : bs.length < sizeLine) : EvN (tLc wi (gTup K 3 (gCons (gName j) (gCons (gName k) (gCons (gName m) gNil)))) tt te [j, k, m]) ρ ((bs.filter p).map f) ρ := by
  refine en_pureT (enc := fun q => .tuple [e1 q, e2 q, e3 q]) (A := fun q => ((ρ.set j (some (.kn (e1 q)))).set k (some (.kn (e2 q)))).set m (some (.kn (e3 q)))) hi (fun q hq => ?_) (fun i hi => ?_) hz
  · refine ⟨[j, k, m], ?_, fun i h => h, ht q hq, fun z => he q hq z, set_wipe3⟩
    have := tg_three (K := K) (ρ := wipeE ρ [j, k, m]) (d := e1 q) (e := e2 q) (f := e3 q) (j := j) (k := k) (m := m) (not_pin (noow_wipes (by simp))) (not_pin (noow_set (noow_wipes (by simp)) (fun _ _ z => by cases z))) (not_pin (noow_set (noow_set (noow_wipes (by simp)) (fun _ _ z => by cases z)) (fun _ _ z => by cases z)))
    rw [wipe_set3 hjk hjm hkm] at this
    exact this
  · simp only [List.mem_cons, List.not_mem_nil, or_false] at hi
    rcases hi with rfl | rfl | rfl
    · exact h1
    · exact h2
    · exact h3
inductive R__law_unlike : List Sl → PyData → Prop
  | mk (ps one other : List Int) (h3 : ps.length ≤ 3) : R__law_unlike [.kn (tI ps), .kn (tI one), .kn (tI other)] (.list ((lawUnlike ps one other).map tI))
abbrev st__law_unlike : Stmt := topS 51
abbrev N__law_unlike : List Str := ["_law_places", "_law_one", "_law_other", "_law_place", "_law_old", "_law_new"]
theorem sc__law_unlike : FnScope N__law_unlike ["_law_places", "_law_one", "_law_other"] (defScope st__law_unlike) := ⟨rfl, rfl, rfl, by decide +kernel, rfl, by decide +kernel, by decide +kernel⟩
theorem cl__law_unlike {P : Program} {w : World} {K : PySem.W.Frag} {mg : Str → Option Value} {base : Heap} (T : Nm mg) (D : Dn K mg "_law_unlike" st__law_unlike ["_law_places", "_law_one", "_law_other"]) : Cl P w K mg base 1 "_law_unlike" (spP R__law_unlike) := by
  refine cl_of D sc__law_unlike (by rintro _ _ ⟨⟩; rfl) fun f cdv A outer s H E hr => ⟨_, (pss_one (ps_ret (pe_lc (own := [("_law_place", 3), ("_law_old", 4), ("_law_new", 5)]) (g := (gTup _ 3 (gCons (gName 3) (gCons (gName 4) (gCons (gName 5) gNil))))) (tt := _) rfl sc__law_unlike.nd (KX.pi_zip3 (by rfl) T.zip (pa_cons (pv 0) (pa_cons (pv 1) (pa_cons (pv 2) pa_nil)))) (blkOk_by (N := N__law_unlike) (sc := defScope st__law_unlike) (by decide +kernel)) (fun _ _ _ _ _ => (pg_tup rfl (pgs_cons (pg_name (i := 3) sc__law_unlike.nd rfl (by first | exact Or.inl rfl | exact Or.inr rfl)) (pgs_cons (pg_name (i := 4) sc__law_unlike.nd rfl (by first | exact Or.inl rfl | exact Or.inr rfl)) (pgs_cons (pg_name (i := 5) sc__law_unlike.nd rfl (by first | exact Or.inl rfl | exact Or.inr rfl)) pgs_nil))))) (fun _ _ _ _ _ => (pts_one (pt_cmpR op_ne (pv 4) (pv 5) (nomark _)))) (fun _ _ _ _ _ => (pe_tup (pa_cons (pv 3) (pa_cons (pv 4) (pa_cons (pv 5) pa_nil)))))))), ?_⟩
  rintro _ _ ⟨ps, one, other, h3⟩ -
  refine ⟨_, sd_ret (EvD.to (en_filter3T (bs := ps.zip (one.zip other)) (e1 := fun q => .int q.1) (e2 := fun q => .int q.2.1) (e3 := fun q => .int q.2.2) (p := fun q => !decide (q.2.1 = q.2.2)) (f := fun q => tI [q.1, q.2.1, q.2.2]) (by decide) (by decide) (by decide) (EvI.to (ei_zip3 (ea_cons (ed_var rfl) (ea_cons (ed_var rfl) (ea_cons (ed_var rfl) ea_nil))) (.t _) (.t _) (.t _)) (zip3_trip ps one other))
    (fun q hq => eb_test (ed_neI (ed_var rfl) (ed_var rfl))) (fun q hq _ => ed_tup (ds := [.int q.1, .int q.2.1, .int q.2.2]) (ea_cons (ed_var rfl) (ea_cons (ed_var rfl) (ea_cons (ed_var rfl) ea_nil))) (by show 3 ≤ sizeLine; decide)) (NoOw.of rfl) (NoOw.of rfl) (NoOw.of rfl) ?_).kn ?_)⟩
  · rw [List.length_zip]
    exact zs (by omega)
  · unfold lawUnlike zipI
    rw [List.filter_map, List.map_map]
    rfl
/-! ### can a kind go first -/
def letIn (ps one other : List Int) (left : List (List Int)) : Bool := ((lawUnlike ps one other).map fun e => decide (e ∈ left)).all id
def letL (c : Ck) (one other : List Int) (_ : Unit) (lot : List Int) : Except PyData Unit := if lawSet one other lot ∈ c.2 then .ok () else .error (.bool false)
def letO (c : Ck) (left : List (List Int)) (kind one : List Int) (_ : Unit) (other : List Int) : Except PyData Unit := if letIn c.1 one other left = true then goOn (letL c one other) ((lotsF (lawAt c.1 one other kind)).drop 1) () else .ok ()
def letE (cks : List Ck) (left : List (List Int)) (kind : List Int) : Except PyData Unit := goOn (fun _ c => goOn (fun _ one => goOn (letO c left kind one) c.2 ()) c.2 ()) cks ()
def resB : Except PyData Unit → PyData
  | .ok _ => .bool true
  | .error d => d
inductive R__law_let : List Sl → PyData → Prop
  | mk (cks : List Ck) (left : List (List Int)) (kind : List Int) (h : ∀ c ∈ cks, rowsOk c) (h4 : left.length ≤ 100) : R__law_let [.kn (.tuple (cks.map ckD)), .kn (.list (left.map tI)), .kn (tI kind)] (resB (letE cks left kind))
abbrev st__law_let : Stmt := topS 52
abbrev N__law_let : List Str := ["_law_checks", "_law_left", "_law_kind", "_law_places", "_law_rows", "_law_one", "_law_other", "_law_own", "_law_lot"]
theorem sc__law_let : FnScope N__law_let ["_law_checks", "_law_left", "_law_kind"] (defScope st__law_let) := ⟨rfl, rfl, rfl, by decide +kernel, rfl, by decide +kernel, by decide +kernel⟩
theorem cl__law_let {P : Program} {w : World} {K : PySem.W.Frag} {mg : Str → Option Value} {base : Heap} (T : Nm mg) (D : Dn K mg "_law_let" st__law_let ["_law_checks", "_law_left", "_law_kind"]) (c__law_unlike : Cl P w K mg base 1 "_law_unlike" (spP R__law_unlike)) (c__law_lots : Cl P w K mg base 1 "_law_lots" (spP R__law_lots)) (c__law_at : Cl P w K mg base 1 "_law_at" (spP R__law_at)) (c__law_set : Cl P w K mg base 1 "_law_set" (spP R__law_set)) : Cl P w K mg base 2 "_law_let" (spP R__law_let) := by
  refine cl_of D sc__law_let (by rintro _ _ ⟨⟩; rfl) fun f cdv A outer s H E hr => ⟨_, (pss_cons (ps_for PassesOwn.never rfl (pi_tup (pv 0)) (pg_tup rfl (pgs_cons (pg_name (i := 3) sc__law_let.nd rfl (by first | exact Or.inl rfl | exact Or.inr rfl)) (pgs_cons (pg_name (i := 4) sc__law_let.nd rfl (by first | exact Or.inl rfl | exact Or.inr rfl)) pgs_nil)))
      (pss_one (ps_for PassesOwn.never rfl (pi_tup (pv 4)) (pg_name (i := 5) sc__law_let.nd rfl (by first | exact Or.inl rfl | exact Or.inr rfl))
        (pss_one (ps_for PassesOwn.never rfl (pi_tup (pv 4)) (pg_name (i := 6) sc__law_let.nd rfl (by first | exact Or.inl rfl | exact Or.inr rfl))
          (pss_one (ps_if (pt_val (pe_callB (cr_all rfl) (by rfl) T.all bt_all (pa_cons (pe_lc (own := [("_law_own", 7)]) (g := (gName 7)) (tt := _) rfl sc__law_let.nd (pi_list (pe_cl c__law_unlike hr (by decide) (by rfl) (pa_cons (pv 3) (pa_cons (pv 5) (pa_cons (pv 6) pa_nil))))) (blkOk_by (N := N__law_let) (sc := defScope st__law_let) (by decide +kernel)) (fun _ _ _ _ _ => (pg_name (i := 7) sc__law_let.nd rfl (by first | exact Or.inl rfl | exact Or.inr rfl))) (fun _ _ _ _ _ => pts_nil) (fun _ _ _ _ _ => (pe_cmpR (op_inDK (K := K) (Room.un65 hr)) (pv 7) (pv 1) (by rfl)))) pa_nil)))
            (pss_one (ps_for PassesOwn.never rfl (pi_list (pe_cl c__law_lots hr (by decide) (by rfl) (pa_cons (pe_cl c__law_at hr (by decide) (by rfl) (pa_cons (pv 3) (pa_cons (pv 5) (pa_cons (pv 6) (pa_cons (pv 2) pa_nil))))) pa_nil))) (pg_name (i := 8) sc__law_let.nd rfl (by first | exact Or.inl rfl | exact Or.inr rfl))
              (pss_one (ps_if (pt_cmpR (op_notInDT (Room.un65 hr)) (pe_cl c__law_set hr (by decide) (by rfl) (pa_cons (pv 5) (pa_cons (pv 6) (pa_cons (pv 8) pa_nil)))) (pv 4) (by rfl))
                (pss_one (ps_ret pe_bl))
                pss_nil))))
            pss_nil)))))))
    (pss_one (ps_ret pe_bl))), ?_⟩
  rintro _ _ ⟨cks, left, kind, h, h4⟩ -
  have zl : ∀ c ∈ cks, ∀ one ∈ c.2, ∀ other ∈ c.2, ((zipI c.1 one other).length ≤ 3) := fun c hc one ho other hot => by
    unfold zipI
    rw [List.length_map, List.length_zip]
    have := (h c hc).2.1
    omega
  let inv0 : Unit → En := fun _ => [some (.kn (.tuple (cks.map ckD))), some (.kn (.list (left.map tI))), some (.kn (tI kind)), none, none, none, none, none, none]
  let inv1 : Ck → Unit → En := fun c _ => [some (.kn (.tuple (cks.map ckD))), some (.kn (.list (left.map tI))), some (.kn (tI kind)), some (.kn (tI c.1)), some (.kn (tR c.2)), none, none, none, none]
  let inv2 : Ck → List Int → Unit → En := fun c one _ => [some (.kn (.tuple (cks.map ckD))), some (.kn (.list (left.map tI))), some (.kn (tI kind)), some (.kn (tI c.1)), some (.kn (tR c.2)), some (.kn (tI one)), none, none, none]
  let inv3 : Ck → List Int → List Int → Unit → En := fun c one other _ => [some (.kn (.tuple (cks.map ckD))), some (.kn (.list (left.map tI))), some (.kn (tI kind)), some (.kn (tI c.1)), some (.kn (tR c.2)), some (.kn (tI one)), some (.kn (tI other)), none, none]
  let wu : TI := iList K (tCall (spP R__law_unlike) [] E0 (tCons (tVar 3) (tCons (tVar 5) (tCons (tVar 6) tNil))))
  let test : TT := tTest (tCB (rAll K) (tCons (tLc wu (gName 7) tYes (tOp (rInD K) (tVar 7) (tVar 1)) [7]) tNil))
  let body : TS := tIfS (tTest (tOp (rNotInDT K) (tCall (spP R__law_set) [] E0 (tCons (tVar 5) (tCons (tVar 6) (tCons (tVar 8) tNil)))) (tVar 4))) (tRet (tC (.bl false))) tNext
  let wl : TI := iList K (tCall (spP R__law_lots) [] E0 (tCons (tCall (spP R__law_at) [] E0 (tCons (tVar 3) (tCons (tVar 5) (tCons (tVar 6) (tCons (tVar 2) tNil))))) tNil))
  let body3 : TS := tIfS test (tFor wl (gName 8) body) tNext
  have turn4 : ∀ c ∈ cks, ∀ one ∈ c.2, ∀ other ∈ c.2, ∀ lot : List Int, TurnD (gName 8) body tI (inv3 c one other) (letL c one other) () lot := by
    intro c hc one ho other hot lot
    obtain ⟨h1, h2, h3⟩ := h c hc
    have l1 := h1 _ ho
    have l2 := h1 _ hot
    have test := EvB.to (eb_test (ed_niT (K := K) (ρ := [some (.kn (.tuple (cks.map ckD))), some (.kn (.list (left.map tI))), some (.kn (tI kind)), some (.kn (tI c.1)), some (.kn (tR c.2)), some (.kn (tI one)), some (.kn (tI other)), none, some (.kn (tI lot))]) (tb := tVar 4) (ed_call (E := E0) (R := R__law_set) (ss := [.kn (tI one), .kn (tI other), .kn (tI lot)]) (ea_cons (ed_var (i := 5) rfl) (ea_cons (ed_var (i := 6) rfl) (ea_cons (ed_var (i := 8) rfl) ea_nil))) (.d (.d (.d .nil))) (by simp [notOw]) (.mk _ _ one other lot (.t _) (by omega) (by omega))) (ed_var rfl) (shp_tI _) (shp_rows c.2))) (congrArg (! ·) (any_tI c.2 (lawSet one other lot)))
    refine ⟨_, _, tg_name (np_of rfl), fun c' hc' => ?_, fun d hd => ?_⟩
    · have z : lawSet one other lot ∈ c.2 := by
        unfold letL at hc'
        split at hc'
        · assumption
        · cases hc'
      refine ⟨_, sd_F (EvB.to test (by simp [z])) sd_nx, ?_⟩
      exact .same (.same (.same (.same (.same (.same (.same (.same (.drop (fun _ z => by cases z) .nil))))))))
    · obtain ⟨z, rfl⟩ : ¬ lawSet one other lot ∈ c.2 ∧ d = .bool false := by
        unfold letL at hd
        split at hd
        · cases hd
        · rename_i z
          cases hd
          exact ⟨z, rfl⟩
      exact ⟨_, sd_T (EvB.to test (by simp [z])) (sd_ret ed_c_bl)⟩
  have turn3 : ∀ c ∈ cks, ∀ one ∈ c.2, ∀ other ∈ c.2, TurnD (gName 6) body3 tI (inv2 c one) (letO c left kind one) () other := by
    intro c hc one ho other hot
    obtain ⟨h1, h2, h3⟩ := h c hc
    have l1 := h1 _ ho
    have l2 := h1 _ hot
    have tst : EvB test (inv3 c one other ()) (letIn c.1 one other left) (inv3 c one other ()) :=
      EvB.to (eb_test (ed_all (bs := (lawUnlike c.1 one other).map fun e => decide (e ∈ left)) (EvD.to (en_mapT (enc := tI) (bs := lawUnlike c.1 one other) (f := fun e => .bool (decide (e ∈ left))) (ei_list (ed_call (ss := [.kn (tI c.1), .kn (tI one), .kn (tI other)]) (ea_cons (ed_var rfl) (ea_cons (ed_var rfl) (ea_cons (ed_var rfl) ea_nil))) (.d (.d (.d .nil))) (by simp [notOw]) (.mk c.1 one other h2)))
        (fun e he => EvD.to (ed_inL (ed_var rfl) (ed_var rfl) (shp_tI e) (shp_rowsL left)) (congrArg PyData.bool (any_tI left e))) (NoOw.of rfl) ?_).kn (by rw [List.map_map]; rfl)))) rfl
    have loop := for_find (γ := Unit) (enc := tI) (bs := (lotsF (lawAt c.1 one other kind)).drop 1) (c := ()) (inv := inv3 c one other) (f := letL c one other) (g := gName 8) (tb := body) (wi := wl) (ρ := inv3 c one other ()) (I := fun _ _ => True)
      (ei_list (ed_call (ss := [.kn (.list ((lawAt c.1 one other kind).map .int))]) (ea_cons (ed_call (ss := [.kn (tI c.1), .kn (tI one), .kn (tI other), .kn (tI kind)]) (ea_cons (ed_var rfl) (ea_cons (ed_var rfl) (ea_cons (ed_var rfl) (ea_cons (ed_var rfl) ea_nil)))) (.d (.d (.d (.d .nil)))) (by simp [notOw]) (.mk c.1 one other kind (by omega) (by omega) h2)) ea_nil) (.d .nil) (by simp [notOw]) (.mk _ (Nat.le_trans (lawAt_len _ _ _ _) h2)))) True.intro
      fun _ lot rest hl _ => ⟨turn4 c hc one ho other hot lot, fun _ _ => True.intro⟩
    · refine ⟨_, _, tg_name (np_of rfl), fun c' hc' => ?_, fun d hd => ?_⟩
      · unfold letO at hc'
        split at hc'
        · rename_i z
          exact ⟨_, sd_T (EvB.to tst z) (loop.1 c' hc'), .same (.same (.same (.same (.same (.same (.drop (fun _ z => by cases z) (.same (.same .nil))))))))⟩
        · rename_i z
          exact ⟨_, sd_F (EvB.to tst (by simpa using z)) sd_nx, .same (.same (.same (.same (.same (.same (.drop (fun _ z => by cases z) (.same (.same .nil))))))))⟩
      · unfold letO at hd
        split at hd
        · rename_i z
          obtain ⟨ρ', l⟩ := loop.2 d hd
          exact ⟨ρ', sd_T (EvB.to tst z) l⟩
        · cases hd
    · have := zl c hc one ho other hot
      unfold lawUnlike
      exact Nat.lt_of_le_of_lt (List.length_filter_le _ _) (zs (by omega))
  have loop3 : ∀ c ∈ cks, ∀ one ∈ c.2, (∀ c', goOn (letO c left kind one) c.2 () = .ok c' → SD (tFor (iTup K (tVar 4)) (gName 6) body3) (inv2 c one ()) (.nx (inv2 c one c'))) ∧ ∀ d, goOn (letO c left kind one) c.2 () = .error d → ∃ ρ', SD (tFor (iTup K (tVar 4)) (gName 6) body3) (inv2 c one ()) (.rt d ρ') := fun c hc one ho =>
    for_find (γ := Unit) (enc := tI) (bs := c.2) (c := ()) (inv := inv2 c one) (I := fun _ _ => True) (ei_tup (ed_var rfl)) True.intro fun _ other rest hot _ => ⟨turn3 c hc one ho other hot, fun _ _ => True.intro⟩
  have loop2 : ∀ c ∈ cks, (∀ c', goOn (fun _ one => goOn (letO c left kind one) c.2 ()) c.2 () = .ok c' → SD (tFor (iTup K (tVar 4)) (gName 5) (tFor (iTup K (tVar 4)) (gName 6) body3)) (inv1 c ()) (.nx (inv1 c c'))) ∧ ∀ d, goOn (fun _ one => goOn (letO c left kind one) c.2 ()) c.2 () = .error d → ∃ ρ', SD (tFor (iTup K (tVar 4)) (gName 5) (tFor (iTup K (tVar 4)) (gName 6) body3)) (inv1 c ()) (.rt d ρ') := fun c hc =>
    for_find (γ := Unit) (enc := tI) (bs := c.2) (c := ()) (inv := inv1 c) (I := fun _ _ => True) (ei_tup (ed_var rfl)) True.intro fun _ one rest ho _ => ⟨⟨_, _, tg_name (np_of rfl), fun c' hc' => ⟨_, (loop3 c hc one ho).1 c' hc', by
      exact .same (.same (.same (.same (.same (.drop (fun _ z => by cases z) (.same (.same (.same .nil))))))))⟩, fun d hd => (loop3 c hc one ho).2 d hd⟩, fun _ _ => True.intro⟩
  have loop1 : (∀ c', letE cks left kind = .ok c' → SD (tFor (iTup K (tVar 0)) (gTup K 2 (gCons (gName 3) (gCons (gName 4) gNil))) (tFor (iTup K (tVar 4)) (gName 5) (tFor (iTup K (tVar 4)) (gName 6) body3))) (inv0 ()) (.nx (inv0 c'))) ∧ ∀ d, letE cks left kind = .error d → ∃ ρ', SD (tFor (iTup K (tVar 0)) (gTup K 2 (gCons (gName 3) (gCons (gName 4) gNil))) (tFor (iTup K (tVar 4)) (gName 5) (tFor (iTup K (tVar 4)) (gName 6) body3))) (inv0 ()) (.rt d ρ') :=
    for_find (γ := Unit) (enc := ckD) (bs := cks) (c := ()) (inv := inv0) (I := fun _ _ => True) (ei_tup (ed_var rfl)) True.intro fun _ c rest hc _ => ⟨⟨_, _, tg_two (np_of rfl) (np_of rfl), fun c' hc' => ⟨_, (loop2 c hc).1 c' hc', by
      exact .same (.same (.same (.drop (fun _ z => by cases z) (.drop (fun _ z => by cases z) (.same (.same (.same (.same .nil))))))))⟩, fun d hd => (loop2 c hc).2 d hd⟩, fun _ _ => True.intro⟩
  cases z : letE cks left kind with
  | ok u => exact ⟨_, sd_seq (loop1.1 u z) (sd_ret ed_c_bl)⟩
  | error d =>
    obtain ⟨ρ', l⟩ := loop1.2 d z
    exact ⟨ρ', sd_seqR l⟩
end DW


set_option maxRecDepth 100000
set_option maxHeartbeats 1000000
namespace DW
open PySem PySem.Spec PyProof.Rows L2
def goB {β γ : Type} : Except β γ → Bool
  | .ok _ => true
  | .error _ => false
theorem goOn_err {β γ : Type} {f : γ → β → Except PyData γ} {Q : PyData → Prop} : ∀ {bs : List β} {c : γ} {d : PyData}, (∀ c b d, f c b = .error d → Q d) → goOn f bs c = .error d → Q d
  | [], c, d, _, h => by cases h
  | b :: bs, c, d, hf, h => by
    unfold goOn at h
    split at h
    · exact goOn_err hf h
    · rename_i e he
      cases h
      exact hf _ _ _ he
theorem letE_err {cks : List Ck} {left : List (List Int)} {kind : List Int} {d : PyData} (h : letE cks left kind = .error d) : d = .bool false := by
  refine goOn_err (Q := fun d => d = .bool false) (fun _ c d h => ?_) h
  refine goOn_err (Q := fun d => d = .bool false) (fun _ one d h => ?_) h
  refine goOn_err (Q := fun d => d = .bool false) (fun _ other d h => ?_) h
  unfold letO at h
  split at h
  · refine goOn_err (Q := fun d => d = .bool false) (fun _ lot d h => ?_) h
    unfold letL at h
    split at h
    · cases h
    · cases h
      rfl
  · cases h
theorem resB_let (cks : List Ck) (left : List (List Int)) (kind : List Int) : resB (letE cks left kind) = .bool (goB (letE cks left kind)) := by
  cases z : letE cks left kind with
  | ok u => rfl
  | error d =>
    rw [letE_err z]
    rfl
def lawRanked (cks : List Ck) (order : List (List Int)) : Bool := ((List.range order.length).map fun k => goB (letE cks (order.drop k) (order.getD k []))).all id
inductive R__law_is_ranked : List Sl → PyData → Prop
  | mk (cks : List Ck) (order : List (List Int)) (h : ∀ c ∈ cks, rowsOk c) (h4 : order.length ≤ 64) : R__law_is_ranked [.kn (.tuple (cks.map ckD)), .kn (.list (order.map tI))] (.bool (lawRanked cks order))
abbrev st__law_is_ranked : Stmt := topS 62
abbrev N__law_is_ranked : List Str := ["_law_checks", "_law_order", "_law_at_here"]
theorem sc__law_is_ranked : FnScope N__law_is_ranked ["_law_checks", "_law_order"] (defScope st__law_is_ranked) := ⟨rfl, rfl, rfl, by decide +kernel, rfl, by decide +kernel, by decide +kernel⟩
theorem cl__law_is_ranked {P : Program} {w : World} {K : PySem.W.Frag} {mg : Str → Option Value} {base : Heap} (T : Nm mg) (D : Dn K mg "_law_is_ranked" st__law_is_ranked ["_law_checks", "_law_order"]) (c__law_let : Cl P w K mg base 2 "_law_let" (spP R__law_let)) : Cl P w K mg base 3 "_law_is_ranked" (spP R__law_is_ranked) := by
  refine cl_of D sc__law_is_ranked (by rintro _ _ ⟨⟩; rfl) fun f cdv A outer s H E hr => ⟨_, (pss_one (ps_ret (pe_callB (cr_all rfl) (by rfl) T.all bt_all (pa_cons (pe_lc (own := [("_law_at_here", 2)]) (g := (gName 2)) (tt := _) rfl sc__law_is_ranked.nd (pi_range1 (by rfl) T.range (pa_cons (pe_callB cr_len (by rfl) T.len bt_len (pa_cons (pv 1) pa_nil)) pa_nil)) (blkOk_by (N := N__law_is_ranked) (sc := defScope st__law_is_ranked) (by decide +kernel)) (fun _ _ _ _ _ => (pg_name (i := 2) sc__law_is_ranked.nd rfl (by first | exact Or.inl rfl | exact Or.inr rfl))) (fun _ _ _ _ _ => pts_nil) (fun _ _ _ _ _ => (pe_cl c__law_let hr (by decide) (by rfl) (pa_cons (pv 0) (pa_cons (pe_slice (sl_listK (K := K)) (pv 1) (po_some (pv 2)) po_none) (pa_cons (pe_ix (ix_listK (K := K)) (pv 1) (pv 2) (fun _ _ => rfl)) pa_nil)))))) pa_nil)))), ?_⟩
  rintro _ _ ⟨cks, order, h, h4⟩ -
  refine ⟨_, sd_ret (EvD.to (ed_all (bs := (List.range order.length).map fun k => goB (letE cks (order.drop k) (order.getD k []))) (EvD.to (en_mapT (enc := fun k : Nat => .int (k : Nat)) (bs := List.range order.length) (f := fun k => .bool (goB (letE cks (order.drop k) (order.getD k [])))) (EvI.to (ei_range (ed_lenL (ds := order.map tI) (ed_var rfl)) (by rw [List.length_map]; omega) (by rw [List.length_map]; omega)) (by rw [List.length_map]; rfl))
    (fun k hk => EvD.to (ed_call (ss := [.kn (.tuple (cks.map ckD)), .kn (.list ((order.drop k).map tI)), .kn (tI (order.getD k []))]) (ea_cons (ed_var rfl) (ea_cons (EvD.to (en_slL (lo := some (k : Int)) (hi := none) (ds := order.map tI) (ed_var rfl) (ep_int (ed_var rfl)) ep_no).kn (by rw [cut_nat, List.map_drop])) (ea_cons (ed_ixL (ds := order.map tI) (ed_var rfl) (ed_var rfl) (atI_nat (by rw [List.getElem?_map, List.getElem?_eq_getElem (List.mem_range.mp hk)]; simp [List.getD_eq_getElem?_getD, List.mem_range.mp hk]))) ea_nil))) (.d (.d (.d .nil))) (by simp [notOw]) (.mk cks _ _ h (by rw [List.length_drop]; omega))) (resB_let _ _ _)) (NoOw.of rfl) ?_).kn ?_)) rfl)⟩
  · rw [List.length_range]
    exact zs (by omega)
  · rw [List.map_map]
    rfl
def wayS (ps one other : List Int) (st : List (List Int) × List Int) (kind : List Int) : List (List Int) × List Int :=
  (st.1 ++ ((lotsF (lawAt ps one other kind)).drop 1).map (fun lot => lawSet one other (st.2 ++ lot)), st.2 ++ lawAt ps one other kind)
def lawWay (ps one other : List Int) (order : List (List Int)) : List (List Int) := (order.foldl (wayS ps one other) ([], [])).1
inductive R__law_way : List Sl → PyData → Prop
  | mk (ps one other : List Int) (order : List (List Int)) (h1 : one.length = ps.length) (h2 : other.length = ps.length) (h3 : ps.length ≤ 3) (h4 : order.length ≤ 64) : R__law_way [.kn (tI ps), .kn (tI one), .kn (tI other), .kn (.list (order.map tI))] (.list ((lawWay ps one other order).map tI))
abbrev st__law_way : Stmt := topS 54
abbrev N__law_way : List Str := ["_law_places", "_law_one", "_law_other", "_law_order", "_law_found", "_law_ahead", "_law_kind", "_law_some", "_law_lot"]
theorem sc__law_way : FnScope N__law_way ["_law_places", "_law_one", "_law_other", "_law_order"] (defScope st__law_way) := ⟨rfl, rfl, rfl, by decide +kernel, rfl, by decide +kernel, by decide +kernel⟩
theorem cl__law_way {P : Program} {w : World} {K : PySem.W.Frag} {mg : Str → Option Value} {base : Heap} (T : Nm mg) (D : Dn K mg "_law_way" st__law_way ["_law_places", "_law_one", "_law_other", "_law_order"]) (c__law_at : Cl P w K mg base 1 "_law_at" (spP R__law_at)) (c__law_lots : Cl P w K mg base 1 "_law_lots" (spP R__law_lots)) (c__law_set : Cl P w K mg base 1 "_law_set" (spP R__law_set)) : Cl P w K mg base 2 "_law_way" (spP R__law_way) := by
  refine cl_of D sc__law_way (by rintro _ _ ⟨⟩; rfl) fun f cdv A outer s H E hr => ⟨_, (pss_cons (ps_asg (pe_tup (pa_cons (pe_lst pa_nil) (pa_cons (pe_lst pa_nil) pa_nil))) (pg_tup rfl (pgs_cons (pg_name (i := 4) sc__law_way.nd rfl (by first | exact Or.inl rfl | exact Or.inr rfl)) (pgs_cons (pg_name (i := 5) sc__law_way.nd rfl (by first | exact Or.inl rfl | exact Or.inr rfl)) pgs_nil))))
    (pss_cons (ps_for PassesOwn.never rfl (pi_list (pv 3)) (pg_name (i := 6) sc__law_way.nd rfl (by first | exact Or.inl rfl | exact Or.inr rfl))
      (pss_cons (ps_set (i := 7) sc__law_way.nd rfl (by first | exact Or.inl rfl | exact Or.inr rfl) (pe_cl c__law_at hr (by decide) (by rfl) (pa_cons (pv 0) (pa_cons (pv 1) (pa_cons (pv 2) (pa_cons (pv 6) pa_nil))))))
      (pss_cons (ps_set (i := 4) sc__law_way.nd rfl (by first | exact Or.inl rfl | exact Or.inr rfl) (pe_op op_cat (pv 4) (pe_lc (own := [("_law_lot", 8)]) (g := (gName 8)) (tt := _) rfl sc__law_way.nd (pi_list (pe_cl c__law_lots hr (by decide) (by rfl) (pa_cons (pv 7) pa_nil))) (blkOk_by (N := N__law_way) (sc := defScope st__law_way) (by decide +kernel)) (fun _ _ _ _ _ => (pg_name (i := 8) sc__law_way.nd rfl (by first | exact Or.inl rfl | exact Or.inr rfl))) (fun _ _ _ _ _ => pts_nil) (fun _ _ _ _ _ => (pe_cl c__law_set hr (by decide) (by rfl) (pa_cons (pv 1) (pa_cons (pv 2) (pa_cons (pe_op op_cat (pv 5) (pe_callTy (cr_listK (K := K)) (by rfl) T.list bt_list (pa_cons (pv 8) pa_nil))) pa_nil))))))))
      (pss_one (ps_set (i := 5) sc__law_way.nd rfl (by first | exact Or.inl rfl | exact Or.inr rfl) (pe_op op_cat (pv 5) (pv 7)))))))
    (pss_one (ps_ret (pv 4))))), ?_⟩
  rintro _ _ ⟨ps, one, other, order, h1, h2, h3, h4⟩ -
  let inv : List (List Int) × List Int → En := fun st => [some (.kn (tI ps)), some (.kn (tI one)), some (.kn (tI other)), some (.kn (.list (order.map tI))), some (.kn (.list (st.1.map tI))), some (.kn (.list (st.2.map .int))), none, none, none]
  have al := fun kind => lawAt_len ps one other kind
  have ll : ∀ kind, (lotsF (lawAt ps one other kind)).length ≤ 8 := fun kind => by
    rw [lotsF_len]
    exact Nat.pow_le_pow_right (by decide : 0 < 2) (Nat.le_trans (al kind) h3)
  have ls : ∀ kind, ∀ lot ∈ (lotsF (lawAt ps one other kind)).drop 1, lot.length ≤ 3 := fun kind lot hl => by
    have := lotsF_small (lawAt ps one other kind) 0 [[]] (fun l hl => by rw [List.mem_singleton.mp hl]; simp) lot (List.mem_of_mem_drop hl)
    have := al kind
    omega
  refine ⟨_, sd_seq (sd_tgt (d := .tuple [.list [], .list []]) (ed_tup (ds := [.list [], .list []]) (ea_cons (en_lst (ds := []) ea_nil (Nat.zero_le _)).kn (ea_cons (en_lst (ds := []) ea_nil (Nat.zero_le _)).kn ea_nil)) (by show 2 ≤ sizeLine; decide)) (tg_two (np_of rfl) (np_of rfl)))
    (sd_seq (for_acc (γ := List (List Int) × List Int) (enc := tI) (bs := order) (c := ([], [])) (inv := inv) (step := wayS ps one other) (I := fun rest st => st.1.length + rest.length * 8 ≤ 512 ∧ st.2.length + rest.length * 3 ≤ 192) (ei_list (ed_var rfl)) ?_ fun st kind rest hk hI => ⟨?_, _, _, _, tg_name (np_of rfl),
        sd_seq (sd_asg (ed_call (ss := [.kn (tI ps), .kn (tI one), .kn (tI other), .kn (tI kind)]) (ea_cons (ed_var rfl) (ea_cons (ed_var rfl) (ea_cons (ed_var rfl) (ea_cons (ed_var rfl) ea_nil)))) (.d (.d (.d (.d .nil)))) (by simp [notOw]) (.mk ps one other kind (by omega) (by omega) h3)) (np_of rfl))
        (sd_seq (sd_asg (i := 4) (en_cat (ds := st.1.map tI) (es := (((lotsF (lawAt ps one other kind)).drop 1).map fun lot => lawSet one other (st.2 ++ lot)).map tI) (ed_var rfl) (EvD.to (en_mapT (enc := tI) (bs := (lotsF (lawAt ps one other kind)).drop 1) (f := fun lot => tI (lawSet one other (st.2 ++ lot))) (ei_list (ed_call (ss := [.kn (.list ((lawAt ps one other kind).map .int))]) (ea_cons (ed_var rfl) ea_nil) (.d .nil) (by simp [notOw]) (.mk _ ?_)))
            (fun lot hl => ed_call (ss := [.kn (tI one), .kn (tI other), .kn (.list ((st.2 ++ lot).map .int))]) (ea_cons (ed_var rfl) (ea_cons (ed_var rfl) (ea_cons (EvD.to (en_cat (ds := st.2.map .int) (es := lot.map .int) (ed_var rfl) (en_listT (ds := lot.map .int) (ed_var rfl)).kn ?_).kn (by rw [List.map_append])) ea_nil))) (.d (.d (.d .nil))) (by simp [notOw]) (.mk true _ one other (st.2 ++ lot) (.l _) (by omega) (by omega))) (NoOw.of rfl) ?_).kn (by rw [List.map_map]; rfl)) ?_).kn (np_kn rfl))
          (sd_asg (i := 5) (en_cat (ds := st.2.map .int) (es := (lawAt ps one other kind).map .int) (ed_var rfl) (ed_var rfl) ?_).kn (np_kn rfl))), ?_⟩)
      (sd_ret (ed_var rfl)))⟩
  · simp
    omega
  · have l1 := al kind
    have l2 := ll kind
    unfold wayS
    simp only [List.length_append, List.length_map, List.length_cons, List.length_drop] at hI ⊢
    omega
  · have l1 := ls kind lot hl
    have := hI.2
    simp only [List.length_cons, List.length_map] at this ⊢
    exact zs' (by omega)
  · have l2 := ll kind
    rw [List.length_drop]
    exact zs (by omega)
  · have l2 := ll kind
    have := hI.1
    simp only [List.length_cons, List.length_map, List.length_drop] at this ⊢
    exact zs' (by omega)
  · have l1 := al kind
    have := hI.2
    simp only [List.length_cons, List.length_map] at this ⊢
    exact zs' (by omega)
  · simp only [inv, wayS]
    rw [List.map_append, List.map_append]
    exact .same (.same (.same (.same (.same (.same (.drop (fun _ z => by cases z) (.drop (fun _ z => by cases z) (.same .nil))))))))
  · exact Nat.le_trans (al kind) h3
theorem lotsF_ne : ∀ (ps : List Int) (tl : List (List Int)), (∀ r ∈ tl, r ≠ []) → ∃ tl', ps.foldl (fun acc p => acc ++ acc.map fun l => l ++ [p]) ([] :: tl) = [] :: tl' ∧ ∀ r ∈ tl', r ≠ []
  | [], tl, h => ⟨tl, rfl, h⟩
  | p :: ps, tl, h => by
    rw [List.foldl_cons]
    refine lotsF_ne ps (tl ++ ([] :: tl).map fun l => l ++ [p]) fun r hr => ?_
    rcases List.mem_append.mp hr with q | q
    · exact h r q
    · obtain ⟨l, _, rfl⟩ := List.mem_map.mp q
      simp
def paperL (c : Ck) (one other kind ahead : List Int) (_ : Unit) (lot : List Int) : Except PyData Unit := if lawSet one other (ahead ++ lot) ∈ c.2 then .ok () else .error (.tuple [tI one, tI other, tI kind, tI lot])
def paperK (c : Ck) (one other : List Int) (ahead kind : List Int) : Except PyData (List Int) := match goOn (paperL c one other kind ahead) (sortL ((lotsF (lawAt c.1 one other kind)).drop 1)) () with
  | .ok _ => .ok (ahead ++ lawAt c.1 one other kind)
  | .error d => .error d
def paperO (c : Ck) (order : List (List Int)) (one : List Int) (_ : Unit) (other : List Int) : Except PyData Unit := match goOn (paperK c one other) order [] with
  | .ok _ => .ok ()
  | .error d => .error d
def paperE (c : Ck) (order : List (List Int)) : Except PyData Unit := goOn (fun _ one => goOn (paperO c order one) c.2 ()) c.2 ()
inductive R__law_paper : List Sl → PyData → Prop
  | mk (c : Ck) (order : List (List Int)) (h : rowsOk c) (h4 : order.length ≤ 64) : R__law_paper [.kn (tI c.1), .kn (tR c.2), .kn (.list (order.map tI))] (resD (paperE c order))
abbrev st__law_paper : Stmt := topS 61
abbrev N__law_paper : List Str := ["_law_places", "_law_rows", "_law_order", "_law_one", "_law_other", "_law_ahead", "_law_kind", "_law_some", "_law_lot"]
theorem sc__law_paper : FnScope N__law_paper ["_law_places", "_law_rows", "_law_order"] (defScope st__law_paper) := ⟨rfl, rfl, rfl, by decide +kernel, rfl, by decide +kernel, by decide +kernel⟩
theorem cl__law_paper {P : Program} {w : World} {K : PySem.W.Frag} {mg : Str → Option Value} {base : Heap} (T : Nm mg) (D : Dn K mg "_law_paper" st__law_paper ["_law_places", "_law_rows", "_law_order"]) (c__law_at : Cl P w K mg base 1 "_law_at" (spP R__law_at)) (c__law_lots : Cl P w K mg base 1 "_law_lots" (spP R__law_lots)) (c__law_set : Cl P w K mg base 1 "_law_set" (spP R__law_set)) : Cl P w K mg base 2 "_law_paper" (spP R__law_paper) := by
  refine cl_of D sc__law_paper (by rintro _ _ ⟨⟩; rfl) fun f cdv A outer s H E hr => ⟨_, (pss_cons (ps_for PassesOwn.never rfl (pi_tup (pv 1)) (pg_name (i := 3) sc__law_paper.nd rfl (by first | exact Or.inl rfl | exact Or.inr rfl))
      (pss_one (ps_for PassesOwn.never rfl (pi_tup (pv 1)) (pg_name (i := 4) sc__law_paper.nd rfl (by first | exact Or.inl rfl | exact Or.inr rfl))
        (pss_cons (ps_set (i := 5) sc__law_paper.nd rfl (by first | exact Or.inl rfl | exact Or.inr rfl) (pe_lst pa_nil))
        (pss_one (ps_for PassesOwn.never rfl (pi_list (pv 2)) (pg_name (i := 6) sc__law_paper.nd rfl (by first | exact Or.inl rfl | exact Or.inr rfl))
          (pss_cons (ps_set (i := 7) sc__law_paper.nd rfl (by first | exact Or.inl rfl | exact Or.inr rfl) (pe_cl c__law_at hr (by decide) (by rfl) (pa_cons (pv 0) (pa_cons (pv 3) (pa_cons (pv 4) (pa_cons (pv 6) pa_nil))))))
          (pss_cons (ps_for PassesOwn.never rfl (pi_list (pe_callB (KX.cr_sortedD hr.units) (by rfl) T.sorted bt_sorted (pa_cons (pe_cl c__law_lots hr (by decide) (by rfl) (pa_cons (pv 7) pa_nil)) pa_nil))) (pg_name (i := 8) sc__law_paper.nd rfl (by first | exact Or.inl rfl | exact Or.inr rfl))
            (pss_one (ps_if (pt_cmpR (op_notInDT (Room.un65 hr)) (pe_cl c__law_set hr (by decide) (by rfl) (pa_cons (pv 3) (pa_cons (pv 4) (pa_cons (pe_op op_cat (pv 5) (pe_callTy cr_list (by rfl) T.list bt_list (pa_cons (pv 8) pa_nil))) pa_nil)))) (pv 1) (by rfl))
              (pss_one (ps_ret (pe_tup (pa_cons (pv 3) (pa_cons (pv 4) (pa_cons (pv 6) (pa_cons (pv 8) pa_nil)))))))
              pss_nil)))
          (pss_one (ps_set (i := 5) sc__law_paper.nd rfl (by first | exact Or.inl rfl | exact Or.inr rfl) (pe_op op_cat (pv 5) (pv 7))))))))))))
    (pss_one (ps_ret pe_non))), ?_⟩
  rintro _ _ ⟨c, order, ⟨h1, h2, h3⟩, h4⟩ -
  have al := fun one other kind => lawAt_len c.1 one other kind
  have ll : ∀ one other kind, (lotsF (lawAt c.1 one other kind)).length ≤ 8 := fun one other kind => by
    rw [lotsF_len]
    exact Nat.pow_le_pow_right (by decide : 0 < 2) (Nat.le_trans (al one other kind) h2)
  have ls : ∀ one other kind, ∀ lot ∈ sortL ((lotsF (lawAt c.1 one other kind)).drop 1), lot.length ≤ 3 := fun one other kind lot hl => by
    have := lotsF_small (lawAt c.1 one other kind) 0 [[]] (fun l hl => by rw [List.mem_singleton.mp hl]; simp) lot (List.mem_of_mem_drop ((List.mergeSort_perm _ _).mem_iff.mp hl))
    have := al one other kind
    omega
  let inv0 : Unit → En := fun _ => [some (.kn (tI c.1)), some (.kn (tR c.2)), some (.kn (.list (order.map tI))), none, none, none, none, none, none]
  let inv1 : List Int → Unit → En := fun one _ => [some (.kn (tI c.1)), some (.kn (tR c.2)), some (.kn (.list (order.map tI))), some (.kn (tI one)), none, none, none, none, none]
  let inv3 : List Int → List Int → List Int → En := fun one other ahead => [some (.kn (tI c.1)), some (.kn (tR c.2)), some (.kn (.list (order.map tI))), some (.kn (tI one)), some (.kn (tI other)), some (.kn (.list (ahead.map .int))), none, none, none]
  let inv4 : List Int → List Int → List Int → List Int → Unit → En := fun one other ahead kind _ => [some (.kn (tI c.1)), some (.kn (tR c.2)), some (.kn (.list (order.map tI))), some (.kn (tI one)), some (.kn (tI other)), some (.kn (.list (ahead.map .int))), some (.kn (tI kind)), some (.kn (.list ((lawAt c.1 one other kind).map .int))), none]
  let body : TS := tIfS (tTest (tOp (rNotInDT K) (tCall (spP R__law_set) [] E0 (tCons (tVar 3) (tCons (tVar 4) (tCons (tOp rCat (tVar 5) (tCB (rListOf K) (tCons (tVar 8) tNil))) tNil)))) (tVar 1))) (tRet (tTup (tCons (tVar 3) (tCons (tVar 4) (tCons (tVar 6) (tCons (tVar 8) tNil)))))) tNext
  let wl : TI := iList K (tCB (KX.rSortD K) (tCons (tCall (spP R__law_lots) [] E0 (tCons (tVar 7) tNil)) tNil))
  let ka : TS := tAsg (tCall (spP R__law_at) [] E0 (tCons (tVar 0) (tCons (tVar 3) (tCons (tVar 4) (tCons (tVar 6) tNil))))) (gName 7)
  let body2 : TS := tSeq ka (tSeq (tFor wl (gName 8) body) (tAsg (tOp rCat (tVar 5) (tVar 7)) (gName 5)))
  have turn4 : ∀ one ∈ c.2, ∀ other ∈ c.2, ∀ ahead kind : List Int, ahead.length ≤ 192 → ∀ lot ∈ sortL ((lotsF (lawAt c.1 one other kind)).drop 1), TurnD (gName 8) body tI (inv4 one other ahead kind) (paperL c one other kind ahead) () lot := by
    intro one ho other hot ahead kind ha lot hl
    have l1 := h1 _ ho
    have l2 := h1 _ hot
    have l3 := ls one other kind lot hl
    let ρ : En := [some (.kn (tI c.1)), some (.kn (tR c.2)), some (.kn (.list (order.map tI))), some (.kn (tI one)), some (.kn (tI other)), some (.kn (.list (ahead.map .int))), some (.kn (tI kind)), some (.kn (.list ((lawAt c.1 one other kind).map .int))), some (.kn (tI lot))]
    have call : EvD (tCall (spP R__law_set) [] E0 (tCons (tVar 3) (tCons (tVar 4) (tCons (tOp rCat (tVar 5) (tCB (rListOf K) (tCons (tVar 8) tNil))) tNil)))) ρ (tI (lawSet one other (ahead ++ lot))) ρ :=
      ed_call (ss := [.kn (tI one), .kn (tI other), .kn (.list ((ahead ++ lot).map .int))]) (ea_cons (ed_var rfl) (ea_cons (ed_var rfl) (ea_cons (EvD.to (en_cat (ds := ahead.map .int) (es := lot.map .int) (ed_var rfl) (en_listT (ds := lot.map .int) (ed_var rfl)).kn (by simp only [List.length_map]; exact zs' (by omega))).kn (by rw [List.map_append])) ea_nil))) (.d (.d (.d .nil))) (by simp [notOw]) (.mk true _ one other (ahead ++ lot) (.l _) (by omega) (by omega))
    have test := EvB.to (eb_test (ed_niT (K := K) (tb := tVar 1) call (ed_var rfl) (shp_tI _) (shp_rows c.2))) (congrArg (! ·) (any_tI c.2 (lawSet one other (ahead ++ lot))))
    refine ⟨_, _, tg_name (np_of rfl), fun c' hc' => ?_, fun d hd => ?_⟩
    · have z : lawSet one other (ahead ++ lot) ∈ c.2 := by
        unfold paperL at hc'
        split at hc'
        · assumption
        · cases hc'
      refine ⟨_, sd_F (EvB.to test (by simp [z])) sd_nx, ?_⟩
      exact .same (.same (.same (.same (.same (.same (.same (.same (.drop (fun _ z => by cases z) .nil))))))))
    · obtain ⟨z, rfl⟩ : ¬ lawSet one other (ahead ++ lot) ∈ c.2 ∧ d = .tuple [tI one, tI other, tI kind, tI lot] := by
        unfold paperL at hd
        split at hd
        · cases hd
        · rename_i z
          cases hd
          exact ⟨z, rfl⟩
      exact ⟨_, sd_T (EvB.to test (by simp [z])) (sd_ret (ed_tup (ds := [tI one, tI other, tI kind, tI lot]) (ea_cons (ed_var rfl) (ea_cons (ed_var rfl) (ea_cons (ed_var rfl) (ea_cons (ed_var rfl) ea_nil)))) (by show 4 ≤ sizeLine; decide)))⟩
  have turn3 : ∀ one ∈ c.2, ∀ other ∈ c.2, ∀ ahead kind : List Int, ahead.length ≤ 192 → TurnD (gName 6) body2 tI (inv3 one other) (paperK c one other) ahead kind := by
    intro one ho other hot ahead kind ha
    have l1 := h1 _ ho
    have l2 := h1 _ hot
    have at1 : SD ka [some (.kn (tI c.1)), some (.kn (tR c.2)), some (.kn (.list (order.map tI))), some (.kn (tI one)), some (.kn (tI other)), some (.kn (.list (ahead.map .int))), some (.kn (tI kind)), none, none] (.nx (inv4 one other ahead kind ())) :=
      sd_asg (ed_call (ss := [.kn (tI c.1), .kn (tI one), .kn (tI other), .kn (tI kind)]) (ea_cons (ed_var rfl) (ea_cons (ed_var rfl) (ea_cons (ed_var rfl) (ea_cons (ed_var rfl) ea_nil)))) (.d (.d (.d (.d .nil)))) (by simp [notOw]) (.mk c.1 one other kind (by omega) (by omega) h2)) (np_of rfl)
    have loop := for_find (γ := Unit) (enc := tI) (bs := sortL ((lotsF (lawAt c.1 one other kind)).drop 1)) (c := ()) (inv := inv4 one other ahead kind) (f := paperL c one other kind ahead) (g := gName 8) (tb := body) (wi := wl) (ρ := inv4 one other ahead kind ()) (I := fun _ _ => True)
      (ei_list (EvD.to (en_sort (ed_call (ss := [.kn (.list ((lawAt c.1 one other kind).map .int))]) (ea_cons (ed_var rfl) ea_nil) (.d .nil) (by simp [notOw]) (.mk _ (Nat.le_trans (al one other kind) h2))) (.l _) (alike_tI _) ?_ ?_ ?_).kn (by rw [sort_tI]))) True.intro
      fun _ lot rest hl _ => ⟨turn4 one ho other hot ahead kind ha lot hl, fun _ _ => True.intro⟩
    · refine ⟨_, _, tg_name (np_of rfl), fun c' hc' => ?_, fun d hd => ?_⟩
      · unfold paperK at hc'
        split at hc'
        · rename_i u z
          cases hc'
          refine ⟨_, sd_seq at1 (sd_seq (loop.1 u z) (sd_asg (en_cat (ds := ahead.map .int) (es := (lawAt c.1 one other kind).map .int) (ed_var rfl) (ed_var rfl) ?_).kn (np_kn rfl))), ?_⟩
          · have := al one other kind
            simp only [List.length_map]
            exact zs' (by omega)
          · simp only [inv3]
            rw [List.map_append]
            exact .same (.same (.same (.same (.same (.same (.drop (fun _ z => by cases z) (.drop (fun _ z => by cases z) (.same .nil))))))))
        · cases hc'
      · unfold paperK at hd
        split at hd
        · cases hd
        · rename_i e z
          cases hd
          obtain ⟨ρ', l⟩ := loop.2 _ z
          exact ⟨ρ', sd_seq at1 (sd_seqR l)⟩
    · obtain ⟨tl, e, hn⟩ := lotsF_ne (lawAt c.1 one other kind) [] (by simp)
      refine ok_tI fun r hr => hn r ?_
      unfold lotsF at hr
      rw [e] at hr
      exact hr
    · intro d hd
      obtain ⟨r, _, rfl⟩ := mem_tI hd
      exact depth_tI r
    · have := ll one other kind
      rw [List.length_map, List.length_drop]
      exact zs' (by omega)
  have turn2 : ∀ one ∈ c.2, ∀ other ∈ c.2, TurnD (gName 4) (tSeq (tAsg (tLst tNil) (gName 5)) (tFor (iList K (tVar 2)) (gName 6) body2)) tI (inv1 one) (paperO c order one) () other := by
    intro one ho other hot
    have loop := for_find (γ := List Int) (enc := tI) (bs := order) (c := []) (inv := inv3 one other) (f := paperK c one other) (g := gName 6) (tb := body2) (wi := iList K (tVar 2)) (ρ := inv3 one other []) (I := fun rest ahead => ahead.length + rest.length * 3 ≤ 192)
      (ei_list (ed_var rfl)) (by simp; omega) fun ahead kind rest hk hI => ⟨turn3 one ho other hot ahead kind (by omega), fun c' hc' => by
        have := al one other kind
        unfold paperK at hc'
        split at hc'
        · cases hc'
          simp only [List.length_cons, List.length_append] at hI ⊢
          omega
        · cases hc'⟩
    have st : SD (tAsg (tLst tNil) (gName 5)) [some (.kn (tI c.1)), some (.kn (tR c.2)), some (.kn (.list (order.map tI))), some (.kn (tI one)), some (.kn (tI other)), none, none, none, none] (.nx (inv3 one other [])) := sd_asg (en_lst (ds := []) ea_nil (Nat.zero_le _)).kn (np_of rfl)
    refine ⟨_, _, tg_name (np_of rfl), fun c' hc' => ?_, fun d hd => ?_⟩
    · unfold paperO at hc'
      split at hc'
      · rename_i u z
        exact ⟨_, sd_seq st (loop.1 u z), .same (.same (.same (.same (.drop (fun _ z => by cases z) (.drop (fun _ z => by cases z) (.same (.same (.same .nil))))))))⟩
      · cases hc'
    · unfold paperO at hd
      split at hd
      · cases hd
      · rename_i e z
        cases hd
        obtain ⟨ρ', l⟩ := loop.2 _ z
        exact ⟨ρ', sd_seq st l⟩
  have loop2 : ∀ one ∈ c.2, (∀ c', goOn (paperO c order one) c.2 () = .ok c' → SD (tFor (iTup K (tVar 1)) (gName 4) (tSeq (tAsg (tLst tNil) (gName 5)) (tFor (iList K (tVar 2)) (gName 6) body2))) (inv1 one ()) (.nx (inv1 one c'))) ∧ ∀ d, goOn (paperO c order one) c.2 () = .error d → ∃ ρ', SD (tFor (iTup K (tVar 1)) (gName 4) (tSeq (tAsg (tLst tNil) (gName 5)) (tFor (iList K (tVar 2)) (gName 6) body2))) (inv1 one ()) (.rt d ρ') := fun one ho =>
    for_find (γ := Unit) (enc := tI) (bs := c.2) (c := ()) (inv := inv1 one) (I := fun _ _ => True) (ei_tup (ed_var rfl)) True.intro fun _ other rest hot _ => ⟨turn2 one ho other hot, fun _ _ => True.intro⟩
  have loop1 : (∀ c', paperE c order = .ok c' → SD (tFor (iTup K (tVar 1)) (gName 3) (tFor (iTup K (tVar 1)) (gName 4) (tSeq (tAsg (tLst tNil) (gName 5)) (tFor (iList K (tVar 2)) (gName 6) body2)))) (inv0 ()) (.nx (inv0 c'))) ∧ ∀ d, paperE c order = .error d → ∃ ρ', SD (tFor (iTup K (tVar 1)) (gName 3) (tFor (iTup K (tVar 1)) (gName 4) (tSeq (tAsg (tLst tNil) (gName 5)) (tFor (iList K (tVar 2)) (gName 6) body2)))) (inv0 ()) (.rt d ρ') :=
    for_find (γ := Unit) (enc := tI) (bs := c.2) (c := ()) (inv := inv0) (I := fun _ _ => True) (ei_tup (ed_var rfl)) True.intro fun _ one rest ho _ => ⟨⟨_, _, tg_name (np_of rfl), fun c' hc' => ⟨_, (loop2 one ho).1 c' hc', by
      exact .same (.same (.same (.drop (fun _ z => by cases z) (.same (.same (.same (.same (.same .nil))))))))⟩, fun d hd => (loop2 one ho).2 d hd⟩, fun _ _ => True.intro⟩
  cases z : paperE c order with
  | ok u => exact ⟨_, sd_seq (loop1.1 u z) (sd_ret ed_c_non)⟩
  | error d =>
    obtain ⟨ρ', l⟩ := loop1.2 d z
    exact ⟨ρ', sd_seqR l⟩
end DW


set_option maxRecDepth 100000
set_option maxHeartbeats 1000000
namespace DW
open PySem PySem.Spec PyProof.Rows L2
/-! ### sorted(set(rows)) -/
theorem RpA.rows_inv {H : Hp} : ∀ {vs : List V} {rs : List (List Int)}, RpA H vs (rs.map tI) → ∃ ks : List (Addr × List Int), vs = ks.map (fun p => V.ref p.1) ∧ ks.map (·.2) = rs ∧ ∀ p ∈ ks, H p.1 = some (.tup (p.2.map V.int))
  | [], [], _ => ⟨[], rfl, rfl, fun p h => by cases h⟩
  | [], r :: rs, h => by cases h
  | v :: vs, [], h => by cases h
  | v :: vs, r :: rs, h => by
    rw [List.map_cons] at h
    cases h with
    | cons r1 t =>
      obtain ⟨ks, e1, e2, e3⟩ := RpA.rows_inv t
      unfold tI at r1
      cases r1 with
      | @tup p xs _ hp rx =>
        have := rx.ints_inv
        subst this
        exact ⟨(p, r) :: ks, by rw [e1]; rfl, by rw [← e2]; rfl, fun q hq => by
          rcases List.mem_cons.mp hq with z | z
          · rw [z]; exact hp
          · exact e3 q z⟩
theorem code_bd {B : Int} (hB : 0 < B) : ∀ {l : List Int}, TS.Bd B l → 0 ≤ TS.code B l ∧ TS.code B l < B ^ l.length
  | [], _ => by simp [TS.code]
  | x :: l, h => by
    obtain ⟨h1, h2⟩ := code_bd hB (l := l) h.tail
    obtain ⟨h3, h4⟩ := h.head
    have := TS.num1 h1 h2 h3 h4
    rw [List.length_cons, Int.pow_succ]
    exact this
theorem code_le {B : Int} (hB : 0 < B) : ∀ {a b : List Int}, a.length = b.length → TS.Bd B a → TS.Bd B b → TS.code B a ≤ TS.code B b → a ≤ b
  | [], [], _, _, _, _ => by simp
  | [], y :: b, e, _, _, _ => by simp at e
  | x :: a, [], e, _, _, _ => by simp at e
  | x :: a, y :: b, e, ha, hb, h => by
    have e' : a.length = b.length := by simpa using e
    have c1 := code_bd hB ha.tail
    have c2 := code_bd hB hb.tail
    unfold TS.code at h
    rw [e'] at h c1
    have hp : 0 < B ^ b.length := Int.pow_pos hB
    rcases Int.lt_trichotomy x y with z | z | z
    · exact List.cons_le_cons_iff.mpr (.inl z)
    · subst z
      exact List.cons_le_cons_iff.mpr (.inr ⟨rfl, code_le hB e' ha.tail hb.tail (by omega)⟩)
    · exfalso
      have : (y + 1) * B ^ b.length ≤ x * B ^ b.length := Int.mul_le_mul_of_nonneg_right (by omega) (Int.le_of_lt hp)
      rw [Int.add_mul, Int.one_mul] at this
      omega
theorem sort_eq {l : List (List Int)} {rs : List (List Int)} (hp : l.Perm rs) (hs : l.Pairwise (· ≤ ·)) : l = sortL rs := by
  have h2 : (sortL rs).Pairwise (· ≤ ·) := by
    have := List.pairwise_mergeSort (le := leL) (fun a b c h1 h2 => by
      unfold leL at *
      exact decide_eq_true (List.le_trans (of_decide_eq_true h1) (of_decide_eq_true h2))) (fun a b => by
      unfold leL
      rcases List.le_total a b with z | z <;> simp [z]) rs
    exact this.imp fun h => by simpa [leL] using h
  exact List.Perm.eq_of_pairwise (le := (· ≤ ·)) (fun a b _ _ h1 h2 => List.le_antisymm h1 h2) hs h2 (hp.trans (List.mergeSort_perm _ _).symm)
theorem nodup_map {α β : Type} (f : α → β) : ∀ {l : List α}, (l.map f).Nodup → l.Nodup
  | [], _ => List.nodup_nil
  | a :: l, h => by
    rw [List.map_cons] at h
    have h' := List.nodup_cons.mp h
    exact List.nodup_cons.mpr ⟨fun z => h'.1 (List.mem_map_of_mem z), nodup_map f h'.2⟩
theorem RpA.of_rows {H : Hp} : ∀ {ks : List (Addr × List Int)}, (∀ p ∈ ks, H p.1 = some (.tup (p.2.map V.int))) → RpA H (ks.map fun p => V.ref p.1) ((ks.map (·.2)).map tI)
  | [], _ => .nil
  | p :: ks, h => .cons (.tup (h p (by simp)) (RpA.ints p.2)) (RpA.of_rows fun q hq => h q (by simp [hq]))
section
variable {ρ ρ1 : En} {te : TE} {K : PySem.W.Frag} {P : Program} {w : World}
theorem en_setSort {rs : List (List Int)} {d : Nat} {B : Int} (h : EvD te ρ (.list (rs.map tI)) ρ1) (hd : 1 ≤ d) (hB : 0 < B) (hr : ∀ r ∈ rs, r.length = d ∧ TS.Bd B r) (hn : rs.Nodup) (hl : rs.length < 64) :
    EvN (tCB (rSortedT K P w) (tCons (tCB (rSetOfT K P w) (tCons te tNil)) tNil)) ρ ((sortL rs).map tI) ρ1 := fun Hk σ H a Q q =>
  h Hk σ H a _ fun u Hk1 H1 g1 r1 => by
    cases r1 with
    | @lst p xs _ hp r =>
      obtain ⟨ks, rfl, rfl, hk⟩ := RpA.rows_inv r
      have kh1 := g1.at'.kh
      refine ⟨p, ks, rfl, .of (kh1 _ _ hp), fun z hz => .of (kh1 _ _ (hk z hz)), by simpa using hl, fun b L hnb hs hc => ?_⟩
      have a1 := g1.trans (g1.at'.newH (o := SetTO P w b L) hnb)
      have hL : ∀ z ∈ L, H1 z.1 = some (.tup (z.2.map V.int)) := fun z hz => kh1 _ _ (hk z (hs z hz))
      have up : ∀ z ∈ L, upd H1 b (SetTO P w b L) z.1 = some (.tup (z.2.map V.int)) := fun z hz => by
        rw [upd_ne (fun e => by have := hL z hz; rw [e, hnb] at this; cases this)]
        exact hL z hz
      refine ⟨b, L, d, B, rfl, upd_same, fun z hz => .of (up z hz), hd, fun z hz => hr z.2 (List.mem_map_of_mem (hs z hz)), fun L' p2 pm nd hf pw hn2 => ?_⟩
      have n0 : H p2 = none := by
        cases q0 : H p2 with
        | none => rfl
        | some u => exact absurd hn2 (a1.gr.live p2 (by rw [q0]; simp))
      have hL' : ∀ z ∈ L', z ∈ ks := fun z hz => hs z (pm.mem_iff.mp hz)
      have e : L'.map (·.2) = sortL (ks.map (·.2)) := by
        refine sort_eq ?_ ?_
        · refine (List.perm_ext_iff_of_nodup nd hn).mpr fun r => ⟨fun hr => ?_, fun hr => ?_⟩
          · obtain ⟨z, hz, rfl⟩ := List.mem_map.mp hr
            exact List.mem_map_of_mem (hL' z hz)
          · obtain ⟨z, hz, rfl⟩ := List.mem_map.mp hr
            exact (pm.map (·.2)).mem_iff.mpr (hc z hz)
        · rw [List.pairwise_map]
          refine List.Pairwise.imp_of_mem (fun {x y} hx hy hle => ?_) pw
          have b1 := hr x.2 (List.mem_map_of_mem (hL' x hx))
          have b2 := hr y.2 (List.mem_map_of_mem (hL' y hy))
          exact code_le hB (b1.1.trans b2.1.symm) b1.2 b2.2 hle
      refine q p2 _ Hk1 _ (a1.trans (a1.at'.newH hn2)) n0 (a1.at'.kh.none hn2) upd_same ?_
      rw [← e]
      exact RpA.of_rows fun z hz => hk z (hL' z hz)
end
/-! ### a loop that may break -/
def goBr {β γ : Type} (f : γ → β → γ × Bool) : List β → γ → γ
  | [], c => c
  | b :: bs, c => if (f c b).2 = true then (f c b).1 else goBr f bs (f c b).1
section
variable {β γ : Type} {g : TG} {tb : TS} {enc : β → PyData} {inv : γ → En} {I : γ → Prop}
theorem loop_brk {f : γ → β → γ × Bool} : ∀ {bs : List β} {c : γ}, I c → (∀ c b, b ∈ bs → I c → I (f c b).1 ∧ ∃ ρa js ρb, TgD g (enc b) (inv c) ρa js ∧ ((f c b).2 = true → SD tb ρa (.bk ρb)) ∧ ((f c b).2 = false → SD tb ρa (.nx ρb)) ∧ Le (inv (f c b).1) ρb) →
    I (goBr f bs c) ∧ ∃ ρ', LoopD g tb (bs.map enc) (inv c) (.nx ρ') ∧ Le (inv (goBr f bs c)) ρ'
  | [], c, i, h => ⟨i, _, .nil, Le.refl _⟩
  | b :: bs, c, i, h => by
    obtain ⟨i2, ρa, js, ρb, h1, h2, h3, h4⟩ := h c b (by simp) i
    unfold goBr
    by_cases z : (f c b).2 = true
    · rw [if_pos z]
      exact ⟨i2, ρb, .brk h1 (h2 z), h4⟩
    · rw [if_neg z]
      obtain ⟨i3, ρ', l1, l2⟩ := loop_brk (bs := bs) i2 fun c b hb => h c b (by simp [hb])
      exact ⟨i3, ρ', .next h1 ((h3 (by simpa using z)).weak h4) l1, l2⟩
theorem for_brk {wi : TI} {ρ : En} {f : γ → β → γ × Bool} {bs : List β} {c : γ} (hi : EvI wi ρ (bs.map enc) (inv c)) (i0 : I c) (h : ∀ c b, b ∈ bs → I c → I (f c b).1 ∧ ∃ ρa js ρb, TgD g (enc b) (inv c) ρa js ∧ ((f c b).2 = true → SD tb ρa (.bk ρb)) ∧ ((f c b).2 = false → SD tb ρa (.nx ρb)) ∧ Le (inv (f c b).1) ρb) :
    I (goBr f bs c) ∧ SD (tFor wi g tb) ρ (.nx (inv (goBr f bs c))) := by
  obtain ⟨i2, ρ', l1, l2⟩ := loop_brk i0 h
  exact ⟨i2, (sd_for hi l1 fun r => ⟨fun z => by (cases z), fun z => by (cases z)⟩).weak l2⟩
end
end DW

set_option maxRecDepth 100000
set_option maxHeartbeats 1000000
namespace DW
open PySem PySem.Spec PyProof.Rows L2
/-! ### the hull -/
def hullIn (ps : List Int) (order : List (List Int)) (one : List Int) (more : List (List Int)) (other : List Int) : List (List Int) := more ++ (lawWay ps one other order).filter fun r => !decide (r ∈ more)
def hullMore (ps : List Int) (order found : List (List Int)) : List (List Int) := found.foldl (fun more one => found.foldl (hullIn ps order one) more) found
def hullStep (ps : List Int) (order : List (List Int)) (found : List (List Int)) (_ : Nat) : List (List Int) × Bool :=
  if (hullMore ps order found).length = found.length then (found, true) else (sortL (hullMore ps order found), false)
def lawHull (ps : List Int) (rows order : List (List Int)) : List (List Int) := goBr (hullStep ps order) (List.range 70) (sortL rows)
/-- what a hull is taken in -/
structure InBox (ps : List Int) (order W : List (List Int)) : Prop where
  n1 : 1 ≤ ps.length
  n3 : ps.length ≤ 3
  ord : order.length ≤ 64
  few : W.length ≤ 60
  row : ∀ r ∈ W, r.length = ps.length ∧ TS.Bd 64 r
  way : ∀ one ∈ W, ∀ other ∈ W, (lawWay ps one other order).Nodup ∧ ∀ r ∈ lawWay ps one other order, r ∈ W
def Sub (W l : List (List Int)) : Prop := l.Nodup ∧ ∀ r ∈ l, r ∈ W
theorem Sub.len {W l : List (List Int)} (h : Sub W l) : l.length ≤ W.length := List.Nodup.length_le_of_subset h.1 fun r hr => h.2 r hr
theorem Sub.sort {W l : List (List Int)} (h : Sub W l) : Sub W (sortL l) := ⟨(List.mergeSort_perm _ _).nodup_iff.mpr h.1, fun r hr => h.2 r ((List.mergeSort_perm _ _).mem_iff.mp hr)⟩
theorem Sub.hin {ps : List Int} {order W : List (List Int)} (B : InBox ps order W) {one other : List Int} {more : List (List Int)} (h1 : one ∈ W) (h2 : other ∈ W) (h : Sub W more) : Sub W (hullIn ps order one more other) := by
  obtain ⟨n, s⟩ := B.way one h1 other h2
  unfold hullIn
  refine ⟨List.nodup_append.mpr ⟨h.1, n.filter _, fun a ha b hb e => ?_⟩, fun r hr => ?_⟩
  · subst e
    have := (List.mem_filter.mp hb).2
    simp [ha] at this
  · rcases List.mem_append.mp hr with z | z
    · exact h.2 r z
    · exact s r (List.mem_filter.mp z).1
theorem Sub.hone {ps : List Int} {order W : List (List Int)} (B : InBox ps order W) {one : List Int} (h1 : one ∈ W) : ∀ {l more : List (List Int)}, (∀ r ∈ l, r ∈ W) → Sub W more → Sub W (l.foldl (hullIn ps order one) more)
  | [], _, _, h => h
  | o :: l, _, hl, h => Sub.hone B h1 (l := l) (fun r hr => hl r (by simp [hr])) (h.hin B h1 (hl o (by simp)))
theorem Sub.hmore {ps : List Int} {order W : List (List Int)} (B : InBox ps order W) {found : List (List Int)} (hf : Sub W found) : Sub W (hullMore ps order found) := by
  have : ∀ l more : List (List Int), (∀ r ∈ l, r ∈ W) → Sub W more → Sub W (l.foldl (fun more one => found.foldl (hullIn ps order one) more) more) := by
    intro l
    induction l with
    | nil => intro more _ h; exact h
    | cons o l ih =>
      intro more hl h
      exact ih _ (fun r hr => hl r (by simp [hr])) (Sub.hone B (hl o (by simp)) hf.2 h)
  exact this found found hf.2 hf
inductive R__law_hull : List Sl → PyData → Prop
  | mk (ps : List Int) (rows order W : List (List Int)) (B : InBox ps order W) (h : Sub W rows) : R__law_hull [.kn (tI ps), .kn (.list (rows.map tI)), .kn (.list (order.map tI))] (.list ((lawHull ps rows order).map tI))
abbrev st__law_hull : Stmt := topS 55
abbrev N__law_hull : List Str := ["_law_places", "_law_rows", "_law_order", "_law_found", "_law_turn", "_law_more", "_law_one", "_law_other", "_law_row"]
theorem sc__law_hull : FnScope N__law_hull ["_law_places", "_law_rows", "_law_order"] (defScope st__law_hull) := ⟨rfl, rfl, rfl, by decide +kernel, rfl, by decide +kernel, by decide +kernel⟩
theorem cl__law_hull {P : Program} {w : World} {K : PySem.W.Frag} {mg : Str → Option Value} {base : Heap} (T : Nm mg) (D : Dn K mg "_law_hull" st__law_hull ["_law_places", "_law_rows", "_law_order"]) (c__law_way : Cl P w K mg base 2 "_law_way" (spP R__law_way)) : Cl P w K mg base 3 "_law_hull" (spP R__law_hull) := by
  refine cl_of D sc__law_hull (by rintro _ _ ⟨⟩; rfl) fun f cdv A outer s H E hr => ⟨_, (pss_cons (ps_set (i := 3) sc__law_hull.nd rfl (by first | exact Or.inl rfl | exact Or.inr rfl) (pe_callB (cr_sortedT rfl) (by rfl) T.sorted bt_sorted (pa_cons (pe_callTy (cr_setOfT rfl hr.units) (by rfl) T.set bt_set (pa_cons (pv 1) pa_nil)) pa_nil)))
    (pss_cons (ps_for PassesOwn.never rfl (pi_range1 (by rfl) T.range (pa_cons pe_int pa_nil)) (pg_name (i := 4) sc__law_hull.nd rfl (by first | exact Or.inl rfl | exact Or.inr rfl))
      (pss_cons (ps_set (i := 5) sc__law_hull.nd rfl (by first | exact Or.inl rfl | exact Or.inr rfl) (pe_callTy cr_list (by rfl) T.list bt_list (pa_cons (pv 3) pa_nil)))
      (pss_cons (ps_for PassesOwn.never rfl (pi_list (pv 3)) (pg_name (i := 6) sc__law_hull.nd rfl (by first | exact Or.inl rfl | exact Or.inr rfl))
        (pss_one (ps_for PassesOwn.never rfl (pi_list (pv 3)) (pg_name (i := 7) sc__law_hull.nd rfl (by first | exact Or.inl rfl | exact Or.inr rfl))
          (pss_one (ps_set (i := 5) sc__law_hull.nd rfl (by first | exact Or.inl rfl | exact Or.inr rfl) (pe_op op_cat (pv 5) (pe_lc (own := [("_law_row", 8)]) (g := (gName 8)) (tt := _) rfl sc__law_hull.nd (pi_list (pe_cl c__law_way hr (by decide) (by rfl) (pa_cons (pv 0) (pa_cons (pv 6) (pa_cons (pv 7) (pa_cons (pv 2) pa_nil)))))) (blkOk_by (N := N__law_hull) (sc := defScope st__law_hull) (by decide +kernel)) (fun _ _ _ _ _ => (pg_name (i := 8) sc__law_hull.nd rfl (by first | exact Or.inl rfl | exact Or.inr rfl))) (fun _ _ _ _ _ => (pts_one (pt_cmpR (op_notInDK (K := K) (Room.un65 hr)) (pv 8) (pv 5) (by rfl)))) (fun _ _ _ _ _ => (pv 8)))))))))
      (pss_cons (ps_if (pt_cmpR op_eq (pe_callB cr_len (by rfl) T.len bt_len (pa_cons (pv 5) pa_nil)) (pe_callB cr_len (by rfl) T.len bt_len (pa_cons (pv 3) pa_nil)) (nomark _))
        (pss_one ps_break)
        pss_nil)
      (pss_one (ps_set (i := 3) sc__law_hull.nd rfl (by first | exact Or.inl rfl | exact Or.inr rfl) (pe_callB (KX.cr_sortedD hr.units) (by rfl) T.sorted bt_sorted (pa_cons (pv 5) pa_nil))))))))
    (pss_one (ps_ret (pv 3))))), ?_⟩
  rintro _ _ ⟨ps, rows, order, W, B, h⟩ -
  have B1 := B.n1
  have B2 := B.n3
  have B3 := B.ord
  have B4 := B.few
  let inv : List (List Int) → En := fun found => [some (.kn (tI ps)), some (.kn (.list (rows.map tI))), some (.kn (.list (order.map tI))), some (.kn (.list (found.map tI))), none, none, none, none, none]
  let inv1 : List (List Int) → Nat → List (List Int) → En := fun found k more => [some (.kn (tI ps)), some (.kn (.list (rows.map tI))), some (.kn (.list (order.map tI))), some (.kn (.list (found.map tI))), some (.kn (.int (k : Nat))), some (.kn (.list (more.map tI))), none, none, none]
  let inv2 : List (List Int) → Nat → List Int → List (List Int) → En := fun found k one more => [some (.kn (tI ps)), some (.kn (.list (rows.map tI))), some (.kn (.list (order.map tI))), some (.kn (.list (found.map tI))), some (.kn (.int (k : Nat))), some (.kn (.list (more.map tI))), some (.kn (tI one)), none, none]
  have hl := h.len
  have start := sd_asg (i := 3) (ρ := [some (.kn (tI ps)), some (.kn (.list (rows.map tI))), some (.kn (.list (order.map tI))), none, none, none, none, none, none]) (en_setSort (K := K) (P := P) (w := w) (te := tVar 1) (rs := rows) (d := ps.length) (B := 64) (ed_var rfl) B1 (by decide) (fun r hr => B.row r (h.2 r hr)) h.1 (by omega)).kn (np_of rfl)
  let body3 : TS := tAsg (tOp rCat (tVar 5) (tLc (iList K (tCall (spP R__law_way) [] E0 (tCons (tVar 0) (tCons (tVar 6) (tCons (tVar 7) (tCons (tVar 2) tNil)))))) (gName 8) (tTest (tOp (rNotInD K) (tVar 8) (tVar 5))) (tVar 8) [8])) (gName 5)
  have loop3 : ∀ found k one more, Sub W found → one ∈ W → Sub W more → SD (tFor (iList K (tVar 3)) (gName 7) body3) (inv2 found k one more) (.nx (inv2 found k one (found.foldl (hullIn ps order one) more))) := by
    intro found k one more hf ho hm
    refine for_acc (γ := List (List Int)) (enc := tI) (bs := found) (c := more) (inv := inv2 found k one) (step := hullIn ps order one) (I := fun rest more => Sub W more ∧ ∀ r ∈ rest, r ∈ W) (ei_list (ed_var rfl)) ⟨hm, hf.2⟩ fun more other rest hot hI => ⟨⟨hI.1.hin B ho (hI.2 other (by simp)), fun r hr' => hI.2 r (by simp [hr'])⟩, _, _, _, tg_name (np_of rfl),
      sd_asg (i := 5) (en_cat (ds := more.map tI) (es := ((lawWay ps one other order).filter fun r => !decide (r ∈ more)).map tI) (ed_var rfl) (EvD.to (en_filterT (enc := tI) (bs := lawWay ps one other order) (p := fun r => !decide (r ∈ more)) (f := tI) (ei_list (ed_call (ss := [.kn (tI ps), .kn (tI one), .kn (tI other), .kn (.list (order.map tI))]) (ea_cons (ed_var rfl) (ea_cons (ed_var rfl) (ea_cons (ed_var rfl) (ea_cons (ed_var rfl) ea_nil)))) (.d (.d (.d (.d .nil)))) (by simp [notOw]) (.mk ps one other order ?_ ?_ B2 B3)))
        (fun r hr => EvB.to (eb_test (ed_niL (ed_var rfl) (ed_var rfl) (shp_tI r) (shp_rowsL more))) (congrArg (! ·) (any_tI more r))) (fun r hr _ => ed_var rfl) (NoOw.of rfl) ?_).kn rfl) ?_).kn (np_kn rfl), ?_⟩
    · have hw := Sub.len (W := W) ⟨(B.way one ho other (hI.2 other (by simp))).1, (B.way one ho other (hI.2 other (by simp))).2⟩
      exact zs (by omega)
    · have hw := Sub.len (W := W) ⟨(B.way one ho other (hI.2 other (by simp))).1, (B.way one ho other (hI.2 other (by simp))).2⟩
      have := List.length_filter_le (fun r => !decide (r ∈ more)) (lawWay ps one other order)
      have := hI.1.len
      simp only [List.length_map]
      exact zs' (by omega)
    · simp only [inv2, hullIn]
      rw [List.map_append]
      exact .same (.same (.same (.same (.same (.same (.same (.drop (fun _ z => by cases z) (.same .nil))))))))
    · exact (B.row one ho).1
    · exact (B.row other (hI.2 other (by simp))).1
  have loop2 : ∀ found k, Sub W found → SD (tFor (iList K (tVar 3)) (gName 6) (tFor (iList K (tVar 3)) (gName 7) body3)) (inv1 found k found) (.nx (inv1 found k (hullMore ps order found))) := by
    intro found k hf
    refine for_acc (γ := List (List Int)) (enc := tI) (bs := found) (c := found) (inv := inv1 found k) (step := fun more one => found.foldl (hullIn ps order one) more) (I := fun rest more => Sub W more ∧ ∀ r ∈ rest, r ∈ W) (ei_list (ed_var rfl)) ⟨hf, hf.2⟩ fun more one rest hot ⟨hm, hr⟩ => ⟨⟨Sub.hone B (hr one (by simp)) hf.2 hm, fun r hr' => hr r (by simp [hr'])⟩, _, _, _, tg_name (np_of rfl),
      loop3 found k one more hf (hr one (by simp)) hm, ?_⟩
    exact .same (.same (.same (.same (.same (.same (.drop (fun _ z => by cases z) (.same (.same .nil))))))))
  have mid : ∀ found k, Sub W found → SD (tAsg (tCB (rListOf K) (tCons (tVar 3) tNil)) (gName 5)) [some (.kn (tI ps)), some (.kn (.list (rows.map tI))), some (.kn (.list (order.map tI))), some (.kn (.list (found.map tI))), some (.kn (.int (k : Nat))), none, none, none, none] (.nx (inv1 found k found)) := fun found k hf =>
    sd_asg (i := 5) (en_listL (ds := found.map tI) (ed_var rfl)).kn (np_of rfl)
  have test : ∀ found k, EvB (tTest (tOp rEq (tCB (rLen K) (tCons (tVar 5) tNil)) (tCB (rLen K) (tCons (tVar 3) tNil)))) (inv1 found k (hullMore ps order found)) (decide ((hullMore ps order found).length = found.length)) (inv1 found k (hullMore ps order found)) := fun found k =>
    EvB.to (eb_test (ed_eqI (ed_lenL (ds := (hullMore ps order found).map tI) (ed_var rfl)) (ed_lenL (ds := found.map tI) (ed_var rfl)))) (by simp only [List.length_map]; exact decide_eq_decide.mpr (by omega))
  have loop1 := for_brk (γ := List (List Int)) (enc := fun k : Nat => .int (k : Nat)) (bs := List.range 70) (c := sortL rows) (inv := inv) (f := hullStep ps order) (I := Sub W) (wi := iRng1 (tCons (tC (.int 70)) tNil)) (g := gName 4) (ρ := inv (sortL rows))
    (tb := tSeq (tAsg (tCB (rListOf K) (tCons (tVar 3) tNil)) (gName 5)) (tSeq (tFor (iList K (tVar 3)) (gName 6) (tFor (iList K (tVar 3)) (gName 7) body3)) (tSeq (tIfS (tTest (tOp rEq (tCB (rLen K) (tCons (tVar 5) tNil)) (tCB (rLen K) (tCons (tVar 3) tNil)))) tBreak tNext) (tAsg (tCB (KX.rSortD K) (tCons (tVar 5) tNil)) (gName 3)))))
    (EvI.to (ei_range ed_c_int (by decide) (by decide)) rfl) h.sort fun found k hk hf => by
      have hm := hf.hmore B
      have hml := hm.len
      by_cases z : (hullMore ps order found).length = found.length
      · have e : hullStep ps order found k = (found, true) := by unfold hullStep; rw [if_pos z]
        rw [e]
        have run := sd_seq (mid found k hf) (sd_seq (loop2 found k hf) (sd_seqX (u := tAsg (tCB (KX.rSortD K) (tCons (tVar 5) tNil)) (gName 3)) (sd_T (u := tNext) (EvB.to (test found k) (decide_eq_true z)) sd_break) fun r q => by cases q))
        refine ⟨hf, _, _, _, tg_name (np_of rfl), fun _ => run, ?_, ?_⟩
        · intro q
          cases q
        exact .same (.same (.same (.same (.drop (fun _ z => by cases z) (.drop (fun _ z => by cases z) (.same (.same (.same .nil))))))))
      · have e : hullStep ps order found k = (sortL (hullMore ps order found), false) := by unfold hullStep; rw [if_neg z]
        rw [e]
        have srt : EvD (tCB (KX.rSortD K) (tCons (tVar 5) tNil)) (inv1 found k (hullMore ps order found)) (.list ((sortL (hullMore ps order found)).map tI)) (inv1 found k (hullMore ps order found)) := EvD.to (en_sort (ds := (hullMore ps order found).map tI) (ed_var rfl) (.l _) (alike_tI _) ?_ ?_ ?_).kn (by rw [sort_tI])
        have run := sd_seq (mid found k hf) (sd_seq (loop2 found k hf) (sd_seq (sd_F (t := tBreak) (EvB.to (test found k) (decide_eq_false z)) sd_nx) (sd_asg (i := 3) srt (np_kn rfl))))
        refine ⟨hm.sort, _, _, _, tg_name (np_of rfl), ?_, fun _ => run, ?_⟩
        · intro q
          cases q
        · exact .same (.same (.same (.same (.drop (fun _ z => by cases z) (.drop (fun _ z => by cases z) (.same (.same (.same .nil))))))))
        · refine ok_tI fun r hr q => ?_
          have := (B.row r (hm.2 r hr)).1
          rw [q] at this
          simp at this
          omega
        · intro d hd
          obtain ⟨r, _, rfl⟩ := mem_tI hd
          exact depth_tI r
        · rw [List.length_map]
          exact zs' (by omega)
  exact ⟨_, sd_seq start (sd_seq loop1.2 (sd_ret (ed_var rfl)))⟩
end DW


set_option maxRecDepth 100000
set_option maxHeartbeats 1000000
namespace DW
open PySem PySem.Spec PyProof.Rows L2
/-! ### all rows -/
def allAt (cols : List Int) (p : Int) (row : List Int) : List (List Int) := (List.range (cols.getD p.toNat 0).toNat).map fun v : Nat => row ++ [(v : Int)]
def allStep (cols : List Int) (found : List (List Int)) (p : Int) : List (List Int) := found.foldl (fun longer row => longer ++ allAt cols p row) []
def allRows (cols ps : List Int) : List (List Int) := ps.foldl (allStep cols) [[]]
theorem fold_app {α β : Type} (f : β → List α) : ∀ (l : List β) (acc : List α), l.foldl (fun acc b => acc ++ f b) acc = acc ++ l.flatMap f
  | [], acc => by simp
  | b :: l, acc => by rw [List.foldl_cons, fold_app f l]; simp
theorem allStep_eq (cols : List Int) (found : List (List Int)) (p : Int) : allStep cols found p = found.flatMap (allAt cols p) := by
  unfold allStep
  rw [fold_app]
  rfl
def smallCols (cols : List Int) : Prop := cols.length ≤ 4 ∧ ∀ c ∈ cols, 1 ≤ c ∧ c ≤ 4
theorem allAt_len {cols : List Int} (h : smallCols cols) (p : Int) (row : List Int) : (allAt cols p row).length ≤ 4 := by
  unfold allAt
  rw [List.length_map, List.length_range, List.getD_eq_getElem?_getD]
  cases e : cols[p.toNat]? with
  | none => simp
  | some c =>
    have := h.2 c (List.mem_of_getElem? e)
    simp only [Option.getD_some]
    omega
theorem allStep_len {cols : List Int} (h : smallCols cols) (p : Int) : ∀ found : List (List Int), (allStep cols found p).length ≤ found.length * 4
  | [] => by simp [allStep]
  | r :: found => by
    have h1 := allStep_len h p found
    have h2 := allAt_len h p r
    rw [allStep_eq] at h1 ⊢
    rw [List.flatMap_cons, List.length_append, List.length_cons]
    omega
inductive R__law_all_rows : List Sl → PyData → Prop
  | mk (cols ps : List Int) (h : smallCols cols) (h2 : ∀ p ∈ ps, 0 ≤ p ∧ p < cols.length) (h3 : ps.length ≤ 3) : R__law_all_rows [.kn (.list (cols.map .int)), .kn (tI ps)] (.list ((allRows cols ps).map tI))
abbrev st__law_all_rows : Stmt := topS 57
abbrev N__law_all_rows : List Str := ["_law_columns", "_law_places", "_law_found", "_law_place", "_law_longer", "_law_row", "_law_value"]
theorem sc__law_all_rows : FnScope N__law_all_rows ["_law_columns", "_law_places"] (defScope st__law_all_rows) := ⟨rfl, rfl, rfl, by decide +kernel, rfl, by decide +kernel, by decide +kernel⟩
theorem cl__law_all_rows {P : Program} {w : World} {K : PySem.W.Frag} {mg : Str → Option Value} {base : Heap} (T : Nm mg) (D : Dn K mg "_law_all_rows" st__law_all_rows ["_law_columns", "_law_places"]) : Cl P w K mg base 1 "_law_all_rows" (spP R__law_all_rows) := by
  refine cl_of D sc__law_all_rows (by rintro _ _ ⟨⟩; rfl) fun f cdv A outer s H E hr => ⟨_, (pss_cons (ps_set (i := 2) sc__law_all_rows.nd rfl (by first | exact Or.inl rfl | exact Or.inr rfl) (pe_lst (pa_cons (pe_tup pa_nil) pa_nil)))
    (pss_cons (ps_for PassesOwn.never rfl (pi_tup (pv 1)) (pg_name (i := 3) sc__law_all_rows.nd rfl (by first | exact Or.inl rfl | exact Or.inr rfl))
      (pss_cons (ps_set (i := 4) sc__law_all_rows.nd rfl (by first | exact Or.inl rfl | exact Or.inr rfl) (pe_lst pa_nil))
      (pss_cons (ps_for PassesOwn.never rfl (pi_list (pv 2)) (pg_name (i := 5) sc__law_all_rows.nd rfl (by first | exact Or.inl rfl | exact Or.inr rfl))
        (pss_one (ps_set (i := 4) sc__law_all_rows.nd rfl (by first | exact Or.inl rfl | exact Or.inr rfl) (pe_op op_cat (pv 4) (pe_lc (own := [("_law_value", 6)]) (g := (gName 6)) (tt := _) rfl sc__law_all_rows.nd (pi_range1 (by rfl) T.range (pa_cons (pe_ix ix_list (pv 0) (pv 3) (fun _ _ => rfl)) pa_nil)) (blkOk_by (N := N__law_all_rows) (sc := defScope st__law_all_rows) (by decide +kernel)) (fun _ _ _ _ _ => (pg_name (i := 6) sc__law_all_rows.nd rfl (by first | exact Or.inl rfl | exact Or.inr rfl))) (fun _ _ _ _ _ => pts_nil) (fun _ _ _ _ _ => (pe_op (op_catAK (K := K)) (pv 5) (pe_tup (pa_cons (pv 6) pa_nil)))))))))
      (pss_one (ps_set (i := 2) sc__law_all_rows.nd rfl (by first | exact Or.inl rfl | exact Or.inr rfl) (pv 4))))))
    (pss_one (ps_ret (pv 2))))), ?_⟩
  rintro _ _ ⟨cols, ps, h, h2, h3⟩ -
  let inv : List (List Int) → En := fun found => [some (.kn (.list (cols.map .int))), some (.kn (tI ps)), some (.kn (.list (found.map tI))), none, none, none, none]
  let inv1 : List (List Int) → Int → List (List Int) → En := fun found p longer => [some (.kn (.list (cols.map .int))), some (.kn (tI ps)), some (.kn (.list (found.map tI))), some (.kn (.int p)), some (.kn (.list (longer.map tI))), none, none]
  have start := sd_asg (i := 2) (ρ := [some (.kn (.list (cols.map .int))), some (.kn (tI ps)), none, none, none, none, none]) (en_lst (ds := [tI []]) (ea_cons (ed_tup (ds := []) ea_nil (Nat.zero_le _)) ea_nil) (by show 1 ≤ sizeLine; decide)).kn (np_of rfl)
  let body : TS := tAsg (tOp rCat (tVar 4) (tLc (iRng1 (tCons (tOp (rIxL K) (tVar 0) (tVar 3)) tNil)) (gName 6) tYes (tOp (rCatA K) (tVar 5) (tTup (tCons (tVar 6) tNil))) [6])) (gName 4)
  have loop2 : ∀ found, ∀ p ∈ ps, found.length ≤ 16 → (∀ r ∈ found, r.length ≤ 3) → SD (tFor (iList K (tVar 2)) (gName 5) body) (inv1 found p []) (.nx (inv1 found p (allStep cols found p))) := by
    intro found p hp hf hr
    have hc : 1 ≤ cols.getD p.toNat 0 ∧ cols.getD p.toNat 0 ≤ 4 := by
      have h0 := h2 p hp
      have : cols[p.toNat]? = some (cols.getD p.toNat 0) := by
        rw [List.getD_eq_getElem?_getD, List.getElem?_eq_getElem (by omega)]
        rfl
      exact h.2 _ (List.mem_of_getElem? this)
    have ix : ∀ ρ : En, ρ[0]? = some (some (.kn (.list (cols.map .int)))) → ρ[3]? = some (some (.kn (.int p))) → EvD (tOp (rIxL K) (tVar 0) (tVar 3)) ρ (.int (cols.getD p.toNat 0)) ρ := fun ρ e0 e3 => by
      have h0 := h2 p hp
      have q := atI_getD (l := cols) (k := p.toNat) (by omega)
      rw [Int.toNat_of_nonneg h0.1] at q
      exact ed_ixL (ds := cols.map .int) (ed_var e0) (ed_var e3) q
    refine for_acc (γ := List (List Int)) (enc := tI) (bs := found) (c := []) (inv := inv1 found p) (step := fun longer row => longer ++ allAt cols p row) (I := fun rest longer => longer.length + rest.length * 4 ≤ 64 ∧ ∀ r ∈ rest, r.length ≤ 3) (ei_list (ed_var rfl)) ⟨by simp; omega, hr⟩ fun longer row rest hrow hI => ⟨⟨?_, fun r q => hI.2 r (by simp [q])⟩, _, _, _, tg_name (np_of rfl),
      sd_asg (i := 4) (en_cat (ds := longer.map tI) (es := (allAt cols p row).map tI) (ed_var rfl) (EvD.to (en_mapT (enc := fun v : Nat => .int (v : Nat)) (bs := List.range (cols.getD p.toNat 0).toNat) (f := fun v : Nat => tI (row ++ [(v : Int)])) (EvI.to (ei_range (ix _ rfl rfl) (by omega) (by omega)) rfl)
        (fun v hv => EvD.to (ed_catT (ds := row.map .int) (es := [.int (v : Nat)]) (ed_var rfl) (ed_tup (ds := [.int (v : Nat)]) (ea_cons (ed_var rfl) ea_nil) (by show 1 ≤ sizeLine; decide)) ?_) (by simp [tI])) (NoOw.of rfl) ?_).kn ?_) ?_).kn (np_kn rfl), ?_⟩
    · have := allAt_len h p row
      have := hI.1
      simp only [List.length_cons, List.length_append] at this ⊢
      omega
    · have := hI.2 row (by simp)
      simp only [List.length_map, List.length_cons, List.length_nil]
      exact zs' (by omega)
    · rw [List.length_range]
      exact zs (by omega)
    · unfold allAt
      rw [List.map_map]
      rfl
    · have := allAt_len h p row
      have := hI.1
      simp only [List.length_cons, List.length_map] at this ⊢
      exact zs' (by omega)
    · simp only [inv1]
      rw [List.map_append]
      exact .same (.same (.same (.same (.same (.drop (fun _ z => by cases z) (.same .nil))))))
  refine ⟨_, sd_seq start (sd_seq (for_acc (γ := List (List Int)) (enc := .int) (bs := ps) (c := [[]]) (inv := inv) (step := allStep cols) (I := fun rest found => found.length * 4 ^ rest.length ≤ 64 ∧ ∀ r ∈ found, r.length + rest.length ≤ 3) (ei_tup (ed_var rfl)) ?_ fun found p rest hp hI => ⟨?_, _, _, _, tg_name (np_of rfl),
    sd_seq (sd_asg (en_lst (ds := []) ea_nil (Nat.zero_le _)).kn (np_of rfl)) (sd_seq (loop2 found p hp ?_ ?_) (sd_asg (i := 2) (ed_var rfl) (np_kn rfl))), ?_⟩) (sd_ret (ed_var rfl)))⟩
  · refine ⟨?_, fun r hr => ?_⟩
    · have : 4 ^ ps.length ≤ 4 ^ 3 := Nat.pow_le_pow_right (by decide) h3
      simpa using this
    · rw [List.mem_singleton.mp hr]
      simpa using h3
  · have hl := allStep_len h p found
    refine ⟨?_, fun r hr => ?_⟩
    · have h1 := hI.1
      rw [List.length_cons, Nat.pow_succ, Nat.mul_comm (4 ^ rest.length), ← Nat.mul_assoc] at h1
      exact Nat.le_trans (Nat.mul_le_mul_right _ hl) h1
    · rw [allStep_eq] at hr
      obtain ⟨r0, h5, h6⟩ := List.mem_flatMap.mp hr
      obtain ⟨v, _, rfl⟩ := List.mem_map.mp h6
      have := hI.2 r0 h5
      simp only [List.length_cons, List.length_append, List.length_nil] at this ⊢
      omega
  · have h1 := hI.1
    rw [List.length_cons, Nat.pow_succ, Nat.mul_comm (4 ^ rest.length), ← Nat.mul_assoc] at h1
    have h2 : 1 ≤ 4 ^ rest.length := Nat.one_le_pow _ _ (by decide)
    have := Nat.le_trans (Nat.le_mul_of_pos_right (found.length * 4) h2) h1
    omega
  · intro r hr
    have := hI.2 r hr
    omega
  · exact .same (.same (.same (.drop (fun _ z => by cases z) (.drop (fun _ z => by cases z) (.same (.same .nil))))))
end DW


set_option maxRecDepth 100000
set_option maxHeartbeats 1000000
namespace DW
open PySem PySem.Spec PyProof.Rows L2
/-! ### while -/
def whl {γ : Type} (p : γ → Bool) (step : γ → γ) : Nat → γ → γ
  | 0, c => c
  | n + 1, c => if p c = true then whl p step n (step c) else c
section
variable {γ : Type} {tc : TT} {tb : TS} {inv : γ → En} {p : γ → Bool} {step : γ → γ} {I : γ → Prop} {μ : γ → Nat}
theorem sd_while {n : Nat} {c : γ} (i0 : I c) (hn : μ c < n) (h : ∀ c, I c → EvB tc (inv c) (p c) (inv c) ∧ (p c = true → I (step c) ∧ μ (step c) < μ c ∧ SD tb (inv c) (.nx (inv (step c))))) : SD (tWhile tc tb) (inv c) (.nx (inv (whl p step n c))) := fun Hk σ H D a q => by
  refine ⟨fun m σ' H' => ∃ c' k Hk', m = μ c' ∧ μ c' < k ∧ whl p step k c' = whl p step n c ∧ I c' ∧ GoS (inv c) Hk σ H (inv c') Hk' σ' H', ⟨μ c, c, n, Hk, rfl, hn, rfl, i0, GoS.refl a⟩, ?_⟩
  rintro m σ' H' ⟨c', k, Hk', rfl, hk, e, i, g⟩
  obtain ⟨h1, h2⟩ := h c' i
  refine h1 Hk' σ' H' g.at' _ fun Hk2 H2 g2 => ?_
  obtain ⟨k, rfl⟩ : ∃ j, k = j + 1 := ⟨k - 1, by omega⟩
  by_cases z : p c' = true
  · obtain ⟨i2, m2, s2⟩ := h2 z
    rw [if_pos z]
    refine ⟨fun σ3 H3 => ∃ Hk3, GoS (inv c) Hk σ H (inv (step c')) Hk3 σ3 H3, fun σ3 H3 ⟨Hk3, g3⟩ => ⟨μ (step c'), m2, step c', k, Hk3, rfl, by omega, ?_, i2, g3⟩, ?_⟩
    · rw [← e]
      conv => rhs; unfold whl
      rw [if_pos z]
    · exact s2 Hk2 σ' H2 _ g2.at' fun Hk3 σ3 H3 g3 => ⟨Hk3, (g.trans g2.s).trans g3⟩
  · rw [if_neg z]
    have e2 : c' = whl p step n c := by
      rw [← e]
      conv => rhs; unfold whl
      rw [if_neg z]
    refine q Hk2 σ' H2 ?_
    show GoS (inv c) Hk σ H (inv (whl p step n c)) Hk2 σ' H2
    rw [← e2]
    exact g.trans g2.s
end
/-! ### a comprehension that changes the state -/
section
variable {β γ : Type}
def lcB (tst : γ → β → Bool × γ) (el : γ → β → PyData × γ) : List β → γ → List PyData × γ
  | [], c => ([], c)
  | b :: bs, c => if (tst c b).1 = true then ((el (tst c b).2 b).1 :: (lcB tst el bs (el (tst c b).2 b).2).1, (lcB tst el bs (el (tst c b).2 b).2).2) else lcB tst el bs (tst c b).2
variable {wi : TI} {tt : TT} {te : TE} {ρ : En} {enc : β → PyData} {inv : γ → En} {tst : γ → β → Bool × γ} {el : γ → β → PyData × γ} {j : Nat}
theorem wipe_none {ρ : En} (h : ρ[j]? = some none) : wipeE ρ [j] = ρ := by
  have hl : j < ρ.length := (List.getElem?_eq_some_iff.mp h).1
  refine List.ext_getElem? fun i => ?_
  by_cases hi : i < ρ.length
  · rw [wipeE_get ρ [j] i hi]
    by_cases z : i ∈ [j]
    · rw [if_pos z]
      simp only [List.mem_singleton] at z
      rw [z, h]
    · rw [if_neg z]
  · rw [List.getElem?_eq_none (by rw [wipeE_len]; omega), List.getElem?_eq_none (by omega)]
theorem lc_B (hj : ∀ c, (inv c)[j]? = some none) : ∀ {bs : List β} {c : γ}, (∀ c b, b ∈ bs → EvB tt ((inv c).set j (some (.kn (enc b)))) (tst c b).1 ((inv (tst c b).2).set j (some (.kn (enc b)))) ∧ ((tst c b).1 = true → EvD te ((inv (tst c b).2).set j (some (.kn (enc b)))) (el (tst c b).2 b).1 ((inv (el (tst c b).2 b).2).set j (some (.kn (enc b)))))) →
    LcD (gName j) tt te [j] (bs.map enc) (inv c) (lcB tst el bs c).1 (inv (lcB tst el bs c).2)
  | [], c, _ => .nil
  | b :: bs, c, h => by
    obtain ⟨h1, h2⟩ := h c b (by simp)
    have np : ∀ c, ¬ Pin (inv c) j := fun c ⟨ds, e⟩ => by
      rw [hj c] at e
      cases e
    have wp : ∀ c, inv c = wipeE ((inv c).set j (some (.kn (enc b)))) [j] := fun c => by
      rw [← wipe_none (hj c), wipe_set1, ← wipe_set1, set_wipe1]
    unfold lcB
    by_cases z : (tst c b).1 = true
    · rw [if_pos z]
      rw [z] at h1
      exact .yes (tg_name (np c)) (fun i h => h) h1 (h2 z) (wp _) (lc_B hj fun c b hb => h c b (by simp [hb]))
    · rw [if_neg z]
      have z' : (tst c b).1 = false := by simpa using z
      rw [z'] at h1
      exact .no (tg_name (np c)) (fun i h => h) h1 (wp _) (lc_B hj fun c b hb => h c b (by simp [hb]))
theorem back_B {ρ1 ρ2 : En} (hl : ρ1.length = ρ2.length) (h1 : ρ1[j]? = some none) (h2 : ρ2[j]? = some none) : Back ρ1 ρ2 [j] ρ2 :=
  ⟨rfl, fun i _ => rfl, fun i hi => by
    simp only [List.mem_singleton] at hi
    subst hi
    exact ⟨h2.trans h1.symm, fun p ds e => by rw [h1] at e; cases e⟩⟩
theorem en_lcB {bs : List β} {c : γ} (hj : ∀ c, (inv c)[j]? = some none) (hln : ∀ c d, (inv c).length = (inv d).length) (hi : EvI wi ρ (bs.map enc) (inv c)) (h : ∀ c b, b ∈ bs → EvB tt ((inv c).set j (some (.kn (enc b)))) (tst c b).1 ((inv (tst c b).2).set j (some (.kn (enc b)))) ∧ ((tst c b).1 = true → EvD te ((inv (tst c b).2).set j (some (.kn (enc b)))) (el (tst c b).2 b).1 ((inv (el (tst c b).2 b).2).set j (some (.kn (enc b))))))
    (hz : bs.length < sizeLine) : EvN (tLc wi (gName j) tt te [j]) ρ (lcB tst el bs c).1 (inv (lcB tst el bs c).2) :=
  en_lc hi (by rw [wipe_none (hj c)]; exact lc_B hj h) (back_B (hln _ _) (hj _) (hj _)) (by rw [List.length_map]; exact hz)
end
end DW

set_option maxRecDepth 100000
set_option maxHeartbeats 1000000
namespace DW
open PySem PySem.Spec PyProof.Rows L2
/-! ### the rows of a book's check -/
theorem mem_foldRows (cols : List Int) : ∀ (ps : List Int) (acc : List (List Int)) (r : List Int), r ∈ ps.foldl (allStep cols) acc ↔ ∃ a ∈ acc, ∃ s : List Int, r = a ++ s ∧ s.length = ps.length ∧ ∀ k, k < ps.length → 0 ≤ s.getD k 0 ∧ s.getD k 0 < cols.getD (ps.getD k 0).toNat 0
  | [], acc, r => by
    constructor
    · intro h
      exact ⟨r, h, [], by simp, rfl, fun k hk => by simp at hk⟩
    · rintro ⟨a, ha, s, rfl, hs, _⟩
      rw [List.eq_nil_of_length_eq_zero hs, List.append_nil]
      exact ha
  | p :: ps, acc, r => by
    rw [List.foldl_cons, mem_foldRows cols ps]
    constructor
    · rintro ⟨a, ha, s, rfl, hs, hb⟩
      rw [allStep_eq] at ha
      obtain ⟨a0, h0, h1⟩ := List.mem_flatMap.mp ha
      obtain ⟨v, hv, rfl⟩ := List.mem_map.mp h1
      have hv := List.mem_range.mp hv
      refine ⟨a0, h0, (v : Int) :: s, by simp, by simp [hs], fun k hk => ?_⟩
      cases k with
      | zero =>
        simp only [List.getD_cons_zero]
        omega
      | succ k =>
        simp only [List.getD_cons_succ]
        exact hb k (by simpa using hk)
    · rintro ⟨a, ha, s, rfl, hs, hb⟩
      match s, hs with
      | v :: s, hs =>
        have h0 := hb 0 (by simp)
        simp only [List.getD_cons_zero] at h0
        refine ⟨a ++ [v], ?_, s, by simp, by simpa using hs, fun k hk => ?_⟩
        · rw [allStep_eq]
          refine List.mem_flatMap.mpr ⟨a, ha, List.mem_map.mpr ⟨v.toNat, List.mem_range.mpr (by omega), by rw [Int.toNat_of_nonneg h0.1]⟩⟩
        · have := hb (k + 1) (by simpa using hk)
          simpa only [List.getD_cons_succ] using this
theorem mem_allRows {cols ps r : List Int} : r ∈ allRows cols ps ↔ r.length = ps.length ∧ ∀ k, k < ps.length → 0 ≤ r.getD k 0 ∧ r.getD k 0 < cols.getD (ps.getD k 0).toNat 0 := by
  unfold allRows
  rw [mem_foldRows]
  constructor
  · rintro ⟨a, ha, s, rfl, h1, h2⟩
    rw [List.mem_singleton.mp ha]
    exact ⟨h1, h2⟩
  · rintro ⟨h1, h2⟩
    exact ⟨[], by simp, r, rfl, h1, h2⟩
theorem nodup_foldRows (cols : List Int) : ∀ (ps : List Int) (acc : List (List Int)), acc.Nodup → (ps.foldl (allStep cols) acc).Nodup
  | [], _, h => h
  | p :: ps, acc, h => by
    rw [List.foldl_cons]
    refine nodup_foldRows cols ps _ ?_
    rw [allStep_eq]
    refine List.pairwise_flatMap.mpr ⟨fun a ha => ?_, ?_⟩
    · unfold allAt
      rw [List.pairwise_map]
      refine List.nodup_range.imp fun {u v} huv e => huv ?_
      have := List.append_cancel_left e
      simp at this
      omega
    · refine List.Pairwise.imp (fun {a b} hab x hx y hy e => ?_) h
      obtain ⟨u, _, rfl⟩ := List.mem_map.mp hx
      obtain ⟨v, _, rfl⟩ := List.mem_map.mp hy
      exact hab (List.append_inj_left' e rfl)
theorem nodup_allRows (cols ps : List Int) : (allRows cols ps).Nodup := nodup_foldRows cols ps [[]] (by simp)
def cols3 (cols : List Int) : Prop := (1 ≤ cols.length ∧ cols.length ≤ 3) ∧ ∀ c ∈ cols, 1 ≤ c ∧ c ≤ 3
theorem cols3.small {cols : List Int} (h : cols3 cols) : smallCols cols := ⟨by have := h.1; omega, fun c hc => by have := h.2 c hc; omega⟩
theorem cols3.get {cols : List Int} (h : cols3 cols) (k : Nat) : cols.getD k 0 ≤ 3 := by
  rw [List.getD_eq_getElem?_getD]
  cases e : cols[k]? with
  | none => simp
  | some c => have := h.2 c (List.mem_of_getElem? e); simpa using this.2
theorem len_foldRows {cols : List Int} (h : cols3 cols) : ∀ (ps : List Int) (acc : List (List Int)), (ps.foldl (allStep cols) acc).length ≤ acc.length * 3 ^ ps.length
  | [], acc => by simp
  | p :: ps, acc => by
    have h1 := len_foldRows h ps (allStep cols acc p)
    have h2 : (allStep cols acc p).length ≤ acc.length * 3 := by
      rw [allStep_eq]
      induction acc with
      | nil => simp
      | cons r acc ih =>
        have : (allAt cols p r).length ≤ 3 := by
          unfold allAt
          rw [List.length_map, List.length_range]
          have := h.get p.toNat
          omega
        rw [List.flatMap_cons, List.length_append, List.length_cons]
        have := ih (len_foldRows h ps (allStep cols acc p))
        omega
    rw [List.foldl_cons]
    refine Nat.le_trans h1 ?_
    rw [List.length_cons, Nat.pow_succ, Nat.mul_comm (3 ^ ps.length), ← Nat.mul_assoc]
    exact Nat.mul_le_mul_right _ h2
theorem len_allRows {cols ps : List Int} (h : cols3 cols) (h3 : ps.length ≤ 3) : (allRows cols ps).length ≤ 27 := by
  have h1 := len_foldRows h ps [[]]
  have : 3 ^ ps.length ≤ 3 ^ 3 := Nat.pow_le_pow_right (by decide) h3
  unfold allRows
  simp only [List.length_cons, List.length_nil] at h1
  omega
/-! ### a row set from two -/
theorem lawSet_len (one other lot : List Int) : (lawSet one other lot).length = one.length := by
  unfold lawSet
  rw [List.length_map, List.length_range]
theorem lawSet_get {one other lot : List Int} {k : Nat} (hk : k < one.length) : (lawSet one other lot).getD k 0 = if (k : Int) ∈ lot then other.getD k 0 else one.getD k 0 := by
  unfold lawSet
  rw [List.getD_eq_getElem?_getD, List.getElem?_map, List.getElem?_range hk]
  simp
theorem set_in {cols ps one other : List Int} (lot : List Int) (h1 : one ∈ allRows cols ps) (h2 : other ∈ allRows cols ps) : lawSet one other lot ∈ allRows cols ps := by
  rw [mem_allRows] at h1 h2 ⊢
  refine ⟨(lawSet_len _ _ _).trans h1.1, fun k hk => ?_⟩
  rw [lawSet_get (by omega)]
  split
  · exact h2.2 k hk
  · exact h1.2 k hk
end DW

set_option maxRecDepth 100000
set_option maxHeartbeats 1000000
namespace DW
open PySem PySem.Spec PyProof.Rows L2
def Sep (a b : List Int) : Prop := ∃ k : Int, (k ∈ a ∧ k ∉ b) ∨ (k ∈ b ∧ k ∉ a)
theorem lots_sep : ∀ (ps : List Int) (seen : List Int) (acc : List (List Int)), (seen ++ ps).Nodup → acc.Pairwise Sep → (∀ l ∈ acc, ∀ k ∈ l, k ∈ seen) →
    (ps.foldl (fun acc p => acc ++ acc.map fun l => l ++ [p]) acc).Pairwise Sep ∧ ∀ l ∈ ps.foldl (fun acc p => acc ++ acc.map fun l => l ++ [p]) acc, ∀ k ∈ l, k ∈ seen ++ ps
  | [], seen, acc, _, h2, h3 => ⟨h2, fun l hl k hk => by rw [List.append_nil]; exact h3 l hl k hk⟩
  | p :: ps, seen, acc, h1, h2, h3 => by
    have hp : p ∉ seen := fun z => (List.nodup_append.mp h1).2.2 p z p (by simp) rfl
    rw [List.foldl_cons]
    have e : seen ++ p :: ps = (seen ++ [p]) ++ ps := by simp
    rw [e]
    refine lots_sep ps (seen ++ [p]) _ (by rw [← e]; exact h1) (List.pairwise_append.mpr ⟨h2, ?_, ?_⟩) ?_
    · rw [List.pairwise_map]
      refine h2.imp_of_mem fun {a b} ha hb hab => ?_
      obtain ⟨k, hk⟩ := hab
      refine ⟨k, ?_⟩
      rcases hk with ⟨k1, k2⟩ | ⟨k1, k2⟩
      · have : k ≠ p := fun z => hp (z ▸ h3 a ha k k1)
        exact .inl ⟨by simp [k1], by simp [k2, this]⟩
      · have : k ≠ p := fun z => hp (z ▸ h3 b hb k k1)
        exact .inr ⟨by simp [k1], by simp [k2, this]⟩
    · intro a ha b hb
      obtain ⟨c, hc, rfl⟩ := List.mem_map.mp hb
      exact ⟨p, .inr ⟨by simp, fun z => hp (h3 a ha p z)⟩⟩
    · intro l hl k hk
      rcases List.mem_append.mp hl with z | z
      · simp [h3 l z k hk]
      · obtain ⟨c, hc, rfl⟩ := List.mem_map.mp z
        rcases List.mem_append.mp hk with y | y
        · simp [h3 c hc k y]
        · simp at y
          simp [y]
theorem lots_sep' {ps : List Int} (h : ps.Nodup) : (lotsF ps).Pairwise Sep ∧ ∀ l ∈ lotsF ps, ∀ k ∈ l, k ∈ ps := by
  have := lots_sep ps [] [[]] (by simpa using h) (by simp) (fun l hl k hk => by rw [List.mem_singleton.mp hl] at hk; cases hk)
  simp only [List.nil_append] at this
  exact this
theorem lotsF_pos {ps l : List Int} (h : l ∈ (lotsF ps).drop 1) : l ≠ [] := by
  obtain ⟨tl, e, hn⟩ := lotsF_ne ps [] (by simp)
  unfold lotsF at h
  rw [e] at h
  exact hn l h
theorem mem_lawAt {ps one other kind : List Int} {k : Int} : k ∈ lawAt ps one other kind ↔ ∃ j : Nat, k = j ∧ j < ps.length ∧ [ps.getD j 0, one.getD j 0, other.getD j 0] = kind := by
  unfold lawAt
  rw [List.mem_map]
  constructor
  · rintro ⟨j, hj, rfl⟩
    have := List.mem_filter.mp hj
    exact ⟨j, rfl, List.mem_range.mp this.1, of_decide_eq_true this.2⟩
  · rintro ⟨j, rfl, h1, h2⟩
    exact ⟨j, List.mem_filter.mpr ⟨List.mem_range.mpr h1, decide_eq_true h2⟩, rfl⟩
theorem lawAt_nodup (ps one other kind : List Int) : (lawAt ps one other kind).Nodup := by
  unfold lawAt
  refine List.pairwise_map.mpr ((List.nodup_range.filter _).imp fun {a b} h e => h ?_)
  omega
def wayInv (ps one other : List Int) (done : List (List Int)) (st : List (List Int) × List Int) : Prop :=
  st.1.Nodup ∧ (∀ r ∈ st.1, ∃ S : List Int, r = lawSet one other S ∧ ∀ k ∈ S, k ∈ st.2) ∧ ∀ k ∈ st.2, ∃ j : Nat, k = j ∧ j < ps.length ∧ [ps.getD j 0, one.getD j 0, other.getD j 0] ∈ done
theorem way_ok {ps one other : List Int} (h1 : one.length = ps.length) : ∀ (order done : List (List Int)) (st : List (List Int) × List Int), (done ++ order).Nodup → (∀ kind ∈ order, kind.getD 1 0 ≠ kind.getD 2 0) → wayInv ps one other done st →
    wayInv ps one other (done ++ order) (order.foldl (wayS ps one other) st)
  | [], done, st, _, _, h => by rw [List.append_nil]; exact h
  | kind :: order, done, st, hn, hk, ⟨i1, i2, i3⟩ => by
    have e : done ++ kind :: order = (done ++ [kind]) ++ order := by simp
    have hnew : kind ∉ done := fun z => (List.nodup_append.mp hn).2.2 kind z kind (by simp) rfl
    rw [List.foldl_cons, e]
    refine way_ok h1 order (done ++ [kind]) _ (by rw [← e]; exact hn) (fun x hx => hk x (by simp [hx])) ?_
    have ne := hk kind (by simp)
    have dif : ∀ k ∈ lawAt ps one other kind, ∃ j : Nat, k = j ∧ j < one.length ∧ one.getD j 0 ≠ other.getD j 0 ∧ k ∉ st.2 := fun k hm => by
      obtain ⟨j, rfl, hj, hjk⟩ := mem_lawAt.mp hm
      refine ⟨j, rfl, by omega, ?_, fun z => ?_⟩
      · rw [← hjk] at ne
        exact ne
      · obtain ⟨j2, e2, _, q⟩ := i3 _ z
        have : j = j2 := by omega
        subst this
        rw [hjk] at q
        exact hnew q
    obtain ⟨s1, s2⟩ := lots_sep' (lawAt_nodup ps one other kind)
    have s1' := s1.sublist (List.drop_sublist 1 _)
    have s2' : ∀ l ∈ (lotsF (lawAt ps one other kind)).drop 1, ∀ k ∈ l, k ∈ lawAt ps one other kind := fun l hl => s2 l (List.mem_of_mem_drop hl)
    unfold wayS
    refine ⟨List.nodup_append.mpr ⟨i1, ?_, ?_⟩, ?_, ?_⟩
    · refine List.pairwise_map.mpr (s1'.imp_of_mem fun {a b} ha hb hab eq => ?_)
      obtain ⟨k, hk⟩ := hab
      have hkat : k ∈ lawAt ps one other kind := by
        rcases hk with q | q
        · exact s2' a ha k q.1
        · exact s2' b hb k q.1
      obtain ⟨j, rfl, hj, hd, hs⟩ := dif k hkat
      have := congrArg (fun r => r.getD j 0) eq
      rw [lawSet_get hj, lawSet_get hj] at this
      rcases hk with ⟨q1, q2⟩ | ⟨q1, q2⟩
      · rw [if_pos (by simp [q1]), if_neg (by simp [q2, hs])] at this
        exact hd this.symm
      · rw [if_neg (by simp [q2, hs]), if_pos (by simp [q1])] at this
        exact hd this
    · intro a ha b hb eq
      subst eq
      obtain ⟨S, rfl, hS⟩ := i2 a ha
      obtain ⟨lot, hl, eq⟩ := List.mem_map.mp hb
      obtain ⟨k, hk⟩ := List.exists_mem_of_ne_nil _ (lotsF_pos hl)
      obtain ⟨j, rfl, hj, hd, hs⟩ := dif k (s2' lot hl k hk)
      have := congrArg (fun r => r.getD j 0) eq
      rw [lawSet_get hj, lawSet_get hj, if_pos (by simp [hk]), if_neg (fun z => hs (hS _ z))] at this
      exact hd this.symm
    · intro r hr
      rcases List.mem_append.mp hr with z | z
      · obtain ⟨S, e, hS⟩ := i2 r z
        exact ⟨S, e, fun k hk => List.mem_append_left _ (hS k hk)⟩
      · obtain ⟨lot, hl, rfl⟩ := List.mem_map.mp z
        refine ⟨_, rfl, fun k hk => ?_⟩
        rcases List.mem_append.mp hk with y | y
        · exact List.mem_append_left _ y
        · exact List.mem_append_right _ (s2' lot hl k y)
    · intro k hk
      rcases List.mem_append.mp hk with z | z
      · obtain ⟨j, e1, e2, e3⟩ := i3 k z
        exact ⟨j, e1, e2, List.mem_append_left _ e3⟩
      · obtain ⟨j, e1, e2, e3⟩ := mem_lawAt.mp z
        exact ⟨j, e1, e2, List.mem_append_right _ (List.mem_singleton.mpr e3)⟩
theorem way_nodup {ps one other : List Int} {order : List (List Int)} (h1 : one.length = ps.length) (hn : order.Nodup) (hk : ∀ kind ∈ order, kind.getD 1 0 ≠ kind.getD 2 0) : (lawWay ps one other order).Nodup ∧ ∀ r ∈ lawWay ps one other order, ∃ S, r = lawSet one other S := by
  obtain ⟨a, b, _⟩ := way_ok h1 order [] ([], []) (by simpa using hn) hk ⟨by simp, fun r hr => by simp at hr, fun k hk => by simp at hk⟩
  exact ⟨a, fun r hr => by obtain ⟨S, e, _⟩ := b r hr; exact ⟨S, e⟩⟩
theorem inBox {cols ps : List Int} {order : List (List Int)} (h : cols3 cols) (n1 : 1 ≤ ps.length) (n3 : ps.length ≤ 3) (hl : order.length ≤ 64) (hn : order.Nodup) (hk : ∀ kind ∈ order, kind.getD 1 0 ≠ kind.getD 2 0) : InBox ps order (allRows cols ps) where
  n1 := n1
  n3 := n3
  ord := hl
  few := by have := len_allRows h n3; omega
  row := fun r hr => by
    have hr := mem_allRows.mp hr
    refine ⟨hr.1, fun m hm => ?_⟩
    obtain ⟨k, hk, e⟩ := List.mem_iff_getElem.mp hm
    have := hr.2 k (by omega)
    have e2 : r.getD k 0 = m := by rw [List.getD_eq_getElem?_getD, List.getElem?_eq_getElem hk, e]; rfl
    rw [e2] at this
    have := h.get (ps.getD k 0).toNat
    omega
  way := fun one h1 other h2 => by
    obtain ⟨a, b⟩ := way_nodup (ps := ps) (one := one) (other := other) (mem_allRows.mp h1).1 hn hk
    exact ⟨a, fun r hr => by obtain ⟨S, rfl⟩ := b r hr; exact set_in S h1 h2⟩
end DW

set_option maxRecDepth 100000
set_option maxHeartbeats 1000000
namespace DW
open PySem PySem.Spec PyProof.Rows L2
/-! ### the kinds, in order -/
theorem lawKinds_eq (cols : List Int) : lawKinds cols = (List.range cols.length).flatMap fun c => (List.range (cols.getD c 0).toNat).flatMap (kindsAt c (cols.getD c 0)) := by
  unfold lawKinds
  have : (fun (acc : List (List Int)) (c : Nat) => (List.range (cols.getD c 0).toNat).foldl (fun acc o => acc ++ kindsAt c (cols.getD c 0) o) acc) = fun acc c => acc ++ (List.range (cols.getD c 0).toNat).flatMap (kindsAt c (cols.getD c 0)) := by
    funext acc c
    exact fold_app _ _ _
  rw [this, fold_app]
  rfl
theorem zipIdx_range (l : List Int) : l.zipIdx = (List.range l.length).map fun k => (l.getD k 0, k) := by
  refine List.ext_getElem? fun i => ?_
  rw [List.getElem?_zipIdx, List.getElem?_map]
  by_cases h : i < l.length
  · rw [List.getElem?_range h, List.getElem?_eq_getElem h]
    simp [List.getD_eq_getElem?_getD, h]
  · rw [List.getElem?_eq_none (by omega), List.getElem?_eq_none (by simp; omega)]
    rfl
theorem kindsI_eq (cols : List Int) : kindsI cols = lawKinds cols := by
  unfold kindsI lawKinds
  rw [zipIdx_range, List.foldl_map]
theorem mem_lawKinds {cols kind : List Int} (h : kind ∈ lawKinds cols) : ∃ c o n : Nat, kind = [(c : Int), (o : Int), (n : Int)] ∧ c < cols.length ∧ o < (cols.getD c 0).toNat ∧ n < (cols.getD c 0).toNat ∧ n ≠ o := by
  rw [lawKinds_eq] at h
  obtain ⟨c, hc, h⟩ := List.mem_flatMap.mp h
  obtain ⟨o, ho, h⟩ := List.mem_flatMap.mp h
  obtain ⟨n, hn, rfl⟩ := List.mem_map.mp h
  have hn := List.mem_filter.mp hn
  refine ⟨c, o, n, rfl, List.mem_range.mp hc, List.mem_range.mp ho, List.mem_range.mp hn.1, ?_⟩
  have := hn.2
  simp at this
  omega
theorem lawKinds_lt (cols : List Int) : (lawKinds cols).Pairwise (· < ·) := by
  rw [lawKinds_eq]
  have r : ∀ n, (List.range n).Pairwise (· < ·) := fun n => List.pairwise_lt_range
  refine List.pairwise_flatMap.mpr ⟨fun c hc => List.pairwise_flatMap.mpr ⟨fun o ho => ?_, ?_⟩, ?_⟩
  · unfold kindsAt
    refine List.pairwise_map.mpr (((r _).filter _).imp fun {a b} h => ?_)
    exact List.cons_lt_cons_iff.mpr (.inr ⟨rfl, List.cons_lt_cons_iff.mpr (.inr ⟨rfl, List.cons_lt_cons_iff.mpr (.inl (by omega))⟩)⟩)
  · refine (r _).imp fun {a b} h x hx y hy => ?_
    obtain ⟨n, _, rfl⟩ := List.mem_map.mp hx
    obtain ⟨m, _, rfl⟩ := List.mem_map.mp hy
    exact List.cons_lt_cons_iff.mpr (.inr ⟨rfl, List.cons_lt_cons_iff.mpr (.inl (by omega))⟩)
  · refine (r _).imp fun {a b} h x hx y hy => ?_
    obtain ⟨o, _, hx⟩ := List.mem_flatMap.mp hx
    obtain ⟨p, _, hy⟩ := List.mem_flatMap.mp hy
    obtain ⟨n, _, rfl⟩ := List.mem_map.mp hx
    obtain ⟨m, _, rfl⟩ := List.mem_map.mp hy
    exact List.cons_lt_cons_iff.mpr (.inl (by omega))
theorem lawKinds_nodup (cols : List Int) : (lawKinds cols).Nodup := (lawKinds_lt cols).imp fun {a b} h e => by
  subst e
  exact List.lt_irrefl a h
theorem lawKinds_sorted (cols : List Int) : (lawKinds cols).Pairwise (· ≤ ·) := (lawKinds_lt cols).imp fun {a b} h => List.le_of_lt h
theorem lawKinds_dif {cols kind : List Int} (h : kind ∈ lawKinds cols) : kind.getD 1 0 ≠ kind.getD 2 0 := by
  obtain ⟨c, o, n, rfl, _, _, _, ne⟩ := mem_lawKinds h
  simp
  omega
/-! ### a turned list is a permutation -/
theorem perm_erase {α : Type} : ∀ (l : List α) (k : Nat) (h : k < l.length), (l[k] :: l.eraseIdx k).Perm l
  | a :: l, 0, _ => by simp
  | a :: l, k + 1, h => by
    simp only [List.getElem_cons_succ, List.eraseIdx_cons_succ]
    exact (List.Perm.swap _ _ _).trans (List.Perm.cons a (perm_erase l k (by simpa using h)))
theorem turn_perm (l : List (List Int)) : ∀ (js : List Nat) (st : TSt), js.length = st.2.1.length → (st.1 ++ st.2.1).Perm l → (js.foldl turnM st).1.Perm l
  | [], st, hl, hp => by
    have : st.2.1 = [] := List.eq_nil_of_length_eq_zero hl.symm
    rw [this, List.append_nil] at hp
    exact hp
  | j :: js, st, hl, hp => by
    rw [List.foldl_cons]
    rw [List.length_cons] at hl
    obtain ⟨t1, t2⟩ := takeR_ok st.2.2 (m := (st.2.1.length : Nat)) (by omega)
    have hk : (takeR st.2.2 st.2.1.length).toNat < st.2.1.length := by omega
    refine turn_perm l js _ ?_ ?_
    · unfold turnM
      simp only [List.length_eraseIdx, hk, if_true]
      omega
    · unfold turnM
      refine List.Perm.trans ?_ hp
      rw [List.append_assoc]
      refine List.Perm.append_left _ ?_
      rw [List.getD_eq_getElem?_getD, List.getElem?_eq_getElem hk]
      exact perm_erase _ _ hk
theorem turned_perm (x : Bx) (l : List (List Int)) : (turnedM x l).1.Perm l := turn_perm l _ _ (by simp) (by simp)
end DW

set_option maxRecDepth 100000
set_option maxHeartbeats 1000000
namespace DW
open PySem PySem.Spec PyProof.Rows L2
/-! ### drawing -/
def mapS {α β γ : Type} (f : γ → β → α × γ) : List β → γ → List α × γ
  | [], c => ([], c)
  | b :: bs, c => ((f c b).1 :: (mapS f bs (f c b).2).1, (mapS f bs (f c b).2).2)
def filtS {β γ : Type} (t : γ → β → Bool × γ) : List β → γ → List β × γ
  | [], c => ([], c)
  | b :: bs, c => if (t c b).1 = true then (b :: (filtS t bs (t c b).2).1, (filtS t bs (t c b).2).2) else filtS t bs (t c b).2
theorem lcB_map {α β γ : Type} (f : γ → β → α × γ) (e : α → PyData) : ∀ (bs : List β) (c : γ), lcB (fun c _ => (true, c)) (fun c b => (e (f c b).1, (f c b).2)) bs c = ((mapS f bs c).1.map e, (mapS f bs c).2)
  | [], c => rfl
  | b :: bs, c => by
    unfold lcB mapS
    rw [if_pos rfl, lcB_map f e bs]
    rfl
theorem lcB_filt {β γ : Type} (t : γ → β → Bool × γ) (e : β → PyData) : ∀ (bs : List β) (c : γ), lcB t (fun c b => (e b, c)) bs c = ((filtS t bs c).1.map e, (filtS t bs c).2)
  | [], c => rfl
  | b :: bs, c => by
    unfold lcB filtS
    rw [lcB_filt t e bs]
    by_cases z : (t c b).1 = true
    · rw [if_pos z, if_pos z]
      rfl
    · rw [if_neg z, if_neg z]
theorem filtS_sub {β γ : Type} (t : γ → β → Bool × γ) : ∀ (bs : List β) (c : γ), (filtS t bs c).1.Sublist bs
  | [], c => .slnil
  | b :: bs, c => by
    unfold filtS
    by_cases z : (t c b).1 = true
    · rw [if_pos z]
      exact (filtS_sub t bs _).cons₂ b
    · rw [if_neg z]
      exact (filtS_sub t bs _).cons b
theorem mapS_len {α β γ : Type} (f : γ → β → α × γ) : ∀ (bs : List β) (c : γ), (mapS f bs c).1.length = bs.length
  | [], c => rfl
  | b :: bs, c => by
    unfold mapS
    simp [mapS_len f bs]
theorem mapS_mem {α β γ : Type} (f : γ → β → α × γ) {P : α → Prop} (h : ∀ c b, P (f c b).1) : ∀ (bs : List β) (c : γ), ∀ a ∈ (mapS f bs c).1, P a
  | [], c, a, ha => by cases ha
  | b :: bs, c, a, ha => by
    unfold mapS at ha
    rcases List.mem_cons.mp ha with z | z
    · rw [z]; exact h c b
    · exact mapS_mem f h bs _ a z
def pickI (l : List Int) (x : Bx) : Int × Bx := (l.getD (takeR x l.length).toNat 0, takeB x l.length)
theorem pickI_mem {l : List Int} (x : Bx) (h : 0 < l.length) : (pickI l x).1 ∈ l := by
  obtain ⟨t1, t2⟩ := takeR_ok x (m := (l.length : Nat)) (by omega)
  have : (takeR x l.length).toNat < l.length := by omega
  unfold pickI
  rw [List.getD_eq_getElem?_getD, List.getElem?_eq_getElem this]
  exact List.getElem_mem this
/-! ### the drawn book -/
def colsB (x : Bx) : List Int × Bx := mapS (fun (c : Bx) (_ : Nat) => (1 + (pickI [1, 1, 1, 2, 0] c).1, (pickI [1, 1, 1, 2, 0] c).2)) (List.range (1 + (pickI [0, 0, 1, 1, 2] x).1).toNat) (pickI [0, 0, 1, 1, 2] x).2
def wideQ (l : List Int) : Bool := decide (8 < (l.map fun m => m * (m - 1)).sum)
def trimS (l : List Int) : List Int := if 1 < l.length then l.drop 1 else [2]
def trim (l : List Int) : List Int := whl wideQ trimS 4 l
def placesB (cols : List Int) (x : Bx) : List Int × Bx := mapS (fun (c : Bx) (_ : Nat) => (takeR c cols.length, takeB c cols.length)) (List.range (1 + takeR x 3).toNat) (takeB x 3)
def rowsB (share : Int) (whole : List (List Int)) (x : Bx) : List (List Int) × Bx := filtS (fun (c : Bx) (_ : List Int) => (decide (0 < takeR c share), takeB c share)) whole x
def rows0 (share : Int) (whole : List (List Int)) (x : Bx) : List (List Int) × Bx := filtS (fun (c : Bx) (_ : List Int) => (decide (takeR c share = 0), takeB c share)) whole x
def rowsC (ps : List Int) (order : List (List Int)) (style share : Int) (whole : List (List Int)) (x : Bx) : List (List Int) × Bx :=
  if style < 2 then (lawHull ps (rows0 share whole (rowsB share whole x).2).1 order, (rows0 share whole (rowsB share whole x).2).2) else rowsB share whole x
def checkB (cols : List Int) (order : List (List Int)) (style : Int) (x : Bx) : Ck × Bx :=
  (((placesB cols x).1, sortL (rowsC (placesB cols x).1 order style (pickI [2, 3, 4] (placesB cols x).2).1 (allRows cols (placesB cols x).1) (pickI [2, 3, 4] (placesB cols x).2).2).1),
    (rowsC (placesB cols x).1 order style (pickI [2, 3, 4] (placesB cols x).2).1 (allRows cols (placesB cols x).1) (pickI [2, 3, 4] (placesB cols x).2).2).2)
def bookT (cols : List Int) (order : List (List Int)) (style : Int) (st : List Ck × Bx) (_ : Nat) : List Ck × Bx := (st.1 ++ [(checkB cols order style st.2).1], (checkB cols order style st.2).2)
def bookL (cols : List Int) (order : List (List Int)) (style : Int) (x : Bx) : List Ck × Bx := (List.range (pickI [1, 1, 2, 2, 3, 0] x).1.toNat).foldl (bookT cols order style) ([], (pickI [1, 1, 2, 2, 3, 0] x).2)
def bookCols (x : Bx) : List Int := trim (colsB x).1
def bookTurn (x : Bx) : TSt := turnedM (colsB x).2 (lawKinds (bookCols x))
def bookCks (x : Bx) : List Ck × Bx := bookL (bookCols x) (bookTurn x).1 (takeR (bookTurn x).2.2 4) (takeB (bookTurn x).2.2 4)
/-! ### what it is like -/
theorem colsB_ok (x : Bx) : cols3 (colsB x).1 := by
  refine ⟨?_, fun c hc => ?_⟩
  · unfold colsB
    rw [mapS_len, List.length_range]
    have := pickI_mem (l := [0, 0, 1, 1, 2]) x (by decide)
    simp only [List.mem_cons, List.not_mem_nil, or_false] at this
    omega
  · unfold colsB at hc
    refine mapS_mem (P := fun c => 1 ≤ c ∧ c ≤ 3) _ (fun d b => ?_) _ _ c hc
    have := pickI_mem (l := [1, 1, 1, 2, 0]) d (by decide)
    simp only [List.mem_cons, List.not_mem_nil, or_false] at this
    show 1 ≤ 1 + (pickI [1, 1, 1, 2, 0] d).1 ∧ 1 + (pickI [1, 1, 1, 2, 0] d).1 ≤ 3
    omega
theorem wide_two {l : List Int} (h : cols3 l) (w : wideQ l = true) : 1 < l.length := by
  obtain ⟨⟨h1, h2⟩, h3⟩ := h
  match l, h1 with
  | [c], _ =>
    exfalso
    have := h3 c (by simp)
    have w := of_decide_eq_true w
    simp only [List.map_cons, List.map_nil, List.sum_cons, List.sum_nil] at w
    have hc : c = 1 ∨ c = 2 ∨ c = 3 := by omega
    rcases hc with rfl | rfl | rfl <;> simp at w
  | _ :: _ :: l, _ => simp
theorem trimS_ok {l : List Int} (h : cols3 l) (w : wideQ l = true) : cols3 (trimS l) ∧ (trimS l).length < l.length := by
  have h2 := wide_two h w
  unfold trimS
  rw [if_pos h2]
  refine ⟨⟨?_, fun c hc => h.2 c (List.mem_of_mem_drop hc)⟩, ?_⟩
  · rw [List.length_drop]
    have := h.1
    omega
  · rw [List.length_drop]
    omega
theorem whl_ok : ∀ (n : Nat) {l : List Int}, cols3 l → cols3 (whl wideQ trimS n l)
  | 0, _, h => h
  | n + 1, l, h => by
    unfold whl
    by_cases z : wideQ l = true
    · rw [if_pos z]
      exact whl_ok n (trimS_ok h z).1
    · rw [if_neg z]
      exact h
theorem bookCols_ok (x : Bx) : cols3 (bookCols x) := whl_ok 4 (colsB_ok x)
theorem cols3.ok {cols : List Int} (h : cols3 cols) : okCols cols := ⟨by have := h.1; omega, by have := h.1; omega, fun c hc => by have := h.2 c hc; omega⟩
theorem lawKinds_len {cols : List Int} (h : cols3 cols) : (lawKinds cols).length ≤ 64 := by
  rw [← kindsI_eq]
  exact kindsI_len h.ok
theorem placesB_ok {cols : List Int} (h : cols3 cols) (x : Bx) : (1 ≤ (placesB cols x).1.length ∧ (placesB cols x).1.length ≤ 3) ∧ ∀ p ∈ (placesB cols x).1, 0 ≤ p ∧ p < cols.length := by
  refine ⟨?_, ?_⟩
  · unfold placesB
    rw [mapS_len, List.length_range]
    have := takeR_ok x (m := 3) (by decide)
    omega
  · unfold placesB
    refine mapS_mem (P := fun p : Int => 0 ≤ p ∧ p < (cols.length : Nat)) _ (fun c b => ?_) _ _
    exact takeR_ok c (by have := h.1; omega)
theorem share_ok (x : Bx) : 2 ≤ (pickI [2, 3, 4] x).1 ∧ (pickI [2, 3, 4] x).1 ≤ 4 := by
  have := pickI_mem (l := [2, 3, 4]) x (by decide)
  simp only [List.mem_cons, List.not_mem_nil, or_false] at this
  omega
theorem goBr_ok {β γ : Type} {f : γ → β → γ × Bool} {I : γ → Prop} (h : ∀ c b, I c → I (f c b).1) : ∀ (bs : List β) {c : γ}, I c → I (goBr f bs c)
  | [], _, i => i
  | b :: bs, c, i => by
    unfold goBr
    split
    · exact h c b i
    · exact goBr_ok h bs (h c b i)
theorem lawHull_sub {ps : List Int} {order W rows : List (List Int)} (B : InBox ps order W) (h : Sub W rows) : Sub W (lawHull ps rows order) := by
  unfold lawHull
  refine goBr_ok (I := Sub W) (fun c b i => ?_) _ h.sort
  unfold hullStep
  split
  · exact i
  · exact (i.hmore B).sort
end DW

set_option maxRecDepth 100000
set_option maxHeartbeats 1000000
namespace DW
open PySem PySem.Spec PyProof.Rows L2
section
variable {ρ : En} {x : Bx} {m : Int} {tm : TE} {tA : TA}
theorem ed_take (h0 : ρ[0]? = some (some (.ow true (bxD x)))) (hm : EvD tm ρ (.int m) ρ) (h : 0 < m) (h2 : m < 1073741824) : EvD (tCall (spB R__law_take) [] E0 (tCons (tVar 0) (tCons tm tNil))) ρ (.int (takeR x m)) (ρ.set 0 (some (.ow true (bxD (takeB x m))))) :=
  ed_callB (as := [.d (.int m)]) (ss := [.kn (.int m)]) (ea_cons hm ea_nil) h0 h0 (.d .nil) (by simp [notOw]) (.mk x m h h2)
theorem ed_pickI {l : List Int} (h0 : ρ[0]? = some (some (.ow true (bxD x)))) (hm : EvA tA ρ ((l.map PyData.int).map Ar.d) ρ) (h : 0 < l.length) (h2 : l.length < 1000) : EvD (tCall (spB R__law_pick) [] E0 (tCons (tVar 0) (tCons (tLst tA) tNil))) ρ (.int (pickI l x).1) (ρ.set 0 (some (.ow true (bxD (pickI l x).2)))) := by
  have := ed_callB (i := 0) (E := E0) (R := R__law_pick) (as := [.d (.list (l.map .int))]) (ss := [.kn (.list (l.map .int))]) (ea_cons (en_lst hm (by rw [List.length_map]; exact zs' (by omega))).kn ea_nil) h0 h0 (.d .nil) (by simp [notOw]) (.mk x (l.map .int) (by rw [List.length_map]; omega) (by rw [List.length_map]; omega))
  rw [List.length_map] at this
  have e : (l.map PyData.int).getD (takeR x l.length).toNat .none = .int (pickI l x).1 := by
    obtain ⟨t1, t2⟩ := takeR_ok x (m := (l.length : Nat)) (by omega)
    have : (takeR x l.length).toNat < l.length := by omega
    unfold pickI
    simp [List.getD_eq_getElem?_getD, this]
  rw [e] at this
  exact this
end
inductive R__law_book : List PyData → List Sl → PyData → List PyData → Prop
  | mk (x : Bx) : R__law_book (bxD x) [.kn (.int 8), .kn (.int 3)] (.list [tI (bookCols x), .tuple ((bookCks x).1.map ckD)]) (bxD (bookCks x).2)
abbrev st__law_book : Stmt := topS 58
abbrev N__law_book : List Str := ["_law_box_here", "_law_most", "_law_places_most", "_law_columns", "_law_column", "_law_many", "_law_order", "_law_checks", "_law_style", "_law_turn", "_law_places", "_law_place", "_law_whole", "_law_share", "_law_rows", "_law_row"]
theorem sc__law_book : FnScope N__law_book ["_law_box_here", "_law_most", "_law_places_most"] (defScope st__law_book) := ⟨rfl, rfl, rfl, by decide +kernel, rfl, by decide +kernel, by decide +kernel⟩
theorem cl__law_book {P : Program} {w : World} {K : PySem.W.Frag} {mg : Str → Option Value} {base : Heap} (T : Nm mg) (D : Dn K mg "_law_book" st__law_book ["_law_box_here", "_law_most", "_law_places_most"]) (c__law_pick : Cl P w K mg base 2 "_law_pick" (spB R__law_pick)) (c__law_take : Cl P w K mg base 1 "_law_take" (spB R__law_take)) (c__law_turned : Cl P w K mg base 2 "_law_turned" (spB R__law_turned)) (c__law_kinds : Cl P w K mg base 1 "_law_kinds" (spP R__law_kinds)) (c__law_all_rows : Cl P w K mg base 1 "_law_all_rows" (spP R__law_all_rows)) (c__law_hull : Cl P w K mg base 3 "_law_hull" (spP R__law_hull)) : Cl P w K mg base 4 "_law_book" (spB R__law_book) := by
  refine cl_ofB D sc__law_book (by rintro _ _ _ _ ⟨⟩; rfl) fun f cdv A outer s H E hr => ⟨_, (pss_cons (ps_set (i := 3) sc__law_book.nd rfl (by first | exact Or.inl rfl | exact Or.inr rfl) (pe_lc (own := [("_law_column", 4)]) (g := (gName 4)) (tt := _) rfl sc__law_book.nd (pi_range1 (by rfl) T.range (pa_cons (pe_op op_add2 pe_int (pe_cl c__law_pick hr (by decide) (by rfl) (pa_cons (pv 0) (pa_cons (pe_lst (pa_cons pe_int (pa_cons pe_int (pa_cons pe_int (pa_cons pe_int (pa_cons pe_int pa_nil)))))) pa_nil)))) pa_nil)) (blkOk_by (N := N__law_book) (sc := defScope st__law_book) (by decide +kernel)) (fun _ _ _ _ _ => (pg_name (i := 4) sc__law_book.nd rfl (by first | exact Or.inl rfl | exact Or.inr rfl))) (fun _ _ _ _ _ => pts_nil) (fun _ _ _ _ _ => (pe_op op_add2 pe_int (pe_cl c__law_pick hr (by decide) (by rfl) (pa_cons (pv 0) (pa_cons (pe_lst (pa_cons pe_int (pa_cons pe_int (pa_cons pe_int (pa_cons pe_int (pa_cons pe_int pa_nil)))))) pa_nil)))))))
    (pss_cons (ps_while PassesOwn.never (pt_cmpR op_gt2 (pe_callB (cr_sum rfl) (by rfl) T.sum bt_sum (pa_cons (pe_lc (own := [("_law_many", 5)]) (g := (gName 5)) (tt := _) rfl sc__law_book.nd (pi_list (pv 3)) (blkOk_by (N := N__law_book) (sc := defScope st__law_book) (by decide +kernel)) (fun _ _ _ _ _ => (pg_name (i := 5) sc__law_book.nd rfl (by first | exact Or.inl rfl | exact Or.inr rfl))) (fun _ _ _ _ _ => pts_nil) (fun _ _ _ _ _ => (pe_op op_mul2 (pv 5) (pe_op op_sub2 (pv 5) pe_int)))) pa_nil)) (pv 1) (nomark _))
      (pss_one (ps_set (i := 3) sc__law_book.nd rfl (by first | exact Or.inl rfl | exact Or.inr rfl) (pe_ifExp (pt_cmpR op_gt2 (pe_callB cr_len (by rfl) T.len bt_len (pa_cons (pv 3) pa_nil)) pe_int (nomark _)) (pe_slice sl_list (pv 3) (po_some pe_int) po_none) (pe_lst (pa_cons pe_int pa_nil))))))
    (pss_cons (ps_par3 (i := 6) (j := 7) (l := 8) rfl sc__law_book.nd rfl rfl rfl (by decide) (by decide) (by decide) rfl rfl rfl (pa_cons (pe_cl c__law_turned hr (by decide) (by rfl) (pa_cons (pv 0) (pa_cons (pe_cl c__law_kinds hr (by decide) (by rfl) (pa_cons (pv 3) pa_nil)) pa_nil))) (pa_cons (pe_lst pa_nil) (pa_cons (pe_cl c__law_take hr (by decide) (by rfl) (pa_cons (pv 0) (pa_cons pe_int pa_nil))) pa_nil))) (by rfl))
    (pss_cons (ps_for PassesOwn.never rfl (pi_range1 (by rfl) T.range (pa_cons (pe_cl c__law_pick hr (by decide) (by rfl) (pa_cons (pv 0) (pa_cons (pe_lst (pa_cons pe_int (pa_cons pe_int (pa_cons pe_int (pa_cons pe_int (pa_cons pe_int (pa_cons pe_int pa_nil))))))) pa_nil))) pa_nil)) (pg_name (i := 9) sc__law_book.nd rfl (by first | exact Or.inl rfl | exact Or.inr rfl))
      (pss_cons (ps_set (i := 10) sc__law_book.nd rfl (by first | exact Or.inl rfl | exact Or.inr rfl) (pe_callTy cr_tuple (by rfl) T.tuple bt_tuple (pa_cons (pe_lc (own := [("_law_place", 11)]) (g := (gName 11)) (tt := _) rfl sc__law_book.nd (pi_range1 (by rfl) T.range (pa_cons (pe_op op_add2 pe_int (pe_cl c__law_take hr (by decide) (by rfl) (pa_cons (pv 0) (pa_cons (pv 2) pa_nil)))) pa_nil)) (blkOk_by (N := N__law_book) (sc := defScope st__law_book) (by decide +kernel)) (fun _ _ _ _ _ => (pg_name (i := 11) sc__law_book.nd rfl (by first | exact Or.inl rfl | exact Or.inr rfl))) (fun _ _ _ _ _ => pts_nil) (fun _ _ _ _ _ => (pe_cl c__law_take hr (by decide) (by rfl) (pa_cons (pv 0) (pa_cons (pe_callB (cr_lenK (K := K)) (by rfl) T.len bt_len (pa_cons (pv 3) pa_nil)) pa_nil))))) pa_nil)))
      (pss_cons (ps_set (i := 12) sc__law_book.nd rfl (by first | exact Or.inl rfl | exact Or.inr rfl) (pe_cl c__law_all_rows hr (by decide) (by rfl) (pa_cons (pv 3) (pa_cons (pv 10) pa_nil))))
      (pss_cons (ps_set (i := 13) sc__law_book.nd rfl (by first | exact Or.inl rfl | exact Or.inr rfl) (pe_cl c__law_pick hr (by decide) (by rfl) (pa_cons (pv 0) (pa_cons (pe_lst (pa_cons pe_int (pa_cons pe_int (pa_cons pe_int pa_nil)))) pa_nil))))
      (pss_cons (ps_setLc (i := 14) (own := [("_law_row", 15)]) (g := (gName 15)) (tt := _) rfl sc__law_book.nd rfl rfl (sw_true rfl rfl rfl (by decide +kernel)) (pi_list (pv 12)) (blkOk_by (N := N__law_book) (sc := defScope st__law_book) (by decide +kernel)) (fun _ _ _ _ _ => (pg_name (i := 15) sc__law_book.nd rfl (by first | exact Or.inl rfl | exact Or.inr rfl))) (fun _ _ _ _ _ => (pts_one (pt_cmpR op_gt2 (pe_cl c__law_take hr (by decide) (by rfl) (pa_cons (pv 0) (pa_cons (pv 13) pa_nil))) pe_int (nomark _)))) (fun _ _ _ _ _ => (pv 15)))
      (pss_cons (ps_if (pt_cmpR op_lt2 (pv 8) pe_int (nomark _))
        (pss_one (ps_set (i := 14) sc__law_book.nd rfl (by first | exact Or.inl rfl | exact Or.inr rfl) (pe_cl c__law_hull hr (by decide) (by rfl) (pa_cons (pv 10) (pa_cons (pe_lc (own := [("_law_row", 15)]) (g := (gName 15)) (tt := _) rfl sc__law_book.nd (pi_list (pv 12)) (blkOk_by (N := N__law_book) (sc := defScope st__law_book) (by decide +kernel)) (fun _ _ _ _ _ => (pg_name (i := 15) sc__law_book.nd rfl (by first | exact Or.inl rfl | exact Or.inr rfl))) (fun _ _ _ _ _ => (pts_one (pt_cmpR op_eq (pe_cl c__law_take hr (by decide) (by rfl) (pa_cons (pv 0) (pa_cons (pv 13) pa_nil))) pe_int (nomark _)))) (fun _ _ _ _ _ => (pv 15))) (pa_cons (pv 6) pa_nil))))))
        pss_nil)
      (pss_one (ps_expr (pe_bm PySem.F.plainAttrs_list PySem.F.slot_list_append PySem.F.type_list_append mt_append (pv 7) (pa_cons (pe_tup (pa_cons (pv 10) (pa_cons (pe_callTy cr_tuple (by rfl) T.tuple bt_tuple (pa_cons (pe_callB (KX.cr_sortedD hr.units) (by rfl) T.sorted bt_sorted (pa_cons (pv 14) pa_nil)) pa_nil)) pa_nil))) pa_nil))))))))))
    (pss_one (ps_ret (pe_lst (pa_cons (pe_callTy cr_tuple (by rfl) T.tuple bt_tuple (pa_cons (pv 3) pa_nil)) (pa_cons (pe_callTy cr_tuple (by rfl) T.tuple bt_tuple (pa_cons (pv 7) pa_nil)) pa_nil))))))))), ?_⟩
  rintro _ _ _ _ ⟨x⟩ -
  let cI (i : Int) : TE := tC (.int i)
  let pick (a : TA) : TE := tCall (spB R__law_pick) [] E0 (tCons (tVar 0) (tCons (tLst a) tNil))
  let inv1 : Bx → En := fun c => [some (.ow true (bxD c)), some (.kn (.int 8)), some (.kn (.int 3)), none, none, none, none, none, none, none, none, none, none, none, none, none]
  let inv2 : Bx → List Int → En := fun c l => [some (.ow true (bxD c)), some (.kn (.int 8)), some (.kn (.int 3)), some (.kn (.list (l.map .int))), none, none, none, none, none, none, none, none, none, none, none, none]
  -- the columns
  have cols1 : EvN (tLc (iRng1 (tCons (tOp rAdd2 (cI 1) (pick (tCons (cI 0) (tCons (cI 0) (tCons (cI 1) (tCons (cI 1) (tCons (cI 2) tNil))))))) tNil)) (gName 4) tYes (tOp rAdd2 (cI 1) (pick (tCons (cI 1) (tCons (cI 1) (tCons (cI 1) (tCons (cI 2) (tCons (cI 0) tNil))))))) [4]) (inv1 x) ((colsB x).1.map .int) (inv1 (colsB x).2) := by
    have := pickI_mem (l := [0, 0, 1, 1, 2]) x (by decide)
    simp only [List.mem_cons, List.not_mem_nil, or_false] at this
    have r := en_lcB (γ := Bx) (β := Nat) (enc := fun k : Nat => .int (k : Nat)) (bs := List.range (1 + (pickI [0, 0, 1, 1, 2] x).1).toNat) (c := (pickI [0, 0, 1, 1, 2] x).2) (inv := inv1) (j := 4) (ρ := inv1 x) (tst := fun c _ => (true, c)) (el := fun c _ => (.int (1 + (pickI [1, 1, 1, 2, 0] c).1), (pickI [1, 1, 1, 2, 0] c).2)) (tt := tYes)
      (te := tOp rAdd2 (cI 1) (pick (tCons (cI 1) (tCons (cI 1) (tCons (cI 1) (tCons (cI 2) (tCons (cI 0) tNil)))))))
      (wi := iRng1 (tCons (tOp rAdd2 (cI 1) (pick (tCons (cI 0) (tCons (cI 0) (tCons (cI 1) (tCons (cI 1) (tCons (cI 2) tNil))))))) tNil)) (fun _ => rfl) (fun _ _ => rfl) (EvI.to (ei_range (n := 1 + (pickI [0, 0, 1, 1, 2] x).1) (ed_add ed_c_int (ed_pickI (l := [0, 0, 1, 1, 2]) rfl (ea_cons ed_c_int (ea_cons ed_c_int (ea_cons ed_c_int (ea_cons ed_c_int (ea_cons ed_c_int ea_nil))))) (by decide) (by decide))) (by omega) (by omega)) rfl)
      (fun c b hb => ⟨eb_yes, fun _ => ed_add ed_c_int (ed_pickI (l := [1, 1, 1, 2, 0]) rfl (ea_cons ed_c_int (ea_cons ed_c_int (ea_cons ed_c_int (ea_cons ed_c_int (ea_cons ed_c_int ea_nil))))) (by decide) (by decide))⟩) (by rw [List.length_range]; exact zs (by omega))
    have e := lcB_map (fun (c : Bx) (_ : Nat) => (1 + (pickI [1, 1, 1, 2, 0] c).1, (pickI [1, 1, 1, 2, 0] c).2)) PyData.int (List.range (1 + (pickI [0, 0, 1, 1, 2] x).1).toNat) (pickI [0, 0, 1, 1, 2] x).2
    rw [e] at r
    exact r
  have cok := colsB_ok x
  -- the trimming
  have trimSD : SD (tWhile (tTest (tOp rGt2 (tCB (rSum K) (tCons (tLc (iList K (tVar 3)) (gName 5) tYes (tOp rMul2 (tVar 5) (tOp rSub2 (tVar 5) (cI 1))) [5]) tNil)) (tVar 1)))
      (tAsg (tIf (tTest (tOp rGt2 (tCB (rLen K) (tCons (tVar 3) tNil)) (cI 1))) (tSl (rSlL K) (tVar 3) (tPart (cI 1)) tNoPart) (tLst (tCons (cI 2) tNil))) (gName 3))) (inv2 (colsB x).2 (colsB x).1) (.nx (inv2 (colsB x).2 (bookCols x))) := by
    refine sd_while (γ := List Int) (inv := inv2 (colsB x).2) (p := wideQ) (step := trimS) (I := cols3) (μ := List.length) (n := 4) (c := (colsB x).1) cok (by have := cok.1; omega) fun l hl => ⟨?_, fun w => ⟨(trimS_ok hl w).1, (trimS_ok hl w).2, ?_⟩⟩
    · refine EvB.to (eb_test (ed_gt (ed_sum (ns := l.map fun m => m * (m - 1)) (EvD.to (en_mapT (enc := .int) (bs := l) (f := fun m => .int (m * (m - 1))) (ei_list (ed_var rfl)) (fun m hm => ed_mul (ed_var rfl) (ed_sub (ed_var rfl) ed_c_int) ?_) (NoOw.of rfl) ?_).kn ?_)) (ed_var rfl))) rfl
      · have := hl.2 m hm
        exact .inl ⟨by omega, by omega⟩
      · have := hl.1
        exact zs (by omega)
      · rw [List.map_map]
        rfl
    · have h2 := wide_two hl w
      refine sd_asg (i := 3) (ed_if (b := true) (EvB.to (eb_test (ed_gt (ed_lenL (ds := l.map .int) (ed_var rfl)) ed_c_int)) (decide_eq_true (by rw [List.length_map]; omega))) (fun _ => EvD.to (en_slL (lo := some 1) (hi := none) (ds := l.map .int) (ed_var rfl) (ep_int ed_c_int) ep_no).kn ?_) fun z => by cases z) (np_kn rfl)
      unfold trimS
      rw [if_pos h2, cut_1, List.map_drop]
  have bok := bookCols_ok x
  have tp := turned_perm (colsB x).2 (lawKinds (bookCols x))
  have on : (bookTurn x).1.Nodup := tp.nodup_iff.mpr (lawKinds_nodup _)
  have ol : (bookTurn x).1.length ≤ 64 := by
    have := lawKinds_len bok
    rw [show (bookTurn x).1.length = (lawKinds (bookCols x)).length from tp.length_eq]
    exact this
  have od : ∀ kind ∈ (bookTurn x).1, kind.getD 1 0 ≠ kind.getD 2 0 := fun kind hk => lawKinds_dif (tp.mem_iff.mp hk)
  let big : Bx → List Ck → Option Sl → Option Sl → Option Sl → Option Sl → Option Sl → En := fun c cks k pl wh sh rw => [some (.ow true (bxD c)), some (.kn (.int 8)), some (.kn (.int 3)), some (.kn (.list ((bookCols x).map .int))), none, none, some (.kn (.list ((bookTurn x).1.map tI))), some (.ow false (cks.map ckD)), some (.kn (.int (takeR (bookTurn x).2.2 4))), k, pl, none, wh, sh, rw, none]
  have par : SD (tPar3 6 7 8 (tCons (tCall (spB R__law_turned) [] E0 (tCons (tVar 0) (tCons (tCall (spP R__law_kinds) [] E0 (tCons (tVar 3) tNil)) tNil))) (tCons (tLst tNil) (tCons (tCall (spB R__law_take) [] E0 (tCons (tVar 0) (tCons (cI 4) tNil))) tNil)))) (inv2 (colsB x).2 (bookCols x)) (.nx (big (takeB (bookTurn x).2.2 4) [] none none none none none)) :=
    sd_parDND (i := 6) (j := 7) (k := 8) (ed_callB (p := true) (as := [.d (.list ((lawKinds (bookCols x)).map tI))]) (ss := [.kn (.list ((lawKinds (bookCols x)).map tI))]) (ea_cons (ed_call (ss := [.kn (.list ((bookCols x).map .int))]) (ea_cons (ed_var rfl) ea_nil) (.d .nil) (by simp [notOw]) (.mk true _ (bookCols x) (.l _) bok.ok)) ea_nil) rfl rfl (.d .nil) (by simp [notOw]) (.mk (colsB x).2 (lawKinds (bookCols x)) (by have := lawKinds_len bok; omega)))
      (en_lst (ds := []) ea_nil (Nat.zero_le _)) (ed_take (x := (bookTurn x).2.2) rfl ed_c_int (by decide) (by decide)) (np_of rfl) (np_of rfl) (np_of rfl)
  let s1 : TS := tAsg (tCB (rTupOf K) (tCons (tLc (iRng1 (tCons (tOp rAdd2 (cI 1) (tCall (spB R__law_take) [] E0 (tCons (tVar 0) (tCons (tVar 2) tNil)))) tNil)) (gName 11) tYes (tCall (spB R__law_take) [] E0 (tCons (tVar 0) (tCons (tCB (rLen K) (tCons (tVar 3) tNil)) tNil))) [11]) tNil)) (gName 10)
  let s2 : TS := tAsg (tCall (spP R__law_all_rows) [] E0 (tCons (tVar 3) (tCons (tVar 10) tNil))) (gName 12)
  let s3 : TS := tAsg (pick (tCons (cI 2) (tCons (cI 3) (tCons (cI 4) tNil)))) (gName 13)
  let s4 : TS := tAsg (tLc (iList K (tVar 12)) (gName 15) (tTest (tOp rGt2 (tCall (spB R__law_take) [] E0 (tCons (tVar 0) (tCons (tVar 13) tNil))) (cI 0))) (tVar 15) [15]) (gName 14)
  let s5 : TS := tIfS (tTest (tOp rLt2 (tVar 8) (cI 2))) (tAsg (tCall (spP R__law_hull) [] E0 (tCons (tVar 10) (tCons (tLc (iList K (tVar 12)) (gName 15) (tTest (tOp rEq (tCall (spB R__law_take) [] E0 (tCons (tVar 0) (tCons (tVar 13) tNil))) (cI 0))) (tVar 15) [15]) (tCons (tVar 6) tNil)))) (gName 14)) tNext
  let s6 : TS := tDrop (tBM K "list" rAppend (tVar 7) (tCons (tTup (tCons (tVar 10) (tCons (tCB (rTupOf K) (tCons (tCB (KX.rSortD K) (tCons (tVar 14) tNil)) tNil)) tNil))) tNil))
  have turn : ∀ (c : Bx) (cks : List Ck) (k : Nat), cks.length ≤ 100 → ∃ ρb, SD (tSeq s1 (tSeq s2 (tSeq s3 (tSeq s4 (tSeq s5 s6))))) (big c cks (some (.kn (.int (k : Nat)))) none none none none) (.nx ρb) ∧ Le (big (checkB (bookCols x) (bookTurn x).1 (takeR (bookTurn x).2.2 4) c).2 (cks ++ [(checkB (bookCols x) (bookTurn x).1 (takeR (bookTurn x).2.2 4) c).1]) none none none none none) ρb := by
    intro c cks k hk
    obtain ⟨⟨p1, p2⟩, p3⟩ := placesB_ok bok c
    have t3 := takeR_ok c (m := 3) (by decide)
    have a1 : SD s1 (big c cks (some (.kn (.int (k : Nat)))) none none none none) (.nx (big (placesB (bookCols x) c).2 cks (some (.kn (.int (k : Nat)))) (some (.kn (tI (placesB (bookCols x) c).1))) none none none)) := by
      have r := en_lcB (γ := Bx) (β := Nat) (enc := fun k : Nat => .int (k : Nat)) (bs := List.range (1 + takeR c 3).toNat) (c := takeB c 3) (inv := fun d => big d cks (some (.kn (.int (k : Nat)))) none none none none) (j := 11) (ρ := big c cks (some (.kn (.int (k : Nat)))) none none none none) (tst := fun c _ => (true, c)) (el := fun c _ => (.int (takeR c (bookCols x).length), takeB c (bookCols x).length)) (tt := tYes)
        (te := tCall (spB R__law_take) [] E0 (tCons (tVar 0) (tCons (tCB (rLen K) (tCons (tVar 3) tNil)) tNil)))
        (wi := iRng1 (tCons (tOp rAdd2 (cI 1) (tCall (spB R__law_take) [] E0 (tCons (tVar 0) (tCons (tVar 2) tNil)))) tNil)) (fun _ => rfl) (fun _ _ => rfl) (EvI.to (ei_range (n := 1 + takeR c 3) (ed_add ed_c_int (ed_take rfl (ed_var rfl) (by decide) (by decide))) (by omega) (by omega)) rfl)
        (fun c b hb => ⟨eb_yes, fun _ => ed_take (m := (bookCols x).length) rfl (EvD.to (ed_lenL (ds := (bookCols x).map .int) (ed_var rfl)) (by rw [List.length_map])) (by have := bok.1; omega) (by have := bok.1; omega)⟩) (by rw [List.length_range]; exact zs (by omega))
      have e := lcB_map (fun (c : Bx) (_ : Nat) => (takeR c (bookCols x).length, takeB c (bookCols x).length)) PyData.int (List.range (1 + takeR c 3).toNat) (takeB c 3)
      rw [e] at r
      exact sd_asg (i := 10) (EvD.to (ed_tupL r.kn) rfl) (np_of rfl)
    let pl := (placesB (bookCols x) c).1
    let c1 := (placesB (bookCols x) c).2
    let wh := allRows (bookCols x) pl
    have a2 : SD s2 (big c1 cks (some (.kn (.int (k : Nat)))) (some (.kn (tI pl))) none none none) (.nx (big c1 cks (some (.kn (.int (k : Nat)))) (some (.kn (tI pl))) (some (.kn (.list (wh.map tI)))) none none)) :=
      sd_asg (i := 12) (ed_call (ss := [.kn (.list ((bookCols x).map .int)), .kn (tI pl)]) (ea_cons (ed_var rfl) (ea_cons (ed_var rfl) ea_nil)) (.d (.d .nil)) (by simp [notOw]) (.mk (bookCols x) pl bok.small p3 p2)) (np_of rfl)
    have shk := share_ok c1
    let sh := (pickI [2, 3, 4] c1).1
    let c2 := (pickI [2, 3, 4] c1).2
    have a3 : SD s3 (big c1 cks (some (.kn (.int (k : Nat)))) (some (.kn (tI pl))) (some (.kn (.list (wh.map tI)))) none none) (.nx (big c2 cks (some (.kn (.int (k : Nat)))) (some (.kn (tI pl))) (some (.kn (.list (wh.map tI)))) (some (.kn (.int sh))) none)) :=
      sd_asg (i := 13) (ed_pickI (l := [2, 3, 4]) rfl (ea_cons ed_c_int (ea_cons ed_c_int (ea_cons ed_c_int ea_nil))) (by decide) (by decide)) (np_of rfl)
    have wl : wh.length ≤ 27 := len_allRows (ps := pl) bok p2
    have p1' : 1 ≤ pl.length := p1
    have box := inBox (ps := pl) bok p1 p2 ol on od
    have lc4 : ∀ (d : Bx) (tt : TT) (q : Bx → Bool) (rw : Option Sl), (∀ d (r : List Int), EvB tt ((big d cks (some (.kn (.int (k : Nat)))) (some (.kn (tI pl))) (some (.kn (.list (wh.map tI)))) (some (.kn (.int sh))) rw).set 15 (some (.kn (tI r)))) (q d) ((big (takeB d sh) cks (some (.kn (.int (k : Nat)))) (some (.kn (tI pl))) (some (.kn (.list (wh.map tI)))) (some (.kn (.int sh))) rw).set 15 (some (.kn (tI r))))) →
        EvN (tLc (iList K (tVar 12)) (gName 15) tt (tVar 15) [15]) (big d cks (some (.kn (.int (k : Nat)))) (some (.kn (tI pl))) (some (.kn (.list (wh.map tI)))) (some (.kn (.int sh))) rw) ((filtS (fun c (_ : List Int) => (q c, takeB c sh)) wh d).1.map tI) (big (filtS (fun c (_ : List Int) => (q c, takeB c sh)) wh d).2 cks (some (.kn (.int (k : Nat)))) (some (.kn (tI pl))) (some (.kn (.list (wh.map tI)))) (some (.kn (.int sh))) rw) := by
      intro d tt q rw ht
      have r := en_lcB (γ := Bx) (β := List Int) (enc := tI) (bs := wh) (c := d) (inv := fun d => big d cks (some (.kn (.int (k : Nat)))) (some (.kn (tI pl))) (some (.kn (.list (wh.map tI)))) (some (.kn (.int sh))) rw) (j := 15) (ρ := big d cks (some (.kn (.int (k : Nat)))) (some (.kn (tI pl))) (some (.kn (.list (wh.map tI)))) (some (.kn (.int sh))) rw)
        (tst := fun c _ => (q c, takeB c sh)) (el := fun c r => (tI r, c)) (tt := tt) (te := tVar 15) (wi := iList K (tVar 12)) (fun _ => rfl) (fun _ _ => rfl) (ei_list (ed_var rfl)) (fun d r hr => ⟨ht d r, fun _ => ed_var rfl⟩) (zs (by omega))
      rw [lcB_filt] at r
      exact r
    have a4 : SD s4 (big c2 cks (some (.kn (.int (k : Nat)))) (some (.kn (tI pl))) (some (.kn (.list (wh.map tI)))) (some (.kn (.int sh))) none) (.nx (big (rowsB sh wh c2).2 cks (some (.kn (.int (k : Nat)))) (some (.kn (tI pl))) (some (.kn (.list (wh.map tI)))) (some (.kn (.int sh))) (some (.kn (.list ((rowsB sh wh c2).1.map tI)))))) :=
      sd_asg (i := 14) (lc4 c2 _ (fun d => decide (0 < takeR d sh)) none fun d r => eb_test (ed_gt (ed_take rfl (ed_var rfl) (by omega) (by omega)) ed_c_int)).kn (np_of rfl)
    have sub0 : ∀ (q : Bx → Bool) (d : Bx), Sub wh (filtS (fun c (_ : List Int) => (q c, takeB c sh)) wh d).1 := fun q d => ⟨(filtS_sub _ _ _).nodup (nodup_allRows _ _), fun r hr => (filtS_sub _ _ _).subset hr⟩
    have a5 : SD s5 (big (rowsB sh wh c2).2 cks (some (.kn (.int (k : Nat)))) (some (.kn (tI pl))) (some (.kn (.list (wh.map tI)))) (some (.kn (.int sh))) (some (.kn (.list ((rowsB sh wh c2).1.map tI)))))
        (.nx (big (rowsC pl (bookTurn x).1 (takeR (bookTurn x).2.2 4) sh wh c2).2 cks (some (.kn (.int (k : Nat)))) (some (.kn (tI pl))) (some (.kn (.list (wh.map tI)))) (some (.kn (.int sh))) (some (.kn (.list ((rowsC pl (bookTurn x).1 (takeR (bookTurn x).2.2 4) sh wh c2).1.map tI)))))) := by
      have tst := fun (d : Bx) (rw : Option Sl) => eb_test (ed_lt (ρ := big d cks (some (.kn (.int (k : Nat)))) (some (.kn (tI pl))) (some (.kn (.list (wh.map tI)))) (some (.kn (.int sh))) rw) (ed_var (i := 8) rfl) (ed_c_int (i := 2)))
      unfold rowsC
      by_cases z : takeR (bookTurn x).2.2 4 < 2
      · rw [if_pos z]
        refine sd_T (EvB.to (tst _ _) (decide_eq_true z)) (sd_asg (i := 14) (ed_call (ss := [.kn (tI pl), .kn (.list ((rows0 sh wh (rowsB sh wh c2).2).1.map tI)), .kn (.list ((bookTurn x).1.map tI))]) (ea_cons (ed_var rfl) (ea_cons (lc4 (rowsB sh wh c2).2 _ (fun d => decide (takeR d sh = 0)) _ fun d r => eb_test (ed_eqI (ed_take rfl (ed_var rfl) (by omega) (by omega)) ed_c_int)).kn (ea_cons (ed_var rfl) ea_nil))) (.d (.d (.d .nil))) (by simp [notOw]) (.mk pl _ _ wh box (sub0 _ _))) (np_kn rfl))
      · rw [if_neg z]
        exact sd_F (EvB.to (tst _ _) (decide_eq_false z)) sd_nx
    have sub1 : Sub wh (rowsC pl (bookTurn x).1 (takeR (bookTurn x).2.2 4) sh wh c2).1 := by
      unfold rowsC
      split
      · exact lawHull_sub box (sub0 _ _)
      · exact sub0 _ _
    have sl := sub1.len
    have srt : EvD (tCB (KX.rSortD K) (tCons (tVar 14) tNil)) (big (rowsC pl (bookTurn x).1 (takeR (bookTurn x).2.2 4) sh wh c2).2 cks (some (.kn (.int (k : Nat)))) (some (.kn (tI pl))) (some (.kn (.list (wh.map tI)))) (some (.kn (.int sh))) (some (.kn (.list ((rowsC pl (bookTurn x).1 (takeR (bookTurn x).2.2 4) sh wh c2).1.map tI)))))
        (.list ((sortL (rowsC pl (bookTurn x).1 (takeR (bookTurn x).2.2 4) sh wh c2).1).map tI)) (big (rowsC pl (bookTurn x).1 (takeR (bookTurn x).2.2 4) sh wh c2).2 cks (some (.kn (.int (k : Nat)))) (some (.kn (tI pl))) (some (.kn (.list (wh.map tI)))) (some (.kn (.int sh))) (some (.kn (.list ((rowsC pl (bookTurn x).1 (takeR (bookTurn x).2.2 4) sh wh c2).1.map tI))))) :=
      EvD.to (en_sort (ed_var rfl) (.l _) (alike_tI _) (ok_tI fun r hr q => by
        have := (box.row r (sub1.2 r hr)).1
        rw [q] at this
        simp at this
        omega) (fun d hd => by
        obtain ⟨r, _, rfl⟩ := mem_tI hd
        exact depth_tI r) (by rw [List.length_map]; exact zs' (by omega))).kn (by rw [sort_tI])
    have a6 := sd_app (i := 7) (p := false) (K := K) (d := ckD (checkB (bookCols x) (bookTurn x).1 (takeR (bookTurn x).2.2 4) c).1) (ρ := big (rowsC pl (bookTurn x).1 (takeR (bookTurn x).2.2 4) sh wh c2).2 cks (some (.kn (.int (k : Nat)))) (some (.kn (tI pl))) (some (.kn (.list (wh.map tI)))) (some (.kn (.int sh))) (some (.kn (.list ((rowsC pl (bookTurn x).1 (takeR (bookTurn x).2.2 4) sh wh c2).1.map tI))))) (es := cks.map ckD) (ds := cks.map ckD)
      (ed_tup (ds := [tI pl, tR (sortL (rowsC pl (bookTurn x).1 (takeR (bookTurn x).2.2 4) sh wh c2).1)]) (ea_cons (ed_var (i := 10) rfl) (ea_cons (ed_tupL (K := K) srt) ea_nil)) (by show 2 ≤ sizeLine; decide)) rfl rfl (by rw [List.length_map]; exact zs (by omega))
    refine ⟨_, sd_seq a1 (sd_seq a2 (sd_seq a3 (sd_seq a4 (sd_seq a5 a6)))), ?_⟩
    simp only [big]
    rw [List.map_append]
    exact .same (.same (.same (.same (.same (.same (.same (.same (.same (.drop (fun _ z => by cases z) (.drop (fun _ z => by cases z) (.same (.drop (fun _ z => by cases z) (.drop (fun _ z => by cases z) (.drop (fun _ z => by cases z) (.same .nil)))))))))))))))
  have pm := pickI_mem (l := [1, 1, 2, 2, 3, 0]) (takeB (bookTurn x).2.2 4) (by decide)
  simp only [List.mem_cons, List.not_mem_nil, or_false] at pm
  have loop := for_acc (γ := List Ck × Bx) (enc := fun k : Nat => .int (k : Nat)) (bs := List.range (pickI [1, 1, 2, 2, 3, 0] (takeB (bookTurn x).2.2 4)).1.toNat) (c := ([], (pickI [1, 1, 2, 2, 3, 0] (takeB (bookTurn x).2.2 4)).2)) (inv := fun st => big st.2 st.1 none none none none none) (step := bookT (bookCols x) (bookTurn x).1 (takeR (bookTurn x).2.2 4))
    (g := gName 9) (tb := tSeq s1 (tSeq s2 (tSeq s3 (tSeq s4 (tSeq s5 s6))))) (ρ := big (takeB (bookTurn x).2.2 4) [] none none none none none) (wi := iRng1 (tCons (pick (tCons (cI 1) (tCons (cI 1) (tCons (cI 2) (tCons (cI 2) (tCons (cI 3) (tCons (cI 0) tNil))))))) tNil)) (I := fun rest st => st.1.length + rest.length ≤ 50)
    (EvI.to (ei_range (ed_pickI (l := [1, 1, 2, 2, 3, 0]) rfl (ea_cons ed_c_int (ea_cons ed_c_int (ea_cons ed_c_int (ea_cons ed_c_int (ea_cons ed_c_int (ea_cons ed_c_int ea_nil)))))) (by decide) (by decide)) (by omega) (by omega)) rfl) (by simp; omega) fun st k rest hk hI => by
      obtain ⟨ρb, t1, t2⟩ := turn st.2 st.1 k (by simp only [List.length_cons] at hI; omega)
      refine ⟨?_, _, _, ρb, tg_name (np_of rfl), t1, t2⟩
      unfold bookT
      simp only [List.length_cons, List.length_append, List.length_nil] at hI ⊢
      omega
  have fin : SD (tRet (tLst (tCons (tCB (rTupOf K) (tCons (tVar 3) tNil)) (tCons (tCB (rTupOf K) (tCons (tVar 7) tNil)) tNil)))) (big (bookCks x).2 (bookCks x).1 none none none none none) (.rt (.list [tI (bookCols x), .tuple ((bookCks x).1.map ckD)]) ((big (bookCks x).2 (bookCks x).1 none none none none none).set 7 (some (.kn (.list ((bookCks x).1.map ckD)))))) :=
    sd_freeze (i := 7) (ds := (bookCks x).1.map ckD) rfl (sd_ret (en_lst (ds := [tI (bookCols x), .tuple ((bookCks x).1.map ckD)]) (ea_cons (ed_tupL (ds := (bookCols x).map .int) (ed_var rfl)) (ea_cons (ed_tupL (ed_var rfl)) ea_nil)) (by show 2 ≤ sizeLine; decide)).kn)
  exact ⟨_, rfl, sd_seq (sd_asg (i := 3) cols1.kn (np_of rfl)) (sd_seq trimSD (sd_seq par (sd_seq loop fin)))⟩
end DW


set_option maxRecDepth 100000
set_option maxHeartbeats 1000000
namespace DW
open PySem PySem.Spec PyProof.Rows L2
def lI (k : List Int) : PyData := .list (k.map .int)
def oddS (order : List (List Int)) : List PyData :=
  [.none, .int 0, .str "0", .list (order.map lI ++ [lI [0, 0, 1]]), if order ≠ [] then .list (List.replicate order.length .none) else .list [.none], .list ((order.map lI).drop 1 ++ [tI [0, 0, 0]]), .list (order.map lI ++ [.none])]
def oddT (order : List (List Int)) : List PyData :=
  [.list ((order.map lI).drop 1), if 1 < order.length then .list ((order.map lI).drop 1 ++ [lI (order.getLastD [])]) else .list [], .list ((order.map lI).drop 1 ++ [.list [.int 0, .int 0, .bool true]]), .list ((order.map lI).drop 1 ++ [.str "001"]), .list ((order.map lI).drop 1 ++ [lI ((order.headD []).take 2)]), .list ((order.map lI).drop 1 ++ [lI [9, 0, 1]])]
def oddL (order : List (List Int)) : List PyData := if order ≠ [] then oddS order ++ oddT order else oddS order
theorem ed_neg {ρ ρ1 : En} {ta : TE} {m : Int} (h : EvD ta ρ (.int m) ρ1) : EvD (tUn (rU fun i => .int (-i)) ta) ρ (.int (-m)) ρ1 := fun Hk σ H a Q q =>
  h Hk σ H a _ fun v Hk1 H1 g r => by
    cases r
    exact ⟨m, rfl, q _ Hk1 H1 g (.int _)⟩
theorem eqv_nilL (l : List (List Int)) : PyData.eqv (.list (l.map tI)) (.list []) = decide (l = []) := by
  cases l <;> simp [PyData.eqv, PyData.eqvAll]
theorem shp_nilL : SeqAt.shaped (.list []) = true := shp_L []
theorem cut_to2 (ds : List PyData) : cutD ds none (some 2) = ds.take 2 := by
  unfold cutD HT.sIx
  simp
theorem atI_last {l : List (List Int)} (h : l ≠ []) : L2.atI (l.map lI) (-1) = some (lI (l.getLastD [])) := by
  obtain ⟨k, hk⟩ : ∃ k, l.length = k + 1 := ⟨l.length - 1, by have := List.length_pos_iff.mpr h; omega⟩
  have e : ixN (l.map lI).length (-1) = some k := by
    unfold ixN
    rw [List.length_map, hk]
    simp
    omega
  unfold L2.atI
  rw [e]
  show (l.map lI)[k]? = _
  rw [List.getElem?_map]
  have : l[k]? = some (l.getLastD []) := by
    rw [List.getLastD_eq_getLast?, List.getLast?_eq_getElem?, hk]
    simp [List.getElem?_eq_getElem (show k < l.length by omega)]
  rw [this]
  rfl
theorem atI_head {l : List (List Int)} (h : l ≠ []) : L2.atI (l.map lI) 0 = some (lI (l.headD [])) := by
  cases l with
  | nil => exact absurd rfl h
  | cons a l => exact atI_nat (k := 0) rfl
theorem oddL_len (order : List (List Int)) : 0 < (oddL order).length ∧ (oddL order).length ≤ 13 := by
  unfold oddL
  split <;> simp [oddS, oddT]
inductive R__law_odd : List PyData → List Sl → PyData → List PyData → Prop
  | mk (x : Bx) (order : List (List Int)) (h : order.length ≤ 64) (h3 : ∀ k ∈ order, k.length = 3) : R__law_odd (bxD x) [.kn (.list (order.map tI))] ((oddL order).getD (takeR x (oddL order).length).toNat .none) (bxD (takeB x (oddL order).length))
abbrev st__law_odd : Stmt := topS 60
abbrev N__law_odd : List Str := ["_law_box_here", "_law_order", "_law_bent", "_law_kind", "_law_some"]
theorem sc__law_odd : FnScope N__law_odd ["_law_box_here", "_law_order"] (defScope st__law_odd) := ⟨rfl, rfl, rfl, by decide +kernel, rfl, by decide +kernel, by decide +kernel⟩
theorem cl__law_odd {P : Program} {w : World} {K : PySem.W.Frag} {mg : Str → Option Value} {base : Heap} (T : Nm mg) (D : Dn K mg "_law_odd" st__law_odd ["_law_box_here", "_law_order"]) (c__law_pick : Cl P w K mg base 2 "_law_pick" (spB R__law_pick)) : Cl P w K mg base 3 "_law_odd" (spB R__law_odd) := by
  refine cl_ofB D sc__law_odd (by rintro _ _ _ _ ⟨⟩; rfl) fun f cdv A outer s H E hr => ⟨_, (pss_cons (ps_setLc (i := 2) (own := [("_law_kind", 3)]) (g := (gName 3)) (tt := _) rfl sc__law_odd.nd rfl rfl (sw_true rfl rfl rfl (by decide +kernel)) (pi_list (pv 1)) (blkOk_by (N := N__law_odd) (sc := defScope st__law_odd) (by decide +kernel)) (fun _ _ _ _ _ => (pg_name (i := 3) sc__law_odd.nd rfl (by first | exact Or.inl rfl | exact Or.inr rfl))) (fun _ _ _ _ _ => pts_nil) (fun _ _ _ _ _ => (pe_callTy (cr_listK (K := K)) (by rfl) T.list bt_list (pa_cons (pv 3) pa_nil))))
    (pss_cons (ps_set (i := 4) sc__law_odd.nd rfl (by first | exact Or.inl rfl | exact Or.inr rfl) (pe_lst (pa_cons pe_non (pa_cons pe_int (pa_cons pe_str (pa_cons (pe_op op_cat (pv 2) (pe_lst (pa_cons (pe_lst (pa_cons pe_int (pa_cons pe_int (pa_cons pe_int pa_nil)))) pa_nil))) (pa_cons (pe_ifExp (pt_cmpR (op_neD hr.units) (pv 1) (pe_lst pa_nil) (nomark _)) (pe_op op_rep (pe_lst (pa_cons pe_non pa_nil)) (pe_callB cr_len (by rfl) T.len bt_len (pa_cons (pv 1) pa_nil))) (pe_lst (pa_cons pe_non pa_nil))) (pa_cons (pe_op op_cat (pe_slice sl_list (pv 2) (po_some pe_int) po_none) (pe_lst (pa_cons (pe_tup (pa_cons pe_int (pa_cons pe_int (pa_cons pe_int pa_nil)))) pa_nil))) (pa_cons (pe_op op_cat (pv 2) (pe_lst (pa_cons pe_non pa_nil))) pa_nil)))))))))
    (pss_cons (ps_if (pt_cmpR (op_neD hr.units) (pv 1) (pe_lst pa_nil) (nomark _))
      (pss_one (ps_set (i := 4) sc__law_odd.nd rfl (by first | exact Or.inl rfl | exact Or.inr rfl) (pe_op op_cat (pv 4) (pe_lst (pa_cons (pe_slice sl_list (pv 2) (po_some pe_int) po_none) (pa_cons (pe_ifExp (pt_cmpR op_gt2 (pe_callB cr_len (by rfl) T.len bt_len (pa_cons (pv 2) pa_nil)) pe_int (nomark _)) (pe_op op_cat (pe_slice sl_list (pv 2) (po_some pe_int) po_none) (pe_lst (pa_cons (pe_ix ix_list (pv 2) (pe_un un_neg pe_int) (fun _ _ => rfl)) pa_nil))) (pe_lst pa_nil)) (pa_cons (pe_op op_cat (pe_slice sl_list (pv 2) (po_some pe_int) po_none) (pe_lst (pa_cons (pe_lst (pa_cons pe_int (pa_cons pe_int (pa_cons pe_bl pa_nil)))) pa_nil))) (pa_cons (pe_op op_cat (pe_slice sl_list (pv 2) (po_some pe_int) po_none) (pe_lst (pa_cons pe_str pa_nil))) (pa_cons (pe_op op_cat (pe_slice sl_list (pv 2) (po_some pe_int) po_none) (pe_lst (pa_cons (pe_slice sl_list (pe_ix ix_list (pv 2) pe_int (fun _ _ => rfl)) po_none (po_some pe_int)) pa_nil))) (pa_cons (pe_op op_cat (pe_slice sl_list (pv 2) (po_some pe_int) po_none) (pe_lst (pa_cons (pe_lst (pa_cons pe_int (pa_cons pe_int (pa_cons pe_int pa_nil)))) pa_nil))) pa_nil))))))))))
      pss_nil)
    (pss_one (ps_ret (pe_cl c__law_pick hr (by decide) (by rfl) (pa_cons (pv 0) (pa_cons (pv 4) pa_nil)))))))), ?_⟩
  rintro _ _ _ _ ⟨x, order, h, h3⟩ -
  let cI (i : Int) : TE := tC (.int i)
  let inv : En := [some (.ow true (bxD x)), some (.kn (.list (order.map tI))), some (.kn (.list (order.map lI))), none, none]
  have bent : SD (tAsg (tLc (iList K (tVar 1)) (gName 3) tYes (tCB (rListOf K) (tCons (tVar 3) tNil)) [3]) (gName 2)) [some (.ow true (bxD x)), some (.kn (.list (order.map tI))), none, none, none] (.nx inv) :=
    sd_asg (i := 2) (EvD.to (en_mapT (enc := tI) (bs := order) (f := lI) (ei_list (ed_var rfl)) (fun k hk => (en_listT (ds := k.map .int) (ed_var rfl)).kn) (NoOw.of rfl) (zs (by omega))).kn rfl) (np_of rfl)
  have lst : ∀ {ρ : En} {tA : TA} {ds : List PyData}, EvA tA ρ (ds.map Ar.d) ρ → ds.length ≤ 20 → EvD (tLst tA) ρ (.list ds) ρ := fun h hz => (en_lst h (zs' (by omega))).kn
  have i3 : ∀ {ρ : En} (a b c : Int), EvD (tLst (tCons (cI a) (tCons (cI b) (tCons (cI c) tNil)))) ρ (lI [a, b, c]) ρ := fun a b c => lst (ds := [.int a, .int b, .int c]) (ea_cons ed_c_int (ea_cons ed_c_int (ea_cons ed_c_int ea_nil))) (by simp)
  have one : ∀ {ρ : En} {te : TE} {d : PyData}, EvD te ρ d ρ → EvD (tLst (tCons te tNil)) ρ (.list [d]) ρ := fun {ρ te d} h => lst (ds := [d]) (ea_cons h ea_nil) (by show 1 ≤ 20; decide)
  have nonE : ∀ (some4 : Option Sl), EvB (tTest (tOp (rNeD K) (tVar 1) (tLst tNil))) (inv.set 4 some4) (decide (order ≠ [])) (inv.set 4 some4) := fun _ => EvB.to (eb_test (ed_neD (x := .list (order.map tI)) (y := .list []) (ed_var rfl) (lst (ds := []) ea_nil (by decide)) (shp_rowsL order) shp_nilL)) (by rw [eqv_nilL]; simp)
  have cat : ∀ (some4 : Option Sl) {te : TE} {d : PyData}, EvD te (inv.set 4 some4) (.list [d]) (inv.set 4 some4) → EvD (tOp rCat (tVar 2) te) (inv.set 4 some4) (.list (order.map lI ++ [d])) (inv.set 4 some4) := fun _ {te d} h =>
    (en_cat (ds := order.map lI) (es := [d]) (ed_var rfl) h (by rw [List.length_map]; exact zs' (by simp; omega))).kn
  have tl : ∀ (some4 : Option Sl), EvD (tSl (rSlL K) (tVar 2) (tPart (cI 1)) tNoPart) (inv.set 4 some4) (.list ((order.map lI).drop 1)) (inv.set 4 some4) := fun _ =>
    EvD.to (en_slL (lo := some 1) (hi := none) (ds := order.map lI) (ed_var rfl) (ep_int ed_c_int) ep_no).kn (by rw [cut_1])
  have cat1 : ∀ (some4 : Option Sl) {te : TE} {d : PyData}, EvD te (inv.set 4 some4) (.list [d]) (inv.set 4 some4) → EvD (tOp rCat (tSl (rSlL K) (tVar 2) (tPart (cI 1)) tNoPart) te) (inv.set 4 some4) (.list ((order.map lI).drop 1 ++ [d])) (inv.set 4 some4) := fun _ {te d} h =>
    (en_cat (ds := (order.map lI).drop 1) (es := [d]) (tl _) h (by rw [List.length_drop, List.length_map]; exact zs' (by simp; omega))).kn
  have t1 : SD _ inv (.nx (inv.set 4 (some (.kn (.list (oddS order)))))) :=
    sd_asg (i := 4) (lst (ρ := inv.set 4 none) (ds := oddS order) (ea_cons ed_c_non (ea_cons (ed_c_int (i := 0)) (ea_cons (ed_c_str (i := "0")) (ea_cons (cat none (one (i3 0 0 1))) (ea_cons (ed_if (nonE none)
      (fun z => EvD.to (en_rep (ds := [.none]) (m := order.length) (one ed_c_non) (EvD.to (ed_lenL (K := K) (te := tVar 1) (ds := order.map tI) (ed_var rfl)) (by rw [List.length_map])) (by omega) (by omega) (zs' (by simp; omega))).kn (by rw [if_pos (of_decide_eq_true z)]; simp))
      (fun z => EvD.to (one ed_c_non) (by rw [if_neg (of_decide_eq_false z)])))
      (ea_cons (cat1 none (one (EvD.to (ed_tup (ds := [.int 0, .int 0, .int 0]) (ea_cons ed_c_int (ea_cons ed_c_int (ea_cons ed_c_int ea_nil))) (by show 3 ≤ sizeLine; decide)) rfl))) (ea_cons (cat none (one ed_c_non)) ea_nil))))))) (by simp [oddS])) (np_of rfl)
  let ρ2 : En := inv.set 4 (some (.kn (.list (oddS order))))
  have ol := oddL_len order
  have fin : ∀ ds : List PyData, ds = oddL order → ∃ ρ', ρ'[0]? = some (some (.ow true (bxD (takeB x (oddL order).length)))) ∧ SD (tRet (tCall (spB R__law_pick) [] E0 (tCons (tVar 0) (tCons (tVar 4) tNil)))) (inv.set 4 (some (.kn (.list ds)))) (.rt ((oddL order).getD (takeR x (oddL order).length).toNat .none) ρ') := fun ds e => by
    subst e
    exact ⟨_, rfl, sd_ret (ed_callB (i := 0) (p := true) (ds := bxD x) (es := bxD x) (as := [.d (.list (oddL order))]) (ss := [.kn (.list (oddL order))]) (ea_cons (ed_var rfl) ea_nil) rfl rfl (.d .nil) (by simp [notOw]) (.mk x (oddL order) ol.1 (by omega)))⟩
  by_cases z : order = []
  · obtain ⟨ρ', e, f⟩ := fin (oddS order) (by unfold oddL; rw [if_neg (by simp [z])])
    exact ⟨ρ', e, sd_seq bent (sd_seq t1 (sd_seq (sd_F (EvB.to (nonE _) (decide_eq_false (by simp [z]))) sd_nx) f))⟩
  · obtain ⟨ρ', e, f⟩ := fin (oddS order ++ oddT order) (by unfold oddL; rw [if_pos z])
    have ix0 : EvD (tSl (rSlL K) (tOp (rIxL K) (tVar 2) (cI 0)) tNoPart (tPart (cI 2))) ρ2 (lI ((order.headD []).take 2)) ρ2 :=
      EvD.to (en_slL (lo := none) (hi := some 2) (ds := (order.headD []).map .int) (ed_ixL (ds := order.map lI) (ed_var rfl) ed_c_int (atI_head z)) ep_no (ep_int ed_c_int)).kn (by rw [cut_to2, ← List.map_take]; rfl)
    have ixl : EvD (tOp (rIxL K) (tVar 2) (tUn (rU fun i => .int (-i)) (cI 1))) ρ2 (lI (order.getLastD [])) ρ2 := ed_ixL (ds := order.map lI) (ed_var rfl) (ed_neg ed_c_int) (atI_last z)
    have t2 := sd_asg (i := 4) (en_cat (ρ := ρ2) (ds := oddS order) (es := oddT order) (ed_var (i := 4) rfl) (lst (ds := oddT order) (ea_cons (tl _) (ea_cons (ed_if (b := decide (1 < order.length)) (EvB.to (eb_test (ed_gt (ed_lenL (K := K) (te := tVar 2) (ds := order.map lI) (ed_var rfl)) (ed_c_int (i := 1)))) (by rw [List.length_map]; exact decide_eq_decide.mpr (by omega)))
      (fun q => EvD.to (cat1 _ (one ixl)) (by rw [if_pos (of_decide_eq_true q)]))
      (fun q => EvD.to (lst (ds := []) ea_nil (by decide)) (by rw [if_neg (of_decide_eq_false q)])))
      (ea_cons (cat1 _ (one (lst (ds := [.int 0, .int 0, .bool true]) (ea_cons (ed_c_int (i := 0)) (ea_cons (ed_c_int (i := 0)) (ea_cons (ed_c_bl (i := true)) ea_nil))) (by simp))))
      (ea_cons (cat1 _ (one (ed_c_str (i := "001")))) (ea_cons (cat1 _ (one ix0)) (ea_cons (cat1 _ (one (i3 9 0 1))) ea_nil)))))) (by simp [oddT])) (zs' (by simp [oddS, oddT]))).kn (np_kn rfl)
    exact ⟨ρ', e, sd_seq bent (sd_seq t1 (sd_seq (sd_T (EvB.to (nonE _) (decide_eq_true z)) t2) f))⟩
end DW


set_option maxRecDepth 100000
set_option maxHeartbeats 1000000
namespace DW
open PySem PySem.Spec PyProof.Rows L2
/-! ### the law's words and the program's are one -/
theorem fold_if {α β : Type} (p : β → Bool) (f : β → α) : ∀ (l : List β) (acc : List α), l.foldl (fun acc b => if p b = true then acc ++ [f b] else acc) acc = acc ++ (l.filter p).map f
  | [], acc => by simp
  | b :: l, acc => by
    rw [List.foldl_cons, fold_if p f l]
    by_cases h : p b = true
    · rw [if_pos h, List.filter_cons_of_pos h]
      simp
    · rw [if_neg h, List.filter_cons_of_neg h]
theorem zipIdx_rangeG {α : Type} (d : α) (l : List α) : l.zipIdx = (List.range l.length).map fun k => (l.getD k d, k) := by
  refine List.ext_getElem? fun i => ?_
  rw [List.getElem?_zipIdx, List.getElem?_map]
  by_cases h : i < l.length
  · rw [List.getElem?_range h, List.getElem?_eq_getElem h]
    simp [List.getD_eq_getElem?_getD, h]
  · rw [List.getElem?_eq_none (by omega), List.getElem?_eq_none (by simp; omega)]
    rfl
theorem placesOf_eq (ps one other kind : List Int) : placesOf ps one other kind = lawAt ps one other kind := by
  unfold placesOf lawAt
  rw [zipIdx_range, List.foldl_map]
  have := fold_if (fun k : Nat => decide ([ps.getD k 0, one.getD k 0, other.getD k 0] = kind)) (fun k : Nat => (k : Int)) (List.range ps.length) []
  simp only [decide_eq_true_eq, List.nil_append] at this
  exact this
theorem rowSet_eq (one other lot : List Int) : rowSet one other lot = lawSet one other lot := by
  unfold rowSet lawSet
  rw [zipIdx_range, List.map_map]
  rfl
theorem lotsS_eq (ps : List Int) : lotsS ps = sortL ((lotsF ps).drop 1) := by
  obtain ⟨tl, e, hn⟩ := lotsF_ne ps [] (by simp)
  have e : lotsF ps = [] :: tl := e
  have h2 : (sortL tl).Pairwise (· ≤ ·) := by
    have := List.pairwise_mergeSort (le := leL) (fun a b c h1 h2 => by
      unfold leL at *
      exact decide_eq_true (List.le_trans (of_decide_eq_true h1) (of_decide_eq_true h2))) (fun a b => by
      unfold leL
      rcases List.le_total a b with z | z <;> simp [z]) tl
    exact this.imp fun h => by simpa [leL] using h
  have : ([] :: sortL tl) = sortL ([] :: tl) := sort_eq ((List.mergeSort_perm _ _).cons _) (List.pairwise_cons.mpr ⟨fun b _ => List.nil_le b, h2⟩)
  unfold lotsS
  rw [e, ← this]
  rfl
/-! ### searches -/
theorem goOn_all {β : Type} {f : Unit → β → Except PyData Unit} : ∀ {bs : List β}, goB (goOn f bs ()) = true ↔ ∀ b ∈ bs, goB (f () b) = true
  | [] => by simp [goOn, goB]
  | b :: bs => by
    unfold goOn
    cases z : f () b with
    | ok u =>
      have := goOn_all (f := f) (bs := bs)
      simp only [List.mem_cons, forall_eq_or_imp, z, goB, true_and]
      exact this
    | error d => simp [goB, z]
theorem none_goB {e : Except PyData Unit} (h : ∀ d, e = .error d → isNone d = false) : isNone (resD e) = goB e := by
  cases e with
  | ok u => rfl
  | error d => exact h d rfl
/-- a kind may go first -/
def Lets (c : Ck) (left : List (List Int)) (kind : List Int) : Prop := ∀ one ∈ c.2, ∀ other ∈ c.2, (∀ e ∈ lawUnlike c.1 one other, e ∈ left) → ∀ lot ∈ (lotsF (lawAt c.1 one other kind)).drop 1, lawSet one other lot ∈ c.2
theorem letIn_iff (ps one other : List Int) (left : List (List Int)) : letIn ps one other left = true ↔ ∀ e ∈ lawUnlike ps one other, e ∈ left := by
  unfold letIn
  rw [List.all_map, List.all_eq_true]
  simp
theorem letE_iff (cks : List Ck) (left : List (List Int)) (kind : List Int) : goB (letE cks left kind) = true ↔ ∀ c ∈ cks, Lets c left kind := by
  unfold letE Lets
  rw [goOn_all]
  refine forall_congr' fun c => forall_congr' fun hc => ?_
  rw [goOn_all]
  refine forall_congr' fun one => forall_congr' fun ho => ?_
  rw [goOn_all]
  refine forall_congr' fun other => forall_congr' fun hot => ?_
  unfold letO
  rw [← letIn_iff]
  split
  · rename_i z
    rw [goOn_all]
    refine ⟨fun h _ lot hl => ?_, fun h lot hl => ?_⟩
    · have := h lot hl
      unfold letL at this
      split at this
      · assumption
      · cases this
    · unfold letL
      rw [if_pos (h z lot hl)]
      rfl
  · rename_i z
    exact ⟨fun _ q => absurd q z, fun _ => rfl⟩
/-! ### the program's is_ranking -/
theorem mem_unlikeP_iff {c : Ck} {kinds : List (List Int)} {p : List Int × List Int} : p ∈ unlikeP c kinds ↔ p.1 ∈ c.2 ∧ p.2 ∈ c.2 ∧ p.1 ≠ p.2 ∧ unlikeIn c.1 p.1 p.2 kinds = true := by
  have e : unlikeP c kinds = c.2.flatMap fun one => (c.2.filter fun other => !decide (one = other) && unlikeIn c.1 one other kinds).map fun other => (one, other) := by
    unfold unlikeP
    have : (fun (acc : List (List Int × List Int)) (one : List Int) => c.2.foldl (fun acc other => if (!decide (one = other) && unlikeIn c.1 one other kinds) = true then acc ++ [(one, other)] else acc) acc) = fun acc one => acc ++ (c.2.filter fun other => !decide (one = other) && unlikeIn c.1 one other kinds).map fun other => (one, other) := by
      funext acc one
      exact fold_if _ _ _ _
    rw [this, fold_app]
    rfl
  rw [e, List.mem_flatMap]
  constructor
  · rintro ⟨one, h1, h2⟩
    obtain ⟨other, h3, rfl⟩ := List.mem_map.mp h2
    have h3 := List.mem_filter.mp h3
    simp only [Bool.and_eq_true, Bool.not_eq_true', decide_eq_false_iff_not] at h3
    exact ⟨h1, h3.1, h3.2.1, h3.2.2⟩
  · rintro ⟨h1, h2, h3, h4⟩
    exact ⟨p.1, h1, List.mem_map.mpr ⟨p.2, List.mem_filter.mpr ⟨h2, by simp [h3, h4]⟩, rfl⟩⟩
theorem barred_iff {c : Ck} {one other kind : List Int} : barredF c one other kind = [] ↔ ∀ lot ∈ (lotsF (lawAt c.1 one other kind)).drop 1, lawSet one other lot ∈ c.2 := by
  unfold barredF
  rw [placesOf_eq, lotsS_eq, List.filter_eq_nil_iff]
  have : ∀ lot, lot ∈ sortL ((lotsF (lawAt c.1 one other kind)).drop 1) ↔ lot ∈ (lotsF (lawAt c.1 one other kind)).drop 1 := fun lot => (List.mergeSort_perm _ _).mem_iff
  refine forall_congr' fun lot => ?_
  rw [this, rowSet_eq]
  simp
theorem firstBar_none {cks : List Ck} {kind : List Int} {pss : List (List (List Int × List Int))} : isNone (resD (firstBarE cks kind pss)) = goB (firstBarE cks kind pss) := by
  refine none_goB fun d h => ?_
  refine goOn_err (Q := fun d => isNone d = false) (fun _ q d h => ?_) h
  refine goOn_err (Q := fun d => isNone d = false) (fun _ p d h => ?_) h
  unfold barE at h
  split at h
  · cases h
  · cases h
    rfl
theorem lawAt_same {ps one kind : List Int} (h : kind.getD 1 0 ≠ kind.getD 2 0) : lawAt ps one one kind = [] := by
  refine List.eq_nil_iff_forall_not_mem.mpr fun k hk => ?_
  obtain ⟨j, _, _, e⟩ := mem_lawAt.mp hk
  rw [← e] at h
  exact h rfl
theorem firstBar_iff {cks : List Ck} {left : List (List Int)} {kind : List Int} (h : kind.getD 1 0 ≠ kind.getD 2 0) : isNone (resD (firstBarE cks kind (cks.map fun c => unlikeP c left))) = true ↔ ∀ c ∈ cks, Lets c left kind := by
  rw [firstBar_none]
  unfold firstBarE
  rw [goOn_all]
  have key : ∀ c : Ck, ∀ k, cks[k]? = some c → (goB (goOn (barE cks kind k) (unlikeP c left) ()) = true ↔ Lets c left kind) := by
    intro c k hk
    rw [goOn_all]
    have hb : ∀ p, goB (barE cks kind k () p) = true ↔ barredF c p.1 p.2 kind = [] := fun p => by
      unfold barE
      rw [List.getD_eq_getElem?_getD, hk, Option.getD_some]
      split
      · rename_i z
        simp [z, goB]
      · rename_i l tl z
        simp [z, goB]
    unfold Lets
    constructor
    · intro q one ho other hot hu
      by_cases z : one = other
      · subst z
        rw [lawAt_same h]
        intro lot hl
        simp [lotsF] at hl
      · exact barred_iff.mp ((hb (one, other)).mp (q (one, other) (mem_unlikeP_iff.mpr ⟨ho, hot, z, (letIn_iff _ _ _ _).mpr hu⟩)))
    · intro q p hp
      obtain ⟨h1, h2, h3, h4⟩ := mem_unlikeP_iff.mp hp
      exact (hb p).mpr (barred_iff.mpr (q p.1 h1 p.2 h2 ((letIn_iff _ _ _ _).mp h4)))
  constructor
  · intro q c hc
    obtain ⟨k, hk, e⟩ := List.mem_iff_getElem.mp hc
    refine (key c k (by rw [List.getElem?_eq_getElem hk, e])).mp ?_
    refine q (unlikeP c left, k) (List.mem_zipIdx_iff_getElem?.mpr ?_)
    rw [List.getElem?_map, List.getElem?_eq_getElem hk, e]
    rfl
  · intro q z hz
    have e := List.mem_zipIdx_iff_getElem?.mp hz
    rw [List.getElem?_map] at e
    cases hk : cks[z.2]? with
    | none => rw [hk] at e; cases e
    | some c =>
      rw [hk] at e
      have e : unlikeP c left = z.1 := by simpa using e
      rw [← e]
      exact (key c z.2 hk).mpr (q c (List.mem_of_getElem? hk))
/-- is_ranking is the law's own -/
theorem rank_eq {cks : List Ck} {order : List (List Int)} (h : ∀ kind ∈ order, kind.getD 1 0 ≠ kind.getD 2 0) : rankF cks order = lawRanked cks order := by
  unfold rankF lawRanked
  rw [zipIdx_rangeG [] order, List.map_map, Bool.eq_iff_iff, List.all_map, List.all_map, List.all_eq_true, List.all_eq_true]
  refine forall_congr' fun k => forall_congr' fun hk => ?_
  have hk := List.mem_range.mp hk
  have hm : order.getD k [] ∈ order := by
    rw [List.getD_eq_getElem?_getD, List.getElem?_eq_getElem hk]
    exact List.getElem_mem hk
  show isNone (resD (firstBarE cks (order.getD k []) (cks.map fun c => unlikeP c (order.drop k)))) = true ↔ goB (letE cks (order.drop k) (order.getD k [])) = true
  rw [firstBar_iff (h _ hm), letE_iff]
end DW

set_option maxRecDepth 100000
set_option maxHeartbeats 1000000
namespace DW
open PySem PySem.Spec PyProof.Rows L2
/-! ### suits_paper is the law's own -/
theorem goOn_cons {β γ : Type} (f : γ → β → Except PyData γ) (b : β) (bs : List β) (c : γ) : goOn f (b :: bs) c = (match f c b with | .ok c' => goOn f bs c' | .error d => .error d) := rfl
theorem goOn_append {β γ : Type} (f : γ → β → Except PyData γ) : ∀ (l1 l2 : List β) (c : γ), goOn f (l1 ++ l2) c = (match goOn f l1 c with | .ok c' => goOn f l2 c' | .error d => .error d)
  | [], l2, c => rfl
  | b :: l1, l2, c => by
    rw [List.cons_append, goOn_cons, goOn_cons]
    cases z : f c b with
    | ok c' => exact goOn_append f l1 l2 c'
    | error d => rfl
theorem goOn_map {α β γ : Type} (f : γ → β → Except PyData γ) (g : α → β) : ∀ (l : List α) (c : γ), goOn f (l.map g) c = goOn (fun c b => f c (g b)) l c
  | [], c => rfl
  | b :: l, c => by
    rw [List.map_cons, goOn_cons, goOn_cons]
    cases z : f c (g b) with
    | ok c' => exact goOn_map f g l c'
    | error d => rfl
def stg (ps one other ahead kind : List Int) : List Stg := (lotsS (placesOf ps one other kind)).map fun lot => (kind, lot, rowSet one other (ahead ++ lot))
def stl (ps one other : List Int) : List (List Int) → List Int → List Stg
  | [], _ => []
  | kind :: o, ahead => stg ps one other ahead kind ++ stl ps one other o (ahead ++ placesOf ps one other kind)
theorem stages_stl (ps one other : List Int) : ∀ (order : List (List Int)) (acc : List Stg) (ahead : List Int), (order.foldl (stepS ps one other) (acc, ahead)).1 = acc ++ stl ps one other order ahead
  | [], acc, ahead => by simp [stl]
  | kind :: o, acc, ahead => by
    rw [List.foldl_cons]
    unfold stl
    rw [← List.append_assoc, ← stages_stl ps one other o]
    rfl
theorem fault_paperO (c : Ck) (one other : List Int) : ∀ (order : List (List Int)) (ahead : List Int), goOn (faultQ c one other) (stl c.1 one other order ahead) () = (match goOn (paperK c one other) order ahead with | .ok _ => .ok () | .error d => .error d)
  | [], ahead => rfl
  | kind :: o, ahead => by
    unfold stl
    rw [goOn_append]
    have e : goOn (faultQ c one other) (stg c.1 one other ahead kind) () = goOn (paperL c one other kind ahead) (sortL ((lotsF (lawAt c.1 one other kind)).drop 1)) () := by
      unfold stg
      rw [goOn_map, lotsS_eq, placesOf_eq]
      congr 1
      funext u lot
      unfold faultQ paperL
      simp only [rowSet_eq]
    rw [e]
    conv => rhs; unfold goOn
    unfold paperK
    cases z : goOn (paperL c one other kind ahead) (sortL ((lotsF (lawAt c.1 one other kind)).drop 1)) () with
    | ok u =>
      simp only []
      rw [placesOf_eq]
      exact fault_paperO c one other o _
    | error d => rfl
theorem fault_paper (c : Ck) (order : List (List Int)) : faultE c order = paperE c order := by
  unfold faultE paperE
  congr 1
  funext u one
  congr 1
  funext u other
  unfold stagesF
  rw [stages_stl, List.nil_append, fault_paperO]
  rfl
theorem suits_law (cks : List Ck) (k : Nat) (order : List (List Int)) : suitsD cks k order = resD (paperE (cks.getD k ([], [])) order) := by
  unfold suitsD
  rw [fault_paper]
/-! ### what a suiting order is -/
def StepOk (c : Ck) (one other : List Int) : List (List Int) → List Int → Prop
  | [], _ => True
  | kind :: o, ahead => (∀ lot ∈ (lotsF (lawAt c.1 one other kind)).drop 1, lawSet one other (ahead ++ lot) ∈ c.2) ∧ StepOk c one other o (ahead ++ lawAt c.1 one other kind)
theorem paperK_iff (c : Ck) (one other : List Int) : ∀ (order : List (List Int)) (ahead : List Int), goB (goOn (paperK c one other) order ahead) = true ↔ StepOk c one other order ahead
  | [], ahead => by simp [goOn, goB, StepOk]
  | kind :: o, ahead => by
    have hm : ∀ lot, lot ∈ sortL ((lotsF (lawAt c.1 one other kind)).drop 1) ↔ lot ∈ (lotsF (lawAt c.1 one other kind)).drop 1 := fun lot => (List.mergeSort_perm _ _).mem_iff
    have key : goB (goOn (paperL c one other kind ahead) (sortL ((lotsF (lawAt c.1 one other kind)).drop 1)) ()) = true ↔ ∀ lot ∈ (lotsF (lawAt c.1 one other kind)).drop 1, lawSet one other (ahead ++ lot) ∈ c.2 := by
      rw [goOn_all]
      refine forall_congr' fun lot => ?_
      rw [hm]
      refine forall_congr' fun _ => ?_
      unfold paperL
      split
      · rename_i z
        simp [goB, z]
      · rename_i z
        simp [goB, z]
    unfold goOn StepOk
    rw [← key, ← paperK_iff c one other o]
    unfold paperK
    cases z : goOn (paperL c one other kind ahead) (sortL ((lotsF (lawAt c.1 one other kind)).drop 1)) () with
    | ok u => simp [goB]
    | error d => simp [goB]
def Suit (c : Ck) (order : List (List Int)) : Prop := ∀ one ∈ c.2, ∀ other ∈ c.2, StepOk c one other order []
theorem paperE_iff (c : Ck) (order : List (List Int)) : goB (paperE c order) = true ↔ Suit c order := by
  unfold paperE Suit
  rw [goOn_all]
  refine forall_congr' fun one => forall_congr' fun ho => ?_
  rw [goOn_all]
  refine forall_congr' fun other => forall_congr' fun hot => ?_
  rw [← paperK_iff]
  unfold paperO
  cases goOn (paperK c one other) order [] <;> rfl
theorem paper_none (c : Ck) (order : List (List Int)) : isNone (resD (paperE c order)) = goB (paperE c order) := by
  refine none_goB fun d h => ?_
  refine goOn_err (Q := fun d => isNone d = false) (fun _ one d h => ?_) h
  refine goOn_err (Q := fun d => isNone d = false) (fun _ other d h => ?_) h
  unfold paperO at h
  split at h
  · cases h
  · rename_i e z
    cases h
    refine goOn_err (Q := fun d => isNone d = false) (fun ahead kind d h => ?_) z
    unfold paperK at h
    split at h
    · cases h
    · rename_i e z
      cases h
      refine goOn_err (Q := fun d => isNone d = false) (fun _ lot d h => ?_) z
      unfold paperL at h
      split at h
      · cases h
      · cases h
        rfl
/-! ### ranked and suiting -/
theorem getD_ext {a b : List Int} (h : a.length = b.length) (e : ∀ k, k < a.length → a.getD k 0 = b.getD k 0) : a = b := by
  refine List.ext_getElem h fun k h1 h2 => ?_
  have := e k h1
  rw [List.getD_eq_getElem?_getD, List.getD_eq_getElem?_getD, List.getElem?_eq_getElem h1, List.getElem?_eq_getElem h2] at this
  exact this
theorem mem_lawUnlike {ps one other e : List Int} (h1 : one.length = ps.length) (h2 : other.length = ps.length) : e ∈ lawUnlike ps one other ↔ ∃ j : Nat, j < ps.length ∧ e = [ps.getD j 0, one.getD j 0, other.getD j 0] ∧ one.getD j 0 ≠ other.getD j 0 := by
  have z : zipI ps one other = (List.range ps.length).map fun j => [ps.getD j 0, one.getD j 0, other.getD j 0] := by
    unfold zipI
    refine List.ext_getElem? fun i => ?_
    rw [List.getElem?_map, List.getElem?_map]
    by_cases h : i < ps.length
    · have : (ps.zip (one.zip other))[i]? = some (ps[i], one[i], other[i]) := by simp [List.getElem?_zip_eq_some, h, h1, h2]
      rw [this, List.getElem?_range h]
      simp [List.getD_eq_getElem?_getD, h, h1, h2]
    · rw [List.getElem?_eq_none (by rw [List.length_zip, List.length_zip]; omega), List.getElem?_eq_none (by rw [List.length_range]; omega)]
      rfl
  unfold lawUnlike
  rw [z, List.mem_filter, List.mem_map]
  constructor
  · rintro ⟨⟨j, hj, rfl⟩, q⟩
    refine ⟨j, List.mem_range.mp hj, rfl, ?_⟩
    simpa using q
  · rintro ⟨j, hj, rfl, q⟩
    exact ⟨⟨j, List.mem_range.mpr hj, rfl⟩, by simpa using q⟩
theorem full_lot {ps : List Int} (h : ps ≠ []) : ps ∈ (lotsF ps).drop 1 := by
  have : ∀ (ps : List Int) (acc : List (List Int)) (a : List Int), a ∈ acc → a ++ ps ∈ ps.foldl (fun acc p => acc ++ acc.map fun l => l ++ [p]) acc := by
    intro ps
    induction ps with
    | nil => intro acc a ha; simpa using ha
    | cons p ps ih =>
      intro acc a ha
      rw [List.foldl_cons]
      have := ih (acc ++ acc.map fun l => l ++ [p]) (a ++ [p]) (List.mem_append_right _ (List.mem_map.mpr ⟨a, ha, rfl⟩))
      simpa using this
  have m : ps ∈ lotsF ps := by
    have := this ps [[]] [] (by simp)
    simpa [lotsF] using this
  obtain ⟨tl, e⟩ := lotsF_head ps
  rw [e] at m ⊢
  rcases List.mem_cons.mp m with z | z
  · exact absurd z h
  · exact z
theorem lot_sub {ps lot : List Int} (hn : ps.Nodup) (h : lot ∈ (lotsF ps).drop 1) : ∀ k ∈ lot, k ∈ ps := (lots_sep' hn).2 lot (List.mem_of_mem_drop h)
end DW

set_option maxRecDepth 100000
set_option maxHeartbeats 1000000
namespace DW
open PySem PySem.Spec PyProof.Rows L2
/-- what a check of a drawn book is like -/
structure CkOk (cols : List Int) (c : Ck) : Prop where
  n : 1 ≤ c.1.length ∧ c.1.length ≤ 3
  pl : ∀ p ∈ c.1, 0 ≤ p ∧ p < cols.length
  rows : ∀ r ∈ c.2, r ∈ allRows cols c.1
  nd : c.2.Nodup
  srt : c.2.Pairwise (· ≤ ·)
theorem lawKinds_has {cols : List Int} {p a b : Int} (h : 0 ≤ p ∧ p < cols.length) (ha : 0 ≤ a ∧ a < cols.getD p.toNat 0) (hb : 0 ≤ b ∧ b < cols.getD p.toNat 0) (ne : a ≠ b) : [p, a, b] ∈ lawKinds cols := by
  rw [lawKinds_eq]
  refine List.mem_flatMap.mpr ⟨p.toNat, List.mem_range.mpr (by omega), List.mem_flatMap.mpr ⟨a.toNat, List.mem_range.mpr (by omega), List.mem_map.mpr ⟨b.toNat, List.mem_filter.mpr ⟨List.mem_range.mpr (by omega), ?_⟩, ?_⟩⟩⟩
  · simp
    omega
  · rw [Int.toNat_of_nonneg h.1, Int.toNat_of_nonneg ha.1, Int.toNat_of_nonneg hb.1]
theorem getD_mem {l : List Int} {k : Nat} (h : k < l.length) : l.getD k 0 ∈ l := by
  rw [List.getD_eq_getElem?_getD, List.getElem?_eq_getElem h]
  exact List.getElem_mem h
theorem unlike_kind {cols : List Int} {c : Ck} (C : CkOk cols c) {one other : List Int} (h1 : one ∈ c.2) (h2 : other ∈ c.2) {j : Nat} (hj : j < c.1.length) (ne : one.getD j 0 ≠ other.getD j 0) : [c.1.getD j 0, one.getD j 0, other.getD j 0] ∈ lawKinds cols :=
  lawKinds_has (C.pl _ (getD_mem hj)) ((mem_allRows.mp (C.rows _ h1)).2 j hj) ((mem_allRows.mp (C.rows _ h2)).2 j hj) ne
/-- the places set ahead are those of the kinds that are done -/
def Ahead (ps one other ahead : List Int) (done : List (List Int)) : Prop := ∀ j : Nat, j < ps.length → ((j : Int) ∈ ahead ↔ [ps.getD j 0, one.getD j 0, other.getD j 0] ∈ done)
theorem ranked_step {cols : List Int} {c : Ck} (C : CkOk cols c) {order : List (List Int)} (hn : order.Nodup) (hd : ∀ kind ∈ order, kind.getD 1 0 ≠ kind.getD 2 0) (hall : ∀ kind ∈ lawKinds cols, kind ∈ order) {one other : List Int} (ho : one ∈ c.2) (hot : other ∈ c.2)
    (hr : ∀ k, k < order.length → Lets c (order.drop k) (order.getD k [])) : ∀ (rest done : List (List Int)) (ahead : List Int), done ++ rest = order → Ahead c.1 one other ahead done → lawSet one other ahead ∈ c.2 → StepOk c one other rest ahead
  | [], _, _, _, _, _ => True.intro
  | kind :: rest, done, ahead, e, ha, hc => by
    have l1 : one.length = c.1.length := (mem_allRows.mp (C.rows _ ho)).1
    have l2 : other.length = c.1.length := (mem_allRows.mp (C.rows _ hot)).1
    have lc : (lawSet one other ahead).length = c.1.length := (lawSet_len _ _ _).trans l1
    have hkm : kind ∈ order := by rw [← e]; simp
    have hne := hd kind hkm
    have hnd : kind ∉ done := fun z => by
      rw [← e] at hn
      exact (List.nodup_append.mp hn).2.2 kind z kind (by simp) rfl
    have hk : done.length < order.length := by rw [← e]; simp
    have e1 : order.drop done.length = kind :: rest := by rw [← e]; simp
    have e2 : order.getD done.length [] = kind := by
      rw [List.getD_eq_getElem?_getD, ← e]
      simp
    have cur : ∀ j, j < c.1.length → (lawSet one other ahead).getD j 0 = if (j : Int) ∈ ahead then other.getD j 0 else one.getD j 0 := fun j hj => lawSet_get (by omega)
    have L := hr done.length hk
    rw [e1, e2] at L
    have hat : lawAt c.1 (lawSet one other ahead) other kind = lawAt c.1 one other kind := by
      unfold lawAt
      congr 1
      refine List.filter_congr fun j hj => ?_
      have hj := List.mem_range.mp hj
      rw [cur j hj]
      by_cases z : (j : Int) ∈ ahead
      · rw [if_pos z]
        have d := (ha j hj).mp z
        refine decide_eq_decide.mpr ⟨fun q => ?_, fun q => ?_⟩
        · rw [← q] at hne
          exact absurd rfl hne
        · rw [q] at d
          exact absurd d hnd
      · rw [if_neg z]
    have L2 := L _ hc _ hot (fun x hx => by
      obtain ⟨j, hj, rfl, ne⟩ := (mem_lawUnlike lc l2).mp hx
      rw [cur j hj] at ne ⊢
      by_cases z : (j : Int) ∈ ahead
      · rw [if_pos z] at ne
        exact absurd rfl ne
      · rw [if_neg z] at ne ⊢
        have m := hall _ (unlike_kind C ho hot hj ne)
        rw [← e] at m
        rcases List.mem_append.mp m with q | q
        · exact absurd ((ha j hj).mpr q) z
        · exact q)
    rw [hat] at L2
    have sets : ∀ lot, lawSet (lawSet one other ahead) other lot = lawSet one other (ahead ++ lot) := fun lot => by
      refine getD_ext (by rw [lawSet_len, lawSet_len, lawSet_len]) fun j hj => ?_
      have hj : j < c.1.length := by rw [lawSet_len] at hj; omega
      rw [lawSet_get (by omega), lawSet_get (by omega), lawSet_get (lot := ahead ++ lot) (by omega)]
      by_cases y : (j : Int) ∈ lot
      · rw [if_pos y, if_pos (List.mem_append_right _ y)]
      · rw [if_neg y]
        by_cases z : (j : Int) ∈ ahead
        · rw [if_pos z, if_pos (List.mem_append_left _ z)]
        · rw [if_neg z, if_neg (fun q => (List.mem_append.mp q).elim z y)]
    have L3 : ∀ lot ∈ (lotsF (lawAt c.1 one other kind)).drop 1, lawSet one other (ahead ++ lot) ∈ c.2 := fun lot hl => by
      rw [← sets]
      exact L2 lot hl
    refine ⟨L3, ranked_step C hn hd hall ho hot hr rest (done ++ [kind]) _ (by rw [← e]; simp) (fun j hj => ?_) ?_⟩
    · rw [List.mem_append, List.mem_append, ha j hj, List.mem_singleton]
      refine or_congr Iff.rfl ?_
      rw [mem_lawAt]
      constructor
      · rintro ⟨i, e3, hi, q⟩
        have : j = i := by omega
        subst this
        exact q
      · intro q
        exact ⟨j, rfl, hj, q⟩
    · by_cases z : lawAt c.1 one other kind = []
      · rw [z, List.append_nil]
        exact hc
      · exact L3 _ (full_lot z)
theorem stepOk_skip {c : Ck} {one other : List Int} : ∀ (pre : List (List Int)) {rest : List (List Int)} {ahead : List Int}, (∀ kind ∈ pre, lawAt c.1 one other kind = []) → StepOk c one other (pre ++ rest) ahead → StepOk c one other rest ahead
  | [], _, _, _, h => h
  | kind :: pre, rest, ahead, hp, h => by
    have h := h.2
    rw [hp kind (by simp), List.append_nil] at h
    exact stepOk_skip pre (fun x hx => hp x (by simp [hx])) h
theorem ranked_iff {cols : List Int} {c : Ck} (C : CkOk cols c) {order : List (List Int)} (hn : order.Nodup) (hd : ∀ kind ∈ order, kind.getD 1 0 ≠ kind.getD 2 0) (hall : ∀ kind ∈ lawKinds cols, kind ∈ order) :
    (∀ k, k < order.length → Lets c (order.drop k) (order.getD k [])) ↔ Suit c order := by
  constructor
  · intro hr one ho other hot
    refine ranked_step C hn hd hall ho hot hr order [] [] rfl (fun j _ => by simp) ?_
    have l1 : one.length = c.1.length := (mem_allRows.mp (C.rows _ ho)).1
    have : lawSet one other [] = one := getD_ext (lawSet_len _ _ _) fun j hj => by
      rw [lawSet_len] at hj
      rw [lawSet_get hj]
      simp
    rw [this]
    exact ho
  · intro hs k hk one ho other hot hu
    have l1 : one.length = c.1.length := (mem_allRows.mp (C.rows _ ho)).1
    have l2 : other.length = c.1.length := (mem_allRows.mp (C.rows _ hot)).1
    have e : order = order.take k ++ (order.getD k [] :: order.drop (k + 1)) := by
      rw [List.getD_eq_getElem?_getD, List.getElem?_eq_getElem hk, Option.getD_some, ← List.drop_eq_getElem_cons hk, List.take_append_drop]
    have h := hs one ho other hot
    rw [e] at h
    have h2 := stepOk_skip (order.take k) (fun kind hm => ?_) h
    · exact h2.1
    · refine List.eq_nil_iff_forall_not_mem.mpr fun j hj => ?_
      obtain ⟨i, _, hi, q⟩ := mem_lawAt.mp hj
      have hne := hd kind (List.mem_of_mem_take hm)
      rw [← q] at hne
      have m := hu _ ((mem_lawUnlike l1 l2).mpr ⟨i, hi, rfl, hne⟩)
      rw [q] at m
      have n2 := hn
      rw [← List.take_append_drop k order] at n2
      exact (List.nodup_append.mp n2).2.2 kind hm kind m rfl
/-- the law's ranking check is that all suit -/
theorem lawRanked_iff {cols : List Int} {cks : List Ck} (C : ∀ c ∈ cks, CkOk cols c) {order : List (List Int)} (hn : order.Nodup) (hd : ∀ kind ∈ order, kind.getD 1 0 ≠ kind.getD 2 0) (hall : ∀ kind ∈ lawKinds cols, kind ∈ order) :
    lawRanked cks order = cks.all fun c => isNone (resD (paperE c order)) := by
  rw [Bool.eq_iff_iff]
  unfold lawRanked
  rw [List.all_map, List.all_eq_true, List.all_eq_true]
  have h2 : ∀ c ∈ cks, (isNone (resD (paperE c order)) = true ↔ ∀ k, k < order.length → Lets c (order.drop k) (order.getD k [])) := fun c hc => by
    rw [paper_none, paperE_iff, ranked_iff (C c hc) hn hd hall]
  constructor
  · intro h c hc
    refine (h2 c hc).mpr fun k hk => ?_
    exact (letE_iff _ _ _).mp (h k (List.mem_range.mpr hk)) c hc
  · intro h k hk
    exact (letE_iff _ _ _).mpr fun c hc => (h2 c hc).mp (h c hc) k (List.mem_range.mp hk)
end DW

set_option maxRecDepth 100000
set_option maxHeartbeats 1000000
namespace DW
open PySem PySem.Spec PyProof.Rows L2
/-! ### valid orders -/
theorem kind_small {cols kind : List Int} (h : okCols cols) (hk : kind ∈ lawKinds cols) : ∃ a b c : Int, kind = [a, b, c] ∧ (0 ≤ a ∧ a < 5) ∧ (0 ≤ b ∧ b < 5) ∧ (0 ≤ c ∧ c < 5) := by
  obtain ⟨c, o, n, rfl, h1, h2, h3, _⟩ := mem_lawKinds hk
  have hm := h.2.2 _ (getD_mem h1)
  have := h.2.1
  exact ⟨_, _, _, rfl, by omega, by omega, by omega⟩
theorem rowNum_5 {a b c : Int} (ha : 0 ≤ a ∧ a < 5) (hb : 0 ≤ b ∧ b < 5) (hc : 0 ≤ c ∧ c < 5) : rowNum [.int a, .int b, .int c] [5, 5, 5] = true := by
  unfold rowNum
  simp [isBelow, ha, hb, hc]
theorem tup_kind {cols kind : List Int} (h : okCols cols) (hk : kind ∈ lawKinds cols) : tupOf (kind.map .int) = tI kind := by
  obtain ⟨a, b, c, rfl, ha, hb, hc⟩ := kind_small h hk
  unfold tupOf
  rw [show ([a, b, c] : List Int).map PyData.int = [.int a, .int b, .int c] from rfl, rowNum_5 ha hb hc, if_pos rfl]
  rfl
structure Enc (enc : List Int → PyData) : Prop where
  sq : ∀ k, isSeq (enc k) = true
  it : ∀ k, seqItems (enc k) = k.map .int
theorem enc_tI : Enc tI := ⟨fun _ => rfl, fun _ => rfl⟩
theorem enc_lI : Enc lI := ⟨fun _ => rfl, fun _ => rfl⟩
theorem told_rows' {cols : List Int} (h : okCols cols) {enc : List Int → PyData} (E : Enc enc) {l : List (List Int)} (hl : ∀ k ∈ l, k ∈ lawKinds cols) : (l.map enc).map (fun d => tupOf (seqItems d)) = l.map tI := by
  rw [List.map_map]
  refine List.map_congr_left fun k hk => ?_
  show tupOf (seqItems (enc k)) = tI k
  rw [E.it, tup_kind h (hl k hk)]
theorem un_rows (l : List (List Int)) : (l.map tI).map unI = l := by
  rw [List.map_map]
  conv => rhs; rw [← List.map_id l]
  exact List.map_congr_left fun r _ => unI_tI r
theorem any_rows (l : List (List Int)) : (l.map tI).any isNone = false := by
  induction l with
  | nil => rfl
  | cons a l ih => rw [List.map_cons, List.any_cons, ih]; rfl
theorem order_good {cols : List Int} (h : okCols cols) {order : List (List Int)} (hp : order.Perm (lawKinds cols)) {enc : List Int → PyData} (E : Enc enc) {x : PyData} (hx : isSeq x = true) (hi : seqItems x = order.map enc) : okOrder cols order x := by
  have hl : ∀ k ∈ order, k ∈ lawKinds cols := fun k hk => hp.mem_iff.mp hk
  unfold okOrder orderOf
  have told : toldOf x = order.map tI := by
    unfold toldOf
    rw [hi]
    exact told_rows' h E hl
  have srt : sortL order = kindsI cols := by
    rw [kindsI_eq]
    exact (sort_eq hp.symm (lawKinds_sorted cols)).symm
  rw [told, un_rows, any_rows, hi, if_pos ⟨hx, by rw [List.length_map, kindsI_eq]; exact hp.length_eq, by rw [List.all_map, List.all_eq_true]; exact fun k _ => E.sq k⟩, if_neg Bool.false_ne_true, if_pos srt]
  rfl
/-! ### what is no order -/
theorem no_seq {kinds : List (List Int)} {x : PyData} (h : isSeq x = false) : orderOf kinds x = .none := by
  unfold orderOf
  rw [if_neg (by rw [h]; simp)]
theorem no_len {kinds : List (List Int)} {x : PyData} (h : (seqItems x).length ≠ kinds.length) : orderOf kinds x = .none := by
  unfold orderOf
  rw [if_neg (fun q => h q.2.1)]
theorem no_item {kinds : List (List Int)} {x d : PyData} (hd : d ∈ seqItems x) (h : isSeq d = false) : orderOf kinds x = .none := by
  unfold orderOf
  rw [if_neg (fun q => by
    have := List.all_eq_true.mp q.2.2 d hd
    rw [h] at this
    cases this)]
theorem no_tup {kinds : List (List Int)} {x d : PyData} (hd : d ∈ seqItems x) (h : isNone (tupOf (seqItems d)) = true) : orderOf kinds x = .none := by
  unfold orderOf
  split
  · rw [if_pos]
    unfold toldOf
    exact List.any_eq_true.mpr ⟨_, List.mem_map.mpr ⟨d, hd, rfl⟩, h⟩
  · rfl
theorem no_sort {kinds : List (List Int)} {x : PyData} (h : sortL ((toldOf x).map unI) ≠ kinds) : orderOf kinds x = .none := by
  unfold orderOf
  split
  · split
    · rfl
    · first | rfl | rw [if_neg h]
  · rfl
theorem sort_mem {l : List (List Int)} {r : List Int} : r ∈ sortL l ↔ r ∈ l := (List.mergeSort_perm _ _).mem_iff
theorem odd_none {cols : List Int} (h : okCols cols) : ∀ v ∈ oddL (lawKinds cols), orderOf (kindsI cols) v = .none := by
  intro v hv
  rw [kindsI_eq]
  have ks : ∀ (ds : List PyData), seqItems (.list ds) = ds := fun _ => rfl
  have lastM : ∀ (d : PyData), d ∈ seqItems (.list (((lawKinds cols).map lI).drop 1 ++ [d])) := fun d => by rw [ks]; simp
  have nd := lawKinds_nodup cols
  have sub : ∀ k ∈ (lawKinds cols).drop 1, k ∈ lawKinds cols := fun k hk => List.mem_of_mem_drop hk
  have common : ∀ v ∈ oddS (lawKinds cols), orderOf (lawKinds cols) v = .none := by
    intro v hv
    unfold oddS at hv
    simp only [List.mem_cons, List.not_mem_nil, or_false] at hv
    rcases hv with rfl | rfl | rfl | rfl | rfl | rfl | rfl
    · exact no_seq rfl
    · exact no_seq rfl
    · exact no_seq rfl
    · exact no_len (by rw [ks]; simp)
    · split
      · rename_i z
        have hp : 0 < (lawKinds cols).length := List.length_pos_iff.mpr z
        exact no_item (d := .none) (by rw [ks]; exact List.mem_replicate.mpr ⟨by omega, rfl⟩) rfl
      · rename_i z
        have z : lawKinds cols = [] := by simpa using z
        exact no_len (by rw [ks, z]; simp)
    · have e : toldOf (.list (((lawKinds cols).map lI).drop 1 ++ [tI [0, 0, 0]])) = (((lawKinds cols).drop 1) ++ [[0, 0, 0]]).map tI := by
        unfold toldOf
        rw [ks, List.map_append, List.map_append, ← List.map_drop, told_rows' h enc_lI sub]
        rfl
      refine no_sort ?_
      rw [e, un_rows]
      intro q
      have : ([0, 0, 0] : List Int) ∈ lawKinds cols := by
        rw [← q, sort_mem]
        simp
      exact lawKinds_dif this rfl
    · exact no_len (by rw [ks]; simp)
  unfold oddL at hv
  split at hv
  · rename_i z
    have hp : 0 < (lawKinds cols).length := List.length_pos_iff.mpr z
    rcases List.mem_append.mp hv with hv | hv
    · exact common v hv
    · unfold oddT at hv
      simp only [List.mem_cons, List.not_mem_nil, or_false] at hv
      rcases hv with rfl | rfl | rfl | rfl | rfl | rfl
      · exact no_len (by rw [ks, List.length_drop, List.length_map]; omega)
      · split
        · rename_i z2
          have hl : (lawKinds cols).getLastD [] ∈ (lawKinds cols).drop 1 := by
            rw [List.getLastD_eq_getLast?, List.getLast?_eq_getElem?, List.getElem?_eq_getElem (by omega), Option.getD_some]
            refine List.mem_iff_getElem?.mpr ⟨(lawKinds cols).length - 2, ?_⟩
            rw [List.getElem?_drop]
            rw [show 1 + ((lawKinds cols).length - 2) = (lawKinds cols).length - 1 by omega]
            exact List.getElem?_eq_getElem (by omega)
          have e : toldOf (.list (((lawKinds cols).map lI).drop 1 ++ [lI ((lawKinds cols).getLastD [])])) = (((lawKinds cols).drop 1) ++ [(lawKinds cols).getLastD []]).map tI := by
            unfold toldOf
            rw [ks, List.map_append, List.map_append, ← List.map_drop, told_rows' h enc_lI sub]
            have := told_rows' h enc_lI (l := [(lawKinds cols).getLastD []]) (fun k hk => by rw [List.mem_singleton.mp hk]; exact sub _ hl)
            exact congrArg _ this
          refine no_sort ?_
          rw [e, un_rows]
          intro q
          have n2 : ((lawKinds cols).drop 1 ++ [(lawKinds cols).getLastD []]).Nodup := (List.mergeSort_perm _ leL).nodup_iff.mp (by
            show (sortL _).Nodup
            rw [q]
            exact nd)
          exact (List.nodup_append.mp n2).2.2 _ hl _ (by simp) rfl
        · exact no_len (by rw [ks]; simp; omega)
      · exact no_tup (lastM _) (by unfold seqItems tupOf rowNum; simp [isBelow, isNone])
      · exact no_item (lastM _) rfl
      · refine no_tup (lastM _) ?_
        have : rowNum (seqItems (lI (((lawKinds cols).headD []).take 2))) [5, 5, 5] = false := by
          unfold rowNum lI seqItems
          simp
          intro q
          exfalso
          omega
        unfold tupOf
        rw [this]
        rfl
      · exact no_tup (lastM _) (by unfold lI seqItems tupOf rowNum; simp [isBelow, isNone])
  · exact common v hv
end DW

set_option maxRecDepth 100000
set_option maxHeartbeats 1000000
namespace DW
open PySem PySem.Spec PyProof.Rows L2
/-! ### the drawn book is a book -/
theorem sortL_sorted (l : List (List Int)) : (sortL l).Pairwise (· ≤ ·) := by
  have := List.pairwise_mergeSort (le := leL) (fun a b c h1 h2 => by
    unfold leL at *
    exact decide_eq_true (List.le_trans (of_decide_eq_true h1) (of_decide_eq_true h2))) (fun a b => by
    unfold leL
    rcases List.le_total a b with z | z <;> simp [z]) l
  exact this.imp fun h => by simpa [leL] using h
theorem rowsC_sub {cols ps : List Int} {order : List (List Int)} (B : InBox ps order (allRows cols ps)) (style share : Int) (x : Bx) : Sub (allRows cols ps) (rowsC ps order style share (allRows cols ps) x).1 := by
  have sub0 : ∀ (q : Bx → Bool) (d : Bx), Sub (allRows cols ps) (filtS (fun c (_ : List Int) => (q c, takeB c share)) (allRows cols ps) d).1 := fun q d => ⟨(filtS_sub _ _ _).nodup (nodup_allRows _ _), fun r hr => (filtS_sub _ _ _).subset hr⟩
  unfold rowsC
  split
  · exact lawHull_sub B (sub0 (fun d => decide (takeR d share = 0)) _)
  · exact sub0 (fun d => decide (0 < takeR d share)) _
theorem checkB_ok {cols : List Int} {order : List (List Int)} (h : cols3 cols) (hl : order.length ≤ 64) (hn : order.Nodup) (hk : ∀ kind ∈ order, kind.getD 1 0 ≠ kind.getD 2 0) (style : Int) (x : Bx) : CkOk cols (checkB cols order style x).1 := by
  obtain ⟨p1, p2⟩ := placesB_ok h x
  have B := inBox (ps := (placesB cols x).1) h p1.1 p1.2 hl hn hk
  have S := (rowsC_sub B style (pickI [2, 3, 4] (placesB cols x).2).1 (pickI [2, 3, 4] (placesB cols x).2).2).sort
  exact ⟨p1, p2, S.2, S.1, sortL_sorted _⟩
theorem bookL_ok {cols : List Int} {order : List (List Int)} (h : cols3 cols) (hl : order.length ≤ 64) (hn : order.Nodup) (hk : ∀ kind ∈ order, kind.getD 1 0 ≠ kind.getD 2 0) (style : Int) (x : Bx) :
    (∀ c ∈ (bookL cols order style x).1, CkOk cols c) ∧ (bookL cols order style x).1.length ≤ 3 := by
  have : ∀ (l : List Nat) (st : List Ck × Bx), (∀ c ∈ st.1, CkOk cols c) → (∀ c ∈ (l.foldl (bookT cols order style) st).1, CkOk cols c) ∧ (l.foldl (bookT cols order style) st).1.length = st.1.length + l.length := by
    intro l
    induction l with
    | nil => intro st q; exact ⟨q, rfl⟩
    | cons k l ih =>
      intro st q
      rw [List.foldl_cons]
      obtain ⟨a, b⟩ := ih (bookT cols order style st k) (fun c hc => by
        rcases List.mem_append.mp hc with z | z
        · exact q c z
        · rw [List.mem_singleton.mp z]
          exact checkB_ok h hl hn hk style st.2)
      refine ⟨a, b.trans ?_⟩
      unfold bookT
      simp only [List.length_append, List.length_cons, List.length_nil]
      omega
  obtain ⟨a, b⟩ := this (List.range (pickI [1, 1, 2, 2, 3, 0] x).1.toNat) ([], (pickI [1, 1, 2, 2, 3, 0] x).2) (fun c hc => by cases hc)
  refine ⟨a, ?_⟩
  have pm := pickI_mem (l := [1, 1, 2, 2, 3, 0]) x (by decide)
  simp only [List.mem_cons, List.not_mem_nil, or_false] at pm
  unfold bookL
  rw [b, List.length_range]
  simp only [List.length_nil]
  omega
theorem bookTurn_perm (x : Bx) : (bookTurn x).1.Perm (lawKinds (bookCols x)) := turned_perm _ _
theorem bookCks_ok (x : Bx) : (∀ c ∈ (bookCks x).1, CkOk (bookCols x) c) ∧ (bookCks x).1.length ≤ 3 := by
  have tp := bookTurn_perm x
  refine bookL_ok (bookCols_ok x) ?_ (tp.nodup_iff.mpr (lawKinds_nodup _)) (fun kind hk => lawKinds_dif (tp.mem_iff.mp hk)) _ _
  rw [tp.length_eq]
  exact lawKinds_len (bookCols_ok x)
theorem CkOk.len {cols : List Int} (h : cols3 cols) {c : Ck} (C : CkOk cols c) : c.2.length ≤ 27 :=
  Nat.le_trans (List.Nodup.length_le_of_subset C.nd fun r hr => C.rows r hr) (len_allRows h C.n.2)
theorem CkOk.rowsOk {cols : List Int} (h : cols3 cols) {c : Ck} (C : CkOk cols c) : rowsOk c := ⟨fun r hr => (mem_allRows.mp (C.rows r hr)).1, C.n.2, by have := C.len h; omega⟩
theorem CkOk.okCk {cols : List Int} (h : cols3 cols) {c : Ck} (C : CkOk cols c) : okCk cols c := by
  refine ⟨C.n, C.pl, by have := C.len h; omega, fun r hr => ?_, C.srt, C.nd⟩
  obtain ⟨a, b⟩ := mem_allRows.mp (C.rows r hr)
  refine ⟨by rw [List.length_map]; exact a, fun q hq => ?_⟩
  obtain ⟨k, hk, e⟩ := List.mem_iff_getElem.mp hq
  have hk1 : k < c.1.length := by rw [List.length_zip, List.length_map] at hk; omega
  have := b k hk1
  have hk2 : k < r.length := by omega
  rw [← e]
  simp only [List.getElem_zip, List.getElem_map]
  simp only [List.getD_eq_getElem?_getD, List.getElem?_eq_getElem hk1, List.getElem?_eq_getElem hk2, Option.getD_some] at this
  rw [List.getD_eq_getElem?_getD]
  exact this
/-! ### what is no check -/
def badL (n : Nat) : List PyData := [.int (n : Nat), .int (-1), .none, .bool true, .str "0"]
theorem bad_no {n : Nat} : ∀ v ∈ badL n, isBelow v (n : Nat) = false := by
  intro v hv
  unfold badL at hv
  simp only [List.mem_cons, List.not_mem_nil, or_false] at hv
  rcases hv with rfl | rfl | rfl | rfl | rfl <;> simp [isBelow]
end DW

set_option maxRecDepth 100000
set_option maxHeartbeats 1000000
namespace DW
open PySem PySem.Spec PyProof.Rows L2
/-! ### Book(columns, checks) -/
mutual
theorem Rp.seq {H H' : Hp} (e1 : ∀ a xs, H a = some (.lst xs) → H' a = some (.lst xs)) (e2 : ∀ a xs, H a = some (.tup xs) → H' a = some (.tup xs)) : ∀ {v : V} {d : PyData}, Rp H v d → Rp H' v d
  | _, _, .non => .non
  | _, _, .bl b => .bl b
  | _, _, .int i => .int i
  | _, _, .str x => .str x
  | _, _, .lst h r => .lst (e1 _ _ h) (r.seq e1 e2)
  | _, _, .tup h r => .tup (e2 _ _ h) (r.seq e1 e2)
theorem RpA.seq {H H' : Hp} (e1 : ∀ a xs, H a = some (.lst xs) → H' a = some (.lst xs)) (e2 : ∀ a xs, H a = some (.tup xs) → H' a = some (.tup xs)) : ∀ {vs : List V} {ds : List PyData}, RpA H vs ds → RpA H' vs ds
  | _, _, .nil => .nil
  | _, _, .cons r t => .cons (r.seq e1 e2) (t.seq e1 e2)
end
/-- another instance at p -/
theorem Rp.chg {H : Hp} {p : Addr} {C dx : Addr} {fs fs' : List (Str × V)} (h : H p = some (.ins C dx fs)) {v : V} {d : PyData} (r : Rp H v d) : Rp (upd H p (.ins C dx fs')) v d :=
  r.seq (fun a xs e => by rw [upd_ne (fun z => by rw [z, h] at e; cases e)]; exact e) (fun a xs e => by rw [upd_ne (fun z => by rw [z, h] at e; cases e)]; exact e)
def spI (C : Addr) : Sp := fun vs H Q _ => ∃ (p dx : Addr) (v1 v2 : V) (Hk : Hp) (cols : List Int) (cks : List Ck), vs = [.ref p, v1, v2] ∧ H p = some (.ins C dx []) ∧ Hk p = none ∧ Ex Hk H ∧ Rp Hk v1 (tI cols) ∧ Rp Hk v2 (.tuple (cks.map ckD)) ∧ okCols cols ∧ (∀ c ∈ cks, okCk cols c) ∧ cks.length ≤ 6 ∧
  ∀ vs' Hk' H', Gr (fun a => a = p) Hk H Hk' H' → Ex Hk' H' → Hk' p = some (.ins C dx vs') → FsOk Hk' vs' (bookF cols cks) → Q .non H'
theorem raw_seq {t u : TS} {D : Ends} {σ : L2.St} {H : Hp} (h : t { D with nx := u D } σ H) : tSeq t u D σ H := h
theorem ed_fldP {K : PySem.W.Frag} {ρ : En} {p C : Addr} {fs : List (Str × PyData)} {f : Str} {i : Nat} {d : PyData} (h : ρ[i]? = some (some (.objP p C fs))) (hc : Cls K C) (hn : NoAttr K C f) (hl : fs.lookup f = some d) : EvD (tFld K (tVar i) f) ρ d ρ := fun Hk σ H a Q q => by
  obtain ⟨v, h1, dx, vs, rfl, h2, h3⟩ := a.en i _ h
  obtain ⟨w, w1, w2⟩ := h3.look hl
  exact ⟨_, h1, p, C, dx, vs, w, rfl, a.kh _ _ h2, hc, hn, w1, q w Hk H (Go.refl a) w2⟩
theorem raw_fld {K : PySem.W.Frag} {D : Ends} {ρ : En} {Hk : Hp} {σ : L2.St} {H : Hp} {tv : TE} {d : PyData} {f : Str} {p C dx : Addr} {fs : List (Str × V)} (h : EvD tv ρ d ρ) (a : At ρ Hk σ H) (h0 : σ[0]? = some (some (.ref p))) (cls : Cls K C) (no : NoAttr K C f) (hl : fs.length < 1000)
    (hp : ∀ Hk1 H1, Go ρ Hk σ H ρ Hk1 H1 → H1 p = some (.ins C dx fs)) (q : ∀ v Hk1 H1, Go ρ Hk σ H ρ Hk1 H1 → Rp Hk1 v d → D.nx σ (upd H1 p (.ins C dx (putF f v fs)))) : sFld K (tVar 0) tv f D σ H :=
  h Hk σ H a _ fun v Hk1 H1 g r => ⟨.ref p, h0, p, C, dx, fs, rfl, hp Hk1 H1 g, cls, no, hl, q v Hk1 H1 g r⟩
abbrev st_Book_init : Stmt := inClass (topS 21) 0
abbrev N_Book_init : List Str := ["self", "columns", "checks", "at", "check"]
theorem sc_Book_init : FnScope N_Book_init ["self", "columns", "checks"] (defScope st_Book_init) := ⟨rfl, rfl, rfl, by decide +kernel, rfl, by decide +kernel, by decide +kernel⟩
structure BkD (K : PySem.W.Frag) (mg : Str → Option Value) (C : Addr) : Prop where
  ex : ∃ (f : Addr) (fd : FuncData) (dvs : List V), FunD K "__init__" "Book.__init__" (defArgs st_Book_init) (defBody st_Book_init) (defScope st_Book_init) dvs [] f fd ∧ Mk K C f ∧ mg "Book" = some (.ref C) ∧ Binds K fd ["self", "columns", "checks"] []
structure ClI (P : Program) (w : World) (K : PySem.W.Frag) (mg : Str → Option Value) (base : Heap) (k : Nat) (C : Addr) : Prop where
  ex : ∃ (f : Addr) (fd : FuncData), FnOk P w K mg base L2.CX0 k f fd ["self", "columns", "checks"] (spI C) ∧ Mk K C f ∧ mg "Book" = some (.ref C) ∧ Binds K fd ["self", "columns", "checks"] []
theorem cl_Book {P : Program} {w : World} {K : PySem.W.Frag} {mg : Str → Option Value} {base : Heap} {C : Addr} (T : Nm mg) (D : BkD K mg C) (B : BkC K C) (c_check_columns : Cl P w K mg base 3 "check_columns" (spP R_check_columns)) (c_is_sequence : Cl P w K mg base 1 "is_sequence" (spP R_is_sequence)) (c_is_check : Cl P w K mg base 5 "is_check" (spP R_is_check)) (c_told_check : Cl P w K mg base 1 "told_check" (spP R_told_check)) : ClI P w K mg base 6 C := by
  obtain ⟨f, fd, dvs, F, M, hm, hb⟩ := D.ex
  refine ⟨f, fd, F.ok sc_Book_init (fun vs H Q E h => ?_) fun cdv A outer s H vs Q E hr h => ?_, M, hm, hb⟩
  · obtain ⟨p, dx, v1, v2, _, _, _, rfl, _⟩ := h
    rfl
  obtain ⟨p, dx, v1, v2, Hk, cols, cks, rfl, hp, hkp, ex, r1, r2, hc, hck, hl, q⟩ := h
  have drv : ∃ t, PSs (cxOf L2.CX0 P w K mg base N_Book_init "Book.__init__" (defScope st_Book_init) f cdv A outer s H E).nox (defBody st_Book_init) t ∧ t { nx := fun _ H' => Q .non H', rt := Q } (L2.start N_Book_init [.ref p, v1, v2]) H := by
    refine ⟨_, (pss_cons (ps_fld (pv 0) (pe_cl c_check_columns hr (by decide) (by rfl) (pa_cons (pv 1) pa_nil)) rfl)
    (pss_cons (ps_if (PW.pt (pw_or (pt_not (pt_val (pe_cl c_is_sequence hr (by decide) (by rfl) (pa_cons (pv 2) pa_nil)))) (pw_or1 (pt_cmpR op_gt2 (pe_callB cr_len (by rfl) T.len bt_len (pa_cons (pv 2) pa_nil)) (pe_gI (by rfl) T.MOST_CHECKS) (nomark _)))))
      (pss_one ps_never)
      pss_nil)
    (pss_cons (ps_for PassesOwn.never rfl (KX.pi_enumA (by rfl) T.enumerate (pa_cons (pv 2) pa_nil)) (pg_tup rfl (pgs_cons (pg_name (i := 3) sc_Book_init.nd rfl (by first | exact Or.inl rfl | exact Or.inr rfl)) (pgs_cons (pg_name (i := 4) sc_Book_init.nd rfl (by first | exact Or.inl rfl | exact Or.inr rfl)) pgs_nil)))
      (pss_one (ps_if (pt_not (pt_val (pe_cl c_is_check hr (by decide) (by rfl) (pa_cons (pe_fld (pv 0) rfl) (pa_cons (pv 4) pa_nil)))))
        (pss_one ps_never)
        pss_nil)))
    (pss_one (ps_fld (pv 0) (pe_callTy cr_tuple (by rfl) T.tuple bt_tuple (pa_cons (pe_lc (own := [("check", 4)]) (g := (gName 4)) (tt := _) rfl sc_Book_init.nd (pi_tup (pv 2)) (blkOk_by (N := N_Book_init) (sc := defScope st_Book_init) (by decide +kernel)) (fun _ _ _ _ _ => (pg_name (i := 4) sc_Book_init.nd rfl (by first | exact Or.inl rfl | exact Or.inr rfl))) (fun _ _ _ _ _ => pts_nil) (fun _ _ _ _ _ => (pe_cl c_told_check hr (by decide) (by rfl) (pa_cons (pv 4) pa_nil)))) pa_nil)) rfl))))), ?_⟩
    have no0 : ∀ (ρ : En) (σ : L2.St), (∀ (i : Nat) (q : Bool) (ds : List PyData), ρ[i]? = some (some (Sl.ow q ds)) → False) → ∀ b, ¬ Owns σ ρ b := fun ρ σ h b ⟨i, q, ds, e, _⟩ => h i q ds e
    let σ : L2.St := L2.start N_Book_init [.ref p, v1, v2]
    let ρ0 : En := [some (.raw (.ref p)), some (.kn (tI cols)), some (.kn (.tuple (cks.map ckD))), none, none]
    have now0 : ∀ (i : Nat) (q : Bool) (ds : List PyData), ρ0[i]? = some (some (Sl.ow q ds)) → False := fun i q ds e => by
      match i, e with
      | 0, e => cases e
      | 1, e => cases e
      | 2, e => cases e
      | 3, e => cases e
      | 4, e => cases e
      | i + 5, e => simp [ρ0] at e
    have a0 : At ρ0 Hk σ H := At.start (ss := [.raw (.ref p), .kn (tI cols), .kn (.tuple (cks.map ckD))]) (vs := [.ref p, v1, v2]) (n := 2) ((((At.nil ex).cons (s := .kn (.tuple (cks.map ckD))) r2 (by simp [notOw])).cons (s := .kn (tI cols)) r1 (by simp [notOw])).cons (s := .raw (.ref p)) rfl (by simp [notOw]))
    refine raw_fld (d := tI cols) (ρ := ρ0) (p := p) (C := C) (dx := dx) (fs := []) (ed_call (ss := [.kn (tI cols)]) (ea_cons (ed_var rfl) ea_nil) (.d .nil) (by simp [notOw]) (.mk cols hc)) a0 rfl B.cls B.columns (by decide) (fun Hk1 H1 g => g.gr.keep p _ hp (no0 _ _ now0 p)) fun v Hk1 H1 g1 rv => ?_
    have hk1 : Hk1 p = none := g1.gr.old p _ hp True.intro (no0 _ _ now0 p) hkp
    have hp1 : H1 p = some (.ins C dx []) := g1.gr.keep p _ hp (no0 _ _ now0 p)
    let o1 : HO := .ins C dx [("columns", v)]
    have x12 : Ex Hk1 (upd Hk1 p o1) := Ex.new hk1
    have e2 : Ex (upd Hk1 p o1) (upd H1 p o1) := g1.at'.kh.both
    let ρ1 : En := [some (.objP p C [("columns", tI cols)]), some (.kn (tI cols)), some (.kn (.tuple (cks.map ckD))), none, none]
    have now1 : ∀ (i : Nat) (q : Bool) (ds : List PyData), ρ1[i]? = some (some (Sl.ow q ds)) → False := fun i q ds e => by
      match i, e with
      | 0, e => cases e
      | 1, e => cases e
      | 2, e => cases e
      | 3, e => cases e
      | 4, e => cases e
      | i + 5, e => simp [ρ1] at e
    have x02 : Ex Hk (upd Hk1 p o1) := g1.gr.kk.trans x12
    have a1 : At ρ1 (upd Hk1 p o1) σ (upd H1 p o1) := At.start (ss := [.objP p C [("columns", tI cols)], .kn (tI cols), .kn (.tuple (cks.map ckD))]) (vs := [.ref p, v1, v2]) (n := 2) ((((At.nil e2).cons (s := .kn (.tuple (cks.map ckD))) (r2.ex x02) (by simp [notOw])).cons (s := .kn (tI cols)) (r1.ex x02) (by simp [notOw])).cons (v := .ref p) (s := .objP p C [("columns", tI cols)]) ⟨dx, [("columns", v)], rfl, upd_same, .cons (rv.ex x12) .nil⟩ (by simp [notOw]))
    refine raw_seq ?_
    refine sd_F (ρ1 := ρ1) (EvB.to (eb_or (eb_not (eb_test (ed_call (ea_cons (ed_var rfl) ea_nil) (.d .nil) (by simp [notOw]) (.mk _)))) fun _ => eb_test (ed_gt (ed_lenT (ds := cks.map ckD) (ed_var rfl)) ed_c_int)) ?_) sd_nx _ σ _ _ a1 fun Hk3 σ3 H3 g3 => ?_
    · simp [isSeq]
      omega
    dsimp only [Oc.got]
    refine raw_seq ?_
    refine for_acc (γ := Unit) (enc := fun q : Ck × Nat => .tuple [.int (q.2 : Nat), ckD q.1]) (bs := cks.zipIdx) (c := ()) (inv := fun _ => ρ1) (step := fun _ _ => ()) (I := fun _ _ => True) (ρ := ρ1)
      (EvI.to (ei_enum (K := K) (ea_cons (ed_var (i := 2) rfl) ea_nil) (.t _)) (by simp [pairD, enumP, List.zipIdx_map, List.map_map, Function.comp_def])) True.intro (fun _ q rest hq _ => ⟨True.intro, _, _, _, tg_two (np_of rfl) (np_of rfl),
        sd_F (EvB.to (eb_not (eb_test (ed_call (ss := [.kn (tI cols), .kn (ckD q.1)]) (ea_cons (ed_fldP (i := 0) rfl B.cls B.columns rfl) (ea_cons (ed_var rfl) ea_nil)) (.d (.d .nil)) (by simp [notOw]) (.mk cols q.1 (hck q.1 ?_))))) rfl) sd_nx, ?_⟩) _ σ3 _ _ g3.at' fun Hk4 σ4 H4 g4 => ?_
    · exact .same (.same (.same (.drop (fun _ z => by cases z) (.drop (fun _ z => by cases z) .nil))))
    rotate_left
    · have := List.mem_zipIdx_iff_getElem?.mp hq
      exact List.mem_of_getElem? this
    have g14 := g3.trans g4
    obtain ⟨_, s0, dx4, vs4, rfl, k4, _⟩ := g4.at'.en 0 _ rfl
    have kp4 : Hk4 p = some o1 := g14.gr.kk _ _ upd_same
    dsimp only [Oc.got]
    refine raw_fld (d := .tuple (cks.map ckD)) (ρ := ρ1) (p := p) (C := C) (dx := dx) (fs := [("columns", v)]) (ed_tupL (EvD.to (en_mapT (enc := ckD) (bs := cks) (f := ckD) (ei_tup (ed_var rfl)) (fun c hc => ed_call (ss := [.kn (ckD c)]) (ea_cons (ed_var rfl) ea_nil) (.d .nil) (by simp [notOw]) (.mk cols c (hck c hc))) (NoOw.of rfl) (zs (by omega))).kn rfl)) g4.at' s0 B.cls B.checks (by simp) (fun Hk5 H5 g => g.at'.kh _ _ (g.gr.kk _ _ kp4)) fun u Hk5 H5 g5 ru => ?_
    have kp5 : Hk5 p = some o1 := g5.gr.kk _ _ kp4
    have gg := g14.trans g5.s
    let o2 : HO := .ins C dx [("columns", v), ("checks", u)]
    have own1 : ∀ b, ¬ Owns σ ρ1 b := no0 ρ1 σ now1
    refine q [("columns", v), ("checks", u)] (upd Hk5 p o2) _ ⟨fun a o h => ?_, fun a o h n => ?_, fun a h => ?_, fun a o h mu n hk => ?_⟩ ?_ upd_same (.cons ?_ (.cons ?_ .nil))
    · have ne : a ≠ p := fun z => by rw [z, hkp] at h; cases h
      rw [upd_ne ne]
      exact gg.gr.kk _ _ (x02 _ _ h)
    · have h1 : upd H1 p o1 a = some o := by rw [upd_ne n]; exact g1.gr.keep a o h (no0 _ _ now0 a)
      show upd H5 p _ a = some o
      rw [upd_ne n]
      exact gg.gr.keep a o h1 (own1 a)
    · show upd H5 p _ a ≠ none
      by_cases z : a = p
      · rw [z, upd_same]
        simp
      · rw [upd_ne z]
        refine gg.gr.live a ?_
        rw [upd_ne z]
        exact g1.gr.live a h
    · rw [upd_ne n]
      have h1 : upd H1 p o1 a = some o := by rw [upd_ne n]; exact g1.gr.keep a o h (no0 _ _ now0 a)
      refine gg.gr.old a o h1 mu (own1 a) ?_
      rw [upd_ne n]
      exact g1.gr.old a o h mu (no0 _ _ now0 a) hk
    · exact g5.at'.kh.both
    · exact Rp.chg (fs' := [("columns", v), ("checks", u)]) kp5 ((rv.ex x12).ex gg.gr.kk)
    · exact Rp.chg (fs' := [("columns", v), ("checks", u)]) kp5 ru
  obtain ⟨t, h1, h2⟩ := drv
  exact ⟨t, h1.nox, h2⟩
end DW

set_option maxRecDepth 100000
set_option maxHeartbeats 200000
namespace DW
open PySem PySem.Spec PyProof.Rows L2
/-! ### f(c=.., b=.., a=..) of def f(a, b, c) -/
def tCallR (sp : Sp) (E : XK) (tk : TA) : TE := fun σ H Q => tk σ H fun zs H2 => ∃ a b c : V, zs = [a, b, c] ∧ sp [c, b, a] H2 Q E
structure Kw (K : PySem.W.Frag) (mg : Str → Option Value) (x : Str) (ks ps : List Str) : Prop where
  ex : ∃ (f : Addr) (fd : FuncData), mg x = some (.ref f) ∧ (∃ oc od osl, K.lookup f = some ⟨oc, od, .func fd, osl⟩) ∧ (fd.params.posonlyargs ++ fd.params.args).map (·.arg) = ps ∧ ∀ (s : Shared) (a b c : Value), BindsTo s fd ⟨[], ks.zip [a, b, c]⟩ (ps.zip [c, b, a])
theorem kw_of {K : PySem.W.Frag} {mg : Str → Option Value} {x : Str} {st : Stmt} {ks ps : List Str} (D : Dn K mg x st ps)
    (h : ∀ (kV doc pm : Value) (an : Option Addr) (cdv ct : Value) (a b c : Value), bindArgs (PySem.W.fnOf x x (defArgs st) (defBody st) (defScope st) .none kV doc pm an cdv ct) ⟨[], ks.zip [a, b, c]⟩ = pure (ps.zip [c, b, a])) : Kw K mg x ks ps := by
  obtain ⟨f, fd, F, hm, _⟩ := D.ex
  obtain ⟨oc, od, kV, doc, pm, an, cdv, ct, osl, rfl, lk, _⟩ := F.ex
  exact ⟨f, _, hm, ⟨_, _, _, lk⟩, D.ps.symm, fun s a b c => .of_eq (h _ _ _ _ _ _ a b c)⟩
theorem pe_kwR {X : Cx} {k j : Nat} {x : Str} {sp : Sp} {p pos : Pos} {kws : List Keyword} {tk : TA} {ks ps : List Str} (c : Cl X.prog X.w X.K X.mg X.base k x sp) (kb : Kw X.K X.mg x ks ps) (hr : Room j X.A) (hk : k ≤ j) (hg : Gl X x) (hkw : PK X kws tk)
    (hall : (backToKw pos (keywordEach kws X.env)).all (·.1.isSome) = true := by rfl) (hks : (backToKw pos (keywordEach kws X.env)).filterMap (·.1) = ks := by rfl) (hdb : (x == ("__debug__" : Str)) = false := by decide)
    (hpl : ((backTo pos (starEach [] X.env)).any (·.1) || (backToKw pos (keywordEach kws X.env)).any (·.1.isNone)) = false := by rfl) :
    PE X (.Call (.Name x p) [] kws pos) (tCallR sp L2.E0 tk) := by
  obtain ⟨f, fd, ps', F, hm, kp, _, ⟨_, _, _, lk⟩, en⟩ := c.ex
  obtain ⟨f2, fd2, hm2, ⟨_, _, _, lk2⟩, en2, hb⟩ := kb.ex
  rw [hm] at hm2
  cases hm2
  rw [lk] at lk2
  cases lk2
  rw [en2] at en
  subst en
  refine ⟨fun pins s σ H Q I h => ?_⟩
  refine wpAny_Call_Name_kw (ld_glob I hg hm ?_ hdb)
  refine PySem.W.callWith_KW0 (h₀ := X.base) I.ok.mod.kin kp hall ?_ hpl
  refine thn (hkw.run pos pins s σ H _ I h) fun ws s2 ⟨zs, H2, I2, rz, a, b, c, ez, q2⟩ => ⟨I2.kIn, ?_⟩
  rw [hks]
  subst ez
  have rz3 : ∃ u v w : Value, ws = [u, v, w] ∧ RelV a u ∧ RelV b v ∧ RelV c w := by
    cases rz with
    | cons r1 t =>
      cases t with
      | cons r2 t =>
        cases t with
        | cons r3 t =>
          cases t with
          | nil => exact ⟨_, _, _, rfl, r1, r2, r3⟩
  obtain ⟨u, v, w, rfl, r1, r2, r3⟩ := rz3
  refine wpAny_call (codeAny_mono (F.run X.A X.stack s2 H2 ⟨[], ks.zip [u, v, w]⟩ [w, v, u] [c, b, a] Q L2.E0 (hr.mono hk) I2.env0 (hb s2 u v w) (.cons r3 (.cons r2 (.cons r1 .nil))) q2) fun r s' hq => ?_)
  cases r with
  | error e => exact L2.pass0 pins σ H2 s2 e s' I2 hq
  | ok fl =>
    cases fl with
    | ret u => exact I2.after hq
    | next => exact False.elim hq
    | brk => exact False.elim hq
    | cont => exact False.elim hq
end DW

set_option maxRecDepth 100000
set_option maxHeartbeats 400000
namespace DW
open PySem PySem.Spec PyProof.Rows L2
/-! ### repr of data -/
def rReprD (K : PySem.W.Frag) : List V → Hp → VK → Prop := fun xs H Q => ∃ (v : V) (d : PyData), xs = [v] ∧ Dp K H v d ∧ d.showable = true ∧ d.hasDict = false ∧ d.depth ≤ 60 ∧ d.shown.length ≤ sizeLine ∧ (∀ i, d = .int i → i.natAbs.log2 < 1920) ∧ Q (.str d.shown) H
theorem cr_reprD {X : Cx} (hg : X.A.guards = some []) (hu : X.A.units + 64 < cLine) : CallR X (.builtin "repr") (rReprD X.K) := by
  intro pins s σ H xs us Q I r h
  obtain ⟨v, d, rfl, hd, hs, hnd, hdp, hz, hi, q⟩ := h
  have r1 : ∃ u, us = [u] ∧ RelV v u := by
    cases r with
    | cons r t =>
      cases t with
      | nil => exact ⟨_, rfl, r⟩
  obtain ⟨u, rfl, ru⟩ := r1
  obtain ⟨as, rd⟩ := Dp.reads I d v u hd ru
  have fin : ∀ (h' : Heap) (tx : Tok) (tk : Nat), (∀ b o, s.heap.get? b = some o → h'.get? b = some o) → EP X pins σ Q (.str d.shown tx) { s with heap := h', toks := tk } := fun h' tx tk hk =>
    ⟨.str d.shown, H, I.un (t' := tk) (Un.kept hk) (I.hok.kept hk), ⟨_, rfl⟩, q⟩
  cases rd with
  | none => exact P.repr_of_none (fin s.heap _ _ fun _ _ e => e)
  | bool b => exact P.repr_of_bool (fin s.heap _ _ fun _ _ e => e)
  | int i t => exact P.repr_of_int (hi i rfl) (fin s.heap _ _ fun _ _ e => e)
  | str x t => exact P.repr_of_str (fin s.heap _ _ fun _ _ e => e) hz
  | list h1 h2 h3 h4 => exact repr_of_reads' (.list h1 h2 h3 h4) hs (PyData.noDict_hsm hnd) hg (by omega) (fun _ _ e => e) (fun h' tx tk hk => fin h' tx tk hk) hz
  | tuple h1 h2 h3 h4 => exact repr_of_reads' (.tuple h1 h2 h3 h4) hs (PyData.noDict_hsm hnd) hg (by omega) (fun _ _ e => e) (fun h' tx tk hk => fin h' tx tk hk) hz
  | dict _ _ _ _ _ => simp [PyData.hasDict] at hnd
structure Shows (d : PyData) : Prop where
  sh : d.showable = true
  nd : d.hasDict = false
  dp : d.depth ≤ 60
  sz : d.shown.length ≤ sizeLine
  it : ∀ i, d = .int i → i.natAbs.log2 < 1920
theorem ed_repr {K : PySem.W.Frag} {ρ ρ1 : En} {te : TE} {d : PyData} (h : EvD te ρ d ρ1) (S : Shows d) : EvD (tCB (rReprD K) (tCons te tNil)) ρ (.str d.shown) ρ1 := ed_cb h fun Hk H u Q e r q =>
  ⟨u, d, rfl, (r.ex e).dp, S.sh, S.nd, S.dp, S.sz, S.it, q _ Hk H Gr.refl e (.str _)⟩
end DW

set_option maxRecDepth 100000
set_option maxHeartbeats 400000
namespace DW
open PySem PySem.Spec PyProof.Rows L2
/-! ### what may be shown -/
structure Sh (n m : Nat) (d : PyData) : Prop where
  sh : d.showable = true
  nd : d.hasDict = false
  dp : d.depth ≤ n
  lv : d.leavesShort 13 = true
  wt : d.weight ≤ m
structure ShA (n m k : Nat) (ds : List PyData) : Prop where
  sh : PyData.showableAll ds = true
  nd : PyData.hasDictAll ds = false
  dp : PyData.depthAll ds ≤ n
  lv : PyData.leavesShortAll 13 ds = true
  wt : PyData.weightAll ds ≤ k * (m + 1)
theorem ShA.of {n m : Nat} : ∀ {ds : List PyData}, (∀ d ∈ ds, Sh n m d) → ShA n m ds.length ds
  | [], _ => ⟨rfl, rfl, Nat.zero_le _, rfl, Nat.zero_le _⟩
  | d :: ds, h => by
    obtain ⟨a1, a2, a3, a4, a5⟩ := h d (by simp)
    obtain ⟨b1, b2, b3, b4, b5⟩ := ShA.of (ds := ds) fun e he => h e (by simp [he])
    refine ⟨by simp [PyData.showableAll, a1, b1], by simp [PyData.hasDictAll, a2, b2], by simp only [PyData.depthAll]; omega, by simp [PyData.leavesShortAll, a4, b4], ?_⟩
    simp only [PyData.weightAll, List.length_cons]
    rw [Nat.add_mul]
    omega
theorem Sh.list {n m k : Nat} {ds : List PyData} (h : ∀ d ∈ ds, Sh n m d) (hk : ds.length ≤ k) : Sh (n + 1) (k * (m + 1)) (.list ds) := by
  obtain ⟨b1, b2, b3, b4, b5⟩ := ShA.of h
  exact ⟨by simpa only [PyData.showable] using b1, by simpa only [PyData.hasDict] using b2, by simp only [PyData.depth]; omega, by simpa only [PyData.leavesShort] using b4, by simp only [PyData.weight]; exact Nat.le_trans b5 (Nat.mul_le_mul_right _ hk)⟩
theorem Sh.tup {n m k : Nat} {ds : List PyData} (h : ∀ d ∈ ds, Sh n m d) (hk : ds.length ≤ k) : Sh (n + 1) (k * (m + 1)) (.tuple ds) := by
  obtain ⟨b1, b2, b3, b4, b5⟩ := ShA.of h
  exact ⟨by simpa only [PyData.showable] using b1, by simpa only [PyData.hasDict] using b2, by simp only [PyData.depth]; omega, by simpa only [PyData.leavesShort] using b4, by simp only [PyData.weight]; exact Nat.le_trans b5 (Nat.mul_le_mul_right _ hk)⟩
theorem Sh.mono {n n' m m' : Nat} {d : PyData} (h : Sh n m d) (h1 : n ≤ n') (h2 : m ≤ m') : Sh n' m' d := ⟨h.sh, h.nd, Nat.le_trans h.dp h1, h.lv, Nat.le_trans h.wt h2⟩
theorem Sh.none : Sh 0 0 .none := ⟨rfl, rfl, Nat.le_refl _, rfl, Nat.le_refl _⟩
theorem Sh.bool (b : Bool) : Sh 0 0 (.bool b) := ⟨rfl, rfl, Nat.le_refl _, rfl, Nat.le_refl _⟩
theorem Sh.int {i : Int} (h : i.natAbs < 1000) : Sh 0 11 (.int i) := by
  have hl : i.natAbs.log2 < 10 := by
    by_cases z : i.natAbs = 0
    · rw [z]; decide
    · exact (Nat.log2_lt z).mpr (by omega)
  refine ⟨by simp only [PyData.showable, decide_eq_true_eq]; omega, by simp only [PyData.hasDict], by simp only [PyData.depth]; omega, by simp only [PyData.leavesShort, decide_eq_true_eq]; exact PyData.shown_int_le (by omega), ?_⟩
  simp only [PyData.weight]
  split <;> omega
theorem Sh.shows {n m : Nat} {d : PyData} (h : Sh n m d) (hn : n ≤ 60) (hm : m ≤ 2 ^ 20) : Shows d where
  sh := h.sh
  nd := h.nd
  dp := Nat.le_trans h.dp hn
  sz := PyData.shown_fits (by decide) (by decide) h.lv (Nat.le_trans h.wt hm)
  it := fun i e => by
    subst e
    have := h.sh
    simpa only [PyData.showable, decide_eq_true_eq] using this
end DW

set_option maxRecDepth 100000
set_option maxHeartbeats 2000000
namespace PySem
namespace KErr
open PySem.W PySem.Calls PyProof.Rows PySem.HandSPX
theorem kxs_KeyError : KxsFacts "KeyError" "KeyError.__init__" := ⟨by show builtinType _ = _; rw [builtinType_eq_fast]; kernel_rfl, by first | kernel_rfl | rfl⟩
/-! ### the making of an own exception whose __new__ is that of a base B, B anywhere among its bases -/
section
variable {M : Model} {A : Around} {E : Value → Shared → Prop} {h : Heap} {g : Array GenState} {d : Drawn} {t : Nat} {os : OsState}
variable {nm q : Str} {C N : Addr} {bs bm bmB : List Value} {hdct : Bool} {sn : List Str} {sub : List Value} {ab : Bool} {col : Option Bool} {dd : Option Addr} {k0 k1 k2 k3 k5 : Option Value} {B newId initId : String}
structure Over (bm : List Value) (B : String) : Prop where
  b : bm.contains (.type B) = true
  a : bm.contains (.type "AttributeError") = false
  n : bm.contains (.type "NameError") = false
theorem check_new (F : ExcBaseFacts B newId initId bmB) (O : Over bm B) {rest : List Value} {Q : Unit → Shared → Prop}
    (hC : h.get? C = some (excClassObj nm q C N bs bm hdct sn sub ab col dd k0 k1 k2 k3 k5 newId)) (hq : Q () ⟨h, g, d, t, os⟩) : wpAny M A (checkBuiltinCall newId ⟨.ref C :: rest, []⟩) Q E ⟨h, g, d, t, os⟩ := by
  have hcont : (Value.ref C :: bm).contains (.type B) = true := by rw [List.contains_cons, O.b, Bool.or_true]
  have hstar := F.noStar
  simp only [checkBuiltinCall, F.newKind, F.newSplit, F.newRow]
  repeat (first | refine wpAny_loadPart_at hC ?_ | (refine wpAny_isSubtype_exc hC ?_; rw [hcont]) | refine wpAny_staticBase_exc hC ?_ | refine wpAny_madeBy_exc hC ?_ | simp only [bne_self_eq_false, Bool.false_eq_true, if_false] | wp_step)
  exact hq
end
section
variable {prog : Program} {w : World} {A : Around} {E : Value → Shared → Prop} {R : Result → Shared → Prop} {h : Heap} {g : Array GenState} {d : Drawn} {t : Nat} {os : OsState}
variable {nm q : Str} {C N : Addr} {bs bm bmB : List Value} {hdct : Bool} {sn : List Str} {sub : List Value} {ab : Bool} {col : Option Bool} {dd : Option Addr} {k0 k1 k2 k3 k5 : Option Value} {B newId initId : String}
theorem new_over (F : ExcBaseFacts B newId initId bmB) (O : Over bm B) {rest : List Value}
    (hC : h.get? C = some (excClassObj nm q C N bs bm hdct sn sub ab col dd k0 k1 k2 k3 k5 newId))
    (hq : R (.ok (.ret (.ref (h.objs.size + 1)))) ⟨(h.push { cls := .type "tuple", data := .seq rest.toArray }).push
      { cls := .ref C, data := .fields #[.ref h.objs.size, .none, .none, .none, .bool false, .none] }, g, d, t, os⟩) (hrest : rest.length ≤ sizeLine) :
    codeAny (model prog w) A (.builtin newId ⟨.ref C :: rest, []⟩) R ⟨h, g, d, t, os⟩ := by
  have hends := F.ends
  have hcB : (Value.ref C :: bm).contains (.type B) = true := by rw [List.contains_cons, O.b, Bool.or_true]
  have hcA : (Value.ref C :: bm).contains (.type "AttributeError") = false := by rw [List.contains_cons, O.a]; rfl
  have hcN : (Value.ref C :: bm).contains (.type "NameError") = false := by rw [List.contains_cons, O.n]; rfl
  refine codeAny_builtinAt F.entry ?_
  unfold Builtin.«BaseException.__new__»
  refine wpAt_bind ?_
  show wpAt _ _ _ (stack >>= _) _ _ _
  refine wpAt_bind (wpAt_stack fun p below => wpAt_of_wpAny ?_)
  wp_walk
  refine wpAt_of_wpAny ?_
  rw [F.owner]
  repeat (first | with_reducible refine wpAny_madeHere_exc F.canon hC ?_ | with_reducible refine wpAny_loadPart_at hC ?_ | (with_reducible refine wpAny_isSubtype_exc hC ?_; first | rw [hcB] | rw [hcA] | rw [hcN]) | wp_step)
  show R _ _
  rw [Heap.size_push]
  exact hq
theorem type_call_over (F : ExcBaseFacts B newId initId bmB) (O : Over bm B) {rest : List Value} {fI : Addr} {Q : Fin → Shared → Prop}
    (hC : h.get? C = some (excClassObj nm q C N bs bm hdct sn sub ab col dd k0 k1 k2 k3 k5 newId))
    (hi : W.Looks (model prog w) h (typeLookup (.ref C) "__init__") (some (.ref fI))) (hb : ∀ self, W.Looks (model prog w) h (bindSpecial (.ref fI) self) (.ref fI, [self])) (hrest : rest.length ≤ sizeLine)
    (hq : codeAny (model prog w) A (.call (.ref fI) ⟨.ref (h.objs.size + 1) :: rest, []⟩)
      (fun r s' => match r with | .ok (.ret v) => v = .none ∧ Q (.done (.ret (.ref (h.objs.size + 1)))) s' | .ok _ => False | .error e => E e s')
      ⟨(h.push (W.kdv_tup rest)).push (excO C h.objs.size), g, d, t, os⟩) :
    wpAny (model prog w) A (Builtin.«type.__call__» ⟨.ref C :: rest, []⟩) Q E ⟨h, g, d, t, os⟩ := by
  repeat (first | with_reducible refine wpAny_loadPart_at hC ?_ | with_reducible refine wpAny_madeBy_exc hC ?_ | wp_step)
  refine codeAny_call_builtin_code (Code.quiet_builtin _ F.quiet) (check_new F O hC ?_)
  refine new_over F O hC ?_ hrest
  show wpAny _ _ _ _ _ _
  have k : ∀ b o, h.get? b = some o → ((h.push (W.kdv_tup rest)).push (excO C h.objs.size)).get? b = some o := fun b o e => Heap.get?_push_of_some _ (Heap.get?_push_of_some _ e)
  have hC₁ := k _ _ hC
  have hget : ((h.push (W.kdv_tup rest)).push (excO C h.objs.size)).get? (h.objs.size + 1) = some (excO C h.objs.size) := by heap_get
  have hcC : (Value.ref C :: bm).contains (.ref C) = true := by simp
  have i1 := hi.keeps k
  have b1 := (hb (.ref (h.objs.size + 1))).keeps k
  unfold isInstance
  repeat (first | with_reducible refine wpAny_loadPart_at hget ?_ | (with_reducible refine wpAny_isSubtype_exc hC₁ ?_; rw [hcC]) | wp_step)
  show wpAny _ _ (typeLookup (.ref C) _) _ _ _
  refine i1.at ?_
  refine wpAny_holding (wpAny_bind (b1.at ?_))
  refine wpAny_bind (wpAny_call (codeAny_mono hq fun r s' z => ?_))
  rcases r with e | (v | _ | _ | _) <;> first | exact z | exact z.elim | skip
  obtain ⟨rfl, z⟩ := z
  first
    | exact wpAny_pure (wpAny_pure z)
    | (wp_walk; exact z)
theorem call_over (F : ExcBaseFacts B newId initId bmB) (O : Over bm B) {rest : List Value} {fI : Addr}
    (hC : h.get? C = some (excClassObj nm q C N bs bm hdct sn sub ab col dd k0 k1 k2 k3 k5 newId))
    (hi : W.Looks (model prog w) h (typeLookup (.ref C) "__init__") (some (.ref fI))) (hb : ∀ self, W.Looks (model prog w) h (bindSpecial (.ref fI) self) (.ref fI, [self])) (hrest : rest.length ≤ sizeLine)
    (hq : codeAny (model prog w) (A.under (.builtin "type.__call__" ⟨.ref C :: rest, []⟩)) (.call (.ref fI) ⟨.ref (h.objs.size + 1) :: rest, []⟩) (W.InitBack (h.objs.size + 1) R)
      ⟨(h.push (W.kdv_tup rest)).push (excO C h.objs.size), g, d, t, os⟩) :
    codeAny (model prog w) A (.call (.ref C) ⟨rest, []⟩) R ⟨h, g, d, t, os⟩ := by
  have f1 := tc_lookup
  have f2 := tc_bind (.ref C)
  have hTy : (⟨h, g, d, t, os⟩ : Shared).TypeIs (.ref C) "type" := ⟨_, hC, rfl⟩
  refine codeAny_of_tree ?_
  show wpAny _ _ (callAny (.ref C) _) _ _ _
  repeat (any_goals (first | assumption | with_reducible refine wpAny_loadPart_at hC ?_ | wp_step))
  refine ⟨rfl, ?_⟩
  refine codeAny_call_builtin_at (Code.quiet_builtin _ (by decide +kernel)) entry_typeCall (wpAny_check_type_call_sub hC (type_call_over F O hC hi hb hrest ?_))
  refine codeAny_mono hq fun r s' z => ?_
  rcases r with e | (v | _ | _ | _) <;> exact z
end
end KErr
end PySem

set_option maxRecDepth 100000
set_option maxHeartbeats 2000000
namespace PySem
namespace KErr
open PySem.W PySem.Calls PyProof.Rows PySem.HandSPX
/-! ### B.__init__ bound to an own exception, called -/
structure InitF (B i : String) : Prop where
  entry : entryFor table i = some Builtin.«BaseException.__init__»
  kind : builtinKind i = some .slot
  row : Manifest.signature? i = some ⟨.positional, "*", B, .self, [⟨"args", .varPos, false⟩]⟩
  plain : plainId i = true
  noStar : (B != "*") = true
theorem initF_ValueError : InitF "ValueError" "ValueError.__init__" := ⟨F.excBase_ValueError.initEntry, F.excBase_ValueError.initKind, F.excBase_ValueError.initRow, F.excBase_ValueError.init.plain, F.excBase_ValueError.noStar⟩
theorem initF_KeyError : InitF "KeyError" "KeyError.__init__" where
  entry := entryFor_alias (id' := "BaseException.__init__") (by rw [fastTable_eq_tree]; kernel_rfl) (by first | rfl | decide +kernel) (by decide +kernel) (by rw [fastTable_eq_tree]; kernel_rfl)
  kind := by kernel_rfl
  row := by kernel_rfl
  plain := by decide +kernel
  noStar := by decide +kernel
section
variable {M : Model} {A : Around} {E : Value → Shared → Prop} {h : Heap} {g : Array GenState} {d : Drawn} {t : Nat} {os : OsState}
variable {nm q : Str} {C N : Addr} {bs bm : List Value} {hdct : Bool} {sn : List Str} {sub : List Value} {ab : Bool} {col : Option Bool} {dd : Option Addr} {k0 k1 k2 k3 k5 : Option Value} {B i newId : String}
theorem check_mw (F : InitF B i) {e : Addr} {oe : Obj} {rest : List Value} {Q : Unit → Shared → Prop}
    (hC : h.get? C = some (excClassObj nm q C N bs bm hdct sn sub ab col dd k0 k1 k2 k3 k5 newId)) (he : h.get? e = some oe) (hcls : oe.cls = .ref C) (hq : Q () ⟨h, g, d, t, os⟩) :
    wpAny M A (checkBoundCall i ⟨.ref e :: rest, []⟩) Q E ⟨h, g, d, t, os⟩ := by
  have hshort := F.noStar
  simp only [checkBoundCall, F.kind, F.row]
  repeat (first | (with_reducible refine wpAny_loadPart_at he ?_; rw [hcls]) | with_reducible refine wpAny_loadPart_at hC ?_ | wp_step)
  refine wpAny_onRaise ?_
  rw [show ∀ (a b : String) (n : Nat), Bind.check ⟨.positional, "*", B, .self, [⟨"args", .varPos, false⟩]⟩ a b n (List.map (fun x => x.fst) ({ pos := Value.ref e :: rest } : Args).kw) = pure () from
    fun a b n => check_star_args _ _ _ _ _ _]
  exact wpAny_pure hq
end
section
variable {prog : Program} {w : World} {A : Around} {E : Value → Shared → Prop} {h : Heap} {g : Array GenState} {d : Drawn} {t : Nat} {os : OsState}
variable {nm q : Str} {C N : Addr} {bs bm : List Value} {hdct : Bool} {sn : List Str} {sub : List Value} {ab : Bool} {col : Option Bool} {dd : Option Addr} {k0 k1 k2 k3 k5 : Option Value} {B i newId : String}
theorem call_mw (F : InitF B i) {u e t0 : Addr} {rest : List Value} {Q : Value → Shared → Prop}
    (hC : h.get? C = some (excClassObj nm q C N bs bm hdct sn sub ab col dd k0 k1 k2 k3 k5 newId)) (he : h.get? e = some (HandSPX.excO C t0)) (hu : h.get? u = some (kxs_mw i e)) (hrest : rest.length ≤ sizeLine)
    (hq : ∀ h' t1, (∀ b o, b ≠ e → h.get? b = some o → h'.get? b = some o) → h'.get? e = some (HandSPX.excO C t1) → Q .none ⟨h', g, d, t, os⟩) :
    wpAny (model prog w) A (call (.ref u) rest) Q E ⟨h, g, d, t, os⟩ := by
  refine wpAny_call (codeAny_of_tree ?_)
  show wpAny _ A.in1 (callAny (.ref u) ⟨rest, []⟩) _ _ _
  simp only [callAny]
  refine wpAny_bind (wpAny_load hu ?_)
  simp only [kxs_mw, show (Value.type "method-wrapper" == Value.type "method" || Value.type "method-wrapper" == Value.type "builtin_function_or_method" || Value.type "method-wrapper" == Value.type "method-wrapper") = true by decide, if_true]
  refine W.KFB.if_so (by decide) ?_
  refine wpAny_bind (check_mw F hC he rfl ?_)
  refine wpAny_bind (wpAny_pure (wpAny_pure ?_))
  refine ⟨plainId_quiet F.plain _, codeAny_builtin F.entry ?_⟩
  rw [Around.under_plainId F.plain _]
  wp_walk
  refine hq _ h.objs.size (fun b o hb ho => ?_) ?_
  · rw [Heap.get?_update_other _ _ (Ne.symm hb)]
    exact Heap.get?_push_of_some _ ho
  · rw [Heap.get?_update_self _ (Heap.get?_push_of_some _ he) rfl]
    rfl
end
end KErr
end PySem

set_option maxRecDepth 100000
set_option maxHeartbeats 2000000
namespace PySem
namespace KErr
open PySem.W PySem.Calls PyProof.Rows PySem.HandSPX
open Builtin Builtin.ObjectAttr
section
variable {prog : Program} {w : World} {A : Around} {E : Value → Shared → Prop} {R : Result → Shared → Prop} {hp : Heap} {g : Array GenState} {d : Drawn} {t : Nat} {os : OsState}
/-- self.name = v on an exception without a dict, its class's mro as it may be -/
theorem exc_osa_any {K : W.Frag} {name : Str} {tk : Tok} {v : Value} {x C : Addr} {fv : Array Value} {cd : ClassData}
    (X : K.In hp) (hx : hp.get? x = some { cls := .ref C, data := .fields fv }) (hcd : W.clsIn K C = some cd) (hm : ∀ self : Value, refuseLoop self "__setattr__" cd.mro = pure ()) (hob : cd.mro.contains (.type "object") = true) (ne : cd.mro.isEmpty = false) (hh : cd.hasDict = true) (ha : W.findIn K (.ref C) name = some none)
    (hq : ∀ h' tk' dx, (∀ b o, b ≠ x → hp.get? b = some o → h'.get? b = some o) → hp.objs.size ≤ dx → dx ≠ x → h'.get? x = some { cls := .ref C, dict := some dx, data := .fields fv } →
      h'.Ns1 dx (fun y => if y = name then some v else none) → R (.ok (.ret .none)) ⟨h', g, d, tk', os⟩) :
    codeAny (model prog w) A (.call (.builtin "object.__setattr__") ⟨[.ref x, .str name tk, v], []⟩) R ⟨hp, g, d, t, os⟩ := by
  have I : W.InstAt hp x { cls := .ref C, data := .fields fv } C none := ⟨hx, rfl, rfl, trivial⟩
  have SF := F.store_object
  have hxs : x ≠ hp.objs.size := Nat.ne_of_lt (Heap.lt_size hx)
  have sub : W.Looks (model prog w) hp (isInstance (.ref x) (.type "object")) true := I.type.andThen (W.looks_mroIn X (by unfold W.mroIn; rw [hcd, Option.bind_some, if_neg (by rw [ne]; decide), hob]))
  refine codeAny_call_builtin SF.slot.plain SF.entry (@W.check_slot (model prog w) _ _ ⟨hp, g, d, t, os⟩ "object.__setattr__" "object" "__setattr__" (.ref x) [.str name tk, v] [] _ SF.kind SF.split sub (SF.args (.ref x) (.str name tk) v) ?_)
  have hmr : W.Looks (model prog w) hp (mroOf (.ref C)) cd.mro := (W.looks_clsIn X hcd).andThen .now
  have L3 : W.Looks (model prog w) hp (storeTaker? none) none := .now
  have hcls : W.Looks (model prog w) hp (classData C) cd := W.looks_clsIn X hcd
  rw [W.osa_eq, refuse_eq]
  refine wpAny_bind (wpAny_bind (I.type.at (wpAny_bind (hmr.at ?_))))
  rw [hm]
  refine wpAny_pure (wpAny_bind (I.type.at (wpAny_bind ((W.looks_findIn X ha).at (wpAny_bind (L3.at ?_))))))
  show wpAny _ _ (storeInOwnDict (.ref x) (.ref C) (.str name tk) name v false) _ _ _
  obtain ⟨nm, bs, mro, ns, qn, hd, sn, sb, ab, col, del⟩ := cd
  dsimp only at hh
  subst hh
  unfold storeInOwnDict ownDictForStores
  repeat (first | with_reducible refine store_in_new ?_ ?_ | with_reducible refine wpAny_loadPart_at hx ?_ | with_reducible refine hcls.at ?_ | wp_step)
  · exact ⟨_, #[], _, (Heap.get?_update_ne _ _ _ _ hxs.symm).trans (Heap.get?_push_at rfl rfl), rfl, fun e he => absurd he (by simp), fun _ => rfl⟩
  · intro h' tk' hn' hs
    have hx₁ : (hp.push { cls := .type "dict", data := .dict #[] }).get? x = some { cls := .ref C, data := .fields fv } := Heap.get?_push_of_some _ hx
    refine hq h' tk' hp.objs.size (fun b o hb ho => ?_) (Nat.le_refl _) hxs.symm ?_ hn'
    · exact (hs.2 b (Nat.ne_of_lt (Heap.lt_size ho))).trans ((Heap.get?_update_ne _ _ _ _ hb).trans (Heap.get?_push_of_some _ ho))
    · exact (hs.2 x hxs).trans (Heap.get?_update_self _ hx₁ rfl)
end
end KErr
end PySem

set_option maxRecDepth 100000
namespace PySem
namespace KErr
open PySem.W PySem.Calls PyProof.Rows PySem.HandSPX
open Builtin Builtin.ObjectAttr
theorem refuse_KE (self : Value) : refuseLoop self "__setattr__" [.type "KeyError", .type "LookupError", .type "Exception", .type "BaseException", .type "object"] = pure () := by
  kernel_rfl
end KErr
end PySem

set_option maxRecDepth 100000
set_option maxHeartbeats 2000000
namespace PySem
namespace KErr
open PySem.W PySem.Calls PyProof.Rows PySem.HandSPX
open Builtin Builtin.ObjectAttr
/-! ### an own exception whose __init__ says super().__init__(text); self.fld = par -/
abbrev initBody (fld par msg : Str) (p0 p1 p2 p3 p4 p5 q1 q2 q3 q4 : Pos) (j : Nat) : List Stmt :=
  [.Expr (.Call (.Attribute (.Call (.Name "super" p0) [] [] p1) "__init__" p2) [.Constant (.str msg) j p3] [] p4) p5, .Assign [.Attribute (.Name "self" q1) fld q2] (.Name par q3) q4]
structure InitScope (sc : Scope) (par : Str) : Prop where
  kind : sc.kind = .function
  co : sc.isCoroutine = false
  gen : sc.isGenerator = false
  cell : ∀ x ∈ sc.names, x.2 ≠ .cell
  self : sc.names.lookup ("self" : Str) = some .local
  par : sc.names.lookup par = some .local
  sup : sc.names.lookup ("super" : Str) = some .globalImplicit
  cls : sc.names.lookup ("__class__" : Str) = some .free
structure InitEnd (h h' : Heap) (x C dx t1 : Addr) (fld : Str) (v : Value) : Prop where
  keep : ∀ b o, b ≠ x → h.get? b = some o → h'.get? b = some o
  obj : h'.get? x = some { cls := .ref C, dict := some dx, data := .fields #[.ref t1, .none, .none, .none, .bool false, .none] }
  dbig : h.objs.size ≤ dx
  dne : dx ≠ x
  ns : h'.Ns1 dx (fun y => if y = fld then some v else none)
/-- what the written part says of the class at C and of its __init__ at fI -/
structure OwnTxt (prog : Program) (K : Frag) (C fI : Addr) (x : Str) (fld par : Str) (Bi i newId : String) : Prop where
  cls : ∃ nm q N bs bm sn sub ab col dd k0 k1 k2 k3 k5, K.lookup C = some (excClassObj nm q C N bs bm true sn sub ab col dd k0 k1 k2 k3 k5 newId) ∧ (∀ self : Value, refuseLoop self "__setattr__" (.ref C :: bm) = pure ()) ∧ (Value.ref C :: bm).contains (.type "object") = true ∧ alongIn K "__init__" bm = some (some (.builtin i))
  sa : findIn K (.ref C) "__setattr__" = some (some (.builtin "object.__setattr__"))
  noN : findIn K (.ref C) fld = some none
  subB : subIn K (.ref C) (.type Bi) = some true
  op : nsIn K cStatics "thirdparty.any" = some none
  fn : ∃ (oc : Value) (od : Option Addr) (qual : Str) (dV kV doc pm : Value) (an : Option Addr) (cda cc : Addr) (ct : Value) (osl : Array (Option Value)) (params : Arguments) (sc : Scope) (msg : Str) (p0 p1 p2 p3 p4 p5 q1 q2 q3 q4 : Pos) (j : Nat) (ar : Arg),
    (p2.endLine == p4.line) = true ∧ K.lookup fI = some ⟨oc, od, .func (ksFn "__init__" qual params (initBody fld par msg p0 p1 p2 p3 p4 p5 q1 q2 q3 q4 j) sc dV kV doc pm an (.ref cda) ct cc), osl⟩ ∧ codeIn K (.ref cda) qual = true ∧ InitScope sc par ∧
    (params.posonlyargs ++ params.args).head? = some ar ∧ ar.arg = "self" ∧
    (∀ u v : Value, bindArgs (ksFn "__init__" qual params (initBody fld par msg p0 p1 p2 p3 p4 p5 q1 q2 q3 q4 j) sc dV kV doc pm an (.ref cda) ct cc) ⟨[u, v], []⟩ = pure [(("self" : Str), u), (par, v)]) ∧
    (∃ ol od2 osl2, K.lookup cc = some ⟨ol, od2, .cell (some (.ref C)), osl2⟩) ∧ ∃ ol od2 osl2 vs tf, K.lookup cda = some ⟨ol, od2, .fields vs, osl2⟩ ∧ vs[2]? = some (.str prog.main.file tf)
theorem eval_superInit {p0 p1 p2 p3 p4 : Pos} {msg : Str} {j : Nat} {env : Env} (hpos : (p2.endLine == p4.line) = true) :
    eval (.Call (.Attribute (.Call (.Name "super" p0) [] [] p1) "__init__" p2) [.Constant (.str msg) j p3] [] p4) env = (do
      let ov ← attributeBase (.Call (.Name "super" p0) [] [] p1) "__init__" env (eval (.Call (.Name "super" p0) [] [] p1) env)
      standAt p2.atName
      let (f, first) ← holding [ov] (getMethod ov "__init__" (do return (← importBound (.Call (.Name "super" p0) [] [] p1) env).getD true))
      callWith p4 f first (backTo p4 (starEach [.Constant (.str msg) j p3] env)) []) := by
  show (do
      let ov ← attributeBase (.Call (.Name "super" p0) [] [] p1) "__init__" env (eval (.Call (.Name "super" p0) [] [] p1) env)
      standAt p2.atName
      let (f, first) ← holding [ov] (getMethod ov "__init__" (do return (← importBound (.Call (.Name "super" p0) [] [] p1) env).getD true))
      let callPos ← (if !true || p2.endLine == p4.line then pure p4 else _ : Sem Pos)
      callWith callPos f first (backTo p4 (starEach [.Constant (.str msg) j p3] env)) []) = _
  rw [hpos]
  rfl
section
variable {prog : Program} {w : World} {A : Around} {R : Result → Shared → Prop} {s : Shared} {K : Frag} {mg mb : Str → Option Value} {C fI : Addr} {xn fld par : Str} {Bi i newId : String}
theorem own_init (T : OwnTxt prog K C fI xn fld par Bi i newId) (KF : KxsFacts Bi i) (IF : InitF Bi i) {x t0 : Addr} {v : Value} (X : K.In s.heap) (hlim : s.heap.NoLimit) (hx : s.heap.get? x = some (excO C t0)) (hnx : K.lookup x = none) (hroom : A.depth < recursionLimit)
    (hg : s.heap.Ns mainGlobals mg) (hgs : mg "super" = none) (hb : s.heap.Ns builtinsNs mb) (hbs : mb "super" = some (.type "super")) (htop : (prog.main.scope.names.lookup ("super" : Str)).isSome = false) (hps : (("self" : Str) == par) = false) (hpd : (par == ("__debug__" : Str)) = false)
    (hq : ∀ h' tk dx t1, InitEnd s.heap h' x C dx t1 fld v → R (.ok (.ret .none)) { s with heap := h', toks := tk }) :
    codeAny (model prog w) A (.call (.ref fI) ⟨[.ref x, v], []⟩) R s := by
  obtain ⟨oc, od, qual, dV, kV, doc, pm, an, cda, cc, ct, osl, params, sc, msg, p0, p1, p2, p3, p4, p5, q1, q2, q3, q4, j, ar, hpos, lk, hcd, SC, har, hself, hbind, ⟨ol, od2, osl2, hcell⟩, ol3, od3, osl3, vs, tf, hcode, hvs⟩ := T.fn
  obtain ⟨nm, q, N, bs, bm, sn, sub, ab, col, dd, k0, k1, k2, k3, k5, hC, hrl, hob, hal⟩ := T.cls
  refine ks_codeAny_call_defAt (binds := [(("self" : Str), .ref x), (par, v)]) hroom (X _ _ lk) rfl hlim (codeRec_of X hcd) rfl (BindsTo.of_eq (hbind _ _)) SC.cell (fun y hy => ?_) (fun h₁ hns k => ?_) SC.co SC.gen SC.kind
  · simp only [List.mem_cons, List.not_mem_nil, or_false] at hy
    rcases hy with rfl | rfl
    · exact SC.self
    · exact SC.par
  have X₁ : K.In h₁ := X.keeps k
  have hx₁ := k _ _ hx
  have hC₁ := X₁ _ _ hC
  have mself : [(("self" : Str), Value.ref x), (par, v)].reverse.lookup ("self" : Str) = some (.ref x) := by
    show List.lookup ("self" : Str) [(par, v), (("self" : Str), Value.ref x)] = _
    rw [List.lookup_cons, hps]
    simp
  have mpar : [(("self" : Str), Value.ref x), (par, v)].reverse.lookup par = some v := by
    show List.lookup par [(par, v), (("self" : Str), Value.ref x)] = _
    simp
  have hsx : s.heap.objs.size ≠ x := Nat.ne_of_gt (Heap.lt_size hx)
  have hxC : x ≠ C := fun z => by
    rw [z, hC] at hnx
    cases hnx
  refine ks_wpAt_execs_cons (ks_wpAt_Expr_any (ks_wpAt_MethodCall (ks_wpAt_super_base SC.sup SC.cls (by rfl) rfl (X₁ _ _ lk) rfl har rfl (X₁ _ _ hcode) rfl hvs (by simp) htop ?_) (eval_superInit hpos)) (by unfold interactive; simp [callEnv, newEnv, SC.kind]))
  have hcl : clsIn K C = some { name := nm, bases := bs, mro := .ref C :: bm, ns := N, qualname := q, hasDict := true, slotNames := sn, subclasses := sub, abstract := ab, collection := col, hasDel := false } := by
    unfold clsIn
    rw [hC]
  refine ks_loadName_global SC.kind SC.sup (loadGlobal_builtin (hg.keeps k) hgs (hb.keeps k) hbs ⟨rfl, ?_⟩)
  refine wpAny_loadName_free SC.kind SC.cls rfl ⟨_, X₁ _ _ hcell, rfl⟩ ?_
  rw [hself]
  refine wpAny_loadName_local SC.kind SC.self hns mself ?_
  refine ks_wpAny_isType_cls hC₁ rfl ⟨rfl, ?_⟩
  refine ks_wpAny_call_super hC₁ rfl hx₁ rfl (fun c e => by cases e) (looks_mroIn X₁ (by unfold mroIn; rw [hcl]; simp)) (fun h₂ e k2 => ?_)
  have X₂ : K.In h₂ := X₁.keeps k2
  have hx₂ := k2 _ _ hx₁
  have hC₂ := X₂ _ _ hC
  have IA : InstAt h₂ x (excO C t0) C none := ⟨hx₂, rfl, rfl, trivial⟩
  refine kxs_getMethod KF e (looks_opaque X₂ T.op) (l₀ := .ref C :: bm) (fun A Q E s k q => wpAny_bind ((looks_clsIn X₂ hcl) A _ E s k (wpAny_pure q))) rfl X₂ (by simpa [List.dropWhile_cons] using hal) (IA.type.andThen (looks_subIn X₂ T.subB)) hxC (by decide) ?_
  have hu : (h₂.push (kxs_mw i x)).get? h₂.objs.size = some (kxs_mw i x) := Heap.get?_push_at rfl rfl
  have k3 : ∀ b o, h₂.get? b = some o → (h₂.push (kxs_mw i x)).get? b = some o := fun b o e => Heap.get?_push_of_some _ e
  refine kxs_callWith (i := i) (x := x) rfl (evalArgs_plain (Calls.spliced_cons (wpAny_Constant_str (k := j) (pos := p3) (Calls.spliced_nil ⟨hu, ?_⟩))))
  refine call_mw IF (k3 _ _ hC₂) (k3 _ _ hx₂) hu (by simp; decide) (fun h₄ t1 k4 hx₄ => ?_)
  have k14 : ∀ b o, b ≠ x → h₁.get? b = some o → h₄.get? b = some o := fun b o hb e => k4 b o hb (k3 _ _ (k2 _ _ e))
  have X₄ : K.In h₄ := fun a o e => k14 a o (fun z => by rw [z, hnx] at e; cases e) (X₁ a o e)
  have hns₄ : h₄.Ns s.heap.objs.size fun y => [(("self" : Str), Value.ref x), (par, v)].reverse.lookup y := by
    obtain ⟨oL, es, ep, hL, r⟩ := hns
    exact ⟨oL, es, ep, k14 _ _ hsx hL, r⟩
  refine ks_wpAt_execs_cons (ks_wpAt_Assign_Attr (wpAt_of_wpAny (wpAny_Name (wpAny_loadName_local SC.kind SC.par hns₄ mpar (wpAny_Name (wpAny_loadName_local SC.kind SC.self hns₄ mself ?_) (by decide))) hpd)) (by rfl))
  refine set_plain X₄ (ox := excO C t1) (od := none) ⟨hx₄, rfl, rfl, trivial⟩ T.sa ?_
  refine exc_osa_any X₄ hx₄ hcl hrl hob rfl rfl T.noN (fun h₅ tk₅ dx k5 dn dne hx₅ hn₅ => ?_)
  refine wpAt_of_wpAny (wpAny_execs_nil (hq h₅ tk₅ dx t1 ⟨fun b o hb e => k5 b o hb (k14 b o hb (k b o e)), hx₅, ?_, dne, hn₅⟩))
  exact Nat.le_of_lt (Nat.lt_of_lt_of_le hns₄.lt dn)
end
end KErr
end PySem

set_option maxRecDepth 100000
set_option maxHeartbeats 2000000
namespace PySem
namespace KErr
open PySem.W PySem.Calls PyProof.Rows PySem.HandSPX
/-- an own exception made -/
structure OwnMade (h h' : Heap) (e C d : Addr) (fld : Str) (v : Value) : Prop where
  keep : ∀ b o, h.get? b = some o → h'.get? b = some o
  new : h.objs.size ≤ e
  obj : ∃ oe vs, h'.get? e = some oe ∧ oe.cls = .ref C ∧ oe.dict = some d ∧ oe.data = .fields vs ∧ vs[1]? = some .none
  dbig : h.objs.size ≤ d
  dne : d ≠ e
  ns : h'.Ns1 d (fun y => if y = fld then some v else none)
structure OwnCls (K : Frag) (C fI : Addr) (B0 newId : String) : Prop where
  cls : ∃ nm q N bs bm sn sub ab col dd k0 k1 k2 k3 k5, K.lookup C = some (excClassObj nm q C N bs bm true sn sub ab col dd k0 k1 k2 k3 k5 newId) ∧ Over bm B0
  iC : findIn K (.ref C) "__init__" = some (some (.ref fI))
  tC : typeIn K (.ref fI) = some (.type "function")
section
variable {prog : Program} {w : World} {A : Around} {R : Result → Shared → Prop} {s : Shared} {K : Frag} {mg mb : Str → Option Value} {C fI : Addr} {xn fld par : Str} {Bi i newId B0 initId : String} {bmB : List Value}
theorem own_made (F : ExcBaseFacts B0 newId initId bmB) (T : OwnTxt prog K C fI xn fld par Bi i newId) (TC : OwnCls K C fI B0 newId) (KF : KxsFacts Bi i) (IF : InitF Bi i) {v : Value} (X : K.In s.heap) (hlim : s.heap.NoLimit) (hroom : A.depth + 1 < recursionLimit)
    (hg : s.heap.Ns mainGlobals mg) (hgs : mg "super" = none) (hb : s.heap.Ns builtinsNs mb) (hbs : mb "super" = some (.type "super")) (htop : (prog.main.scope.names.lookup ("super" : Str)).isSome = false) (hps : (("self" : Str) == par) = false) (hpd : (par == ("__debug__" : Str)) = false)
    (hq : ∀ h' tk e d, OwnMade s.heap h' e C d fld v → R (.ok (.ret (.ref e))) { s with heap := h', toks := tk }) :
    codeAny (model prog w) A (.call (.ref C) ⟨[v], []⟩) R s := by
  obtain ⟨nm, q, N, bs, bm, sn, sub, ab, col, dd, k0, k1, k2, k3, k5, hC, O⟩ := TC.cls
  obtain ⟨hp, g, dr, tk, os⟩ := s
  have k : ∀ b o, hp.get? b = some o → ((hp.push (kdv_tup [v])).push (excO C hp.objs.size)).get? b = some o := fun b o e => Heap.get?_push_of_some _ (Heap.get?_push_of_some _ e)
  have hget : ((hp.push (kdv_tup [v])).push (excO C hp.objs.size)).get? (hp.objs.size + 1) = some (excO C hp.objs.size) := by heap_get
  have hnx : K.lookup (hp.objs.size + 1) = none := by
    cases e : K.lookup (hp.objs.size + 1) with
    | none => rfl
    | some o =>
      have z : hp.get? (hp.objs.size + 1) = some o := X _ _ e
      exact absurd (Nat.lt_of_succ_lt (Heap.lt_size z)) (Nat.lt_irrefl _)
  refine call_over F O (X _ _ hC) (looks_findIn X TC.iC) (fun self => bind_fn X self TC.tC) (by simp; decide) ?_
  refine own_init (s := ⟨(hp.push (kdv_tup [v])).push (excO C hp.objs.size), g, dr, tk, os⟩) T KF IF (X.keeps k) (hlim.keeps k) hget hnx ?_ (hg.keeps k) hgs (hb.keeps k) hbs htop hps hpd fun h' tk' dx t1 ⟨k', hx, dn, dne, hns⟩ => ?_
  · show A.depth + 1 < recursionLimit
    exact hroom
  · have old : ∀ b o, hp.get? b = some o → h'.get? b = some o := fun b o e => k' b o (Nat.ne_of_lt (Nat.lt_succ_of_lt (Heap.lt_size e))) (k b o e)
    have z : hp.objs.size + 1 + 1 ≤ dx := by
      first
        | (simpa only [Heap.size_push] using dn)
        | exact dn
        | (have q := dn; rw [Heap.size_push, Heap.size_push] at q; exact q)
    exact ⟨rfl, hq h' tk' (hp.objs.size + 1) dx ⟨old, Nat.le_succ _, ⟨_, _, hx, rfl, rfl, rfl, rfl⟩, Nat.le_trans (Nat.le_trans (Nat.le_succ _) (Nat.le_succ _)) z, dne, hns⟩⟩
end
end KErr
end PySem

set_option maxRecDepth 100000
set_option maxHeartbeats 2000000
namespace DW
open PySem PySem.Spec PyProof.Rows L2
theorem relO_fld {v : V} {v' : Value} {fld : Str} (r : RelV v v') (f : Str) : RelO (List.lookup f [(fld, v)]) (if f = fld then some v' else none) := by
  by_cases hw : f = fld
  · subst hw
    rw [if_pos rfl]
    have q : List.lookup f [(f, v)] = some v := by simp [List.lookup]
    rw [q]
    exact r
  · rw [if_neg hw]
    have qw : (f == fld) = false := by simpa using hw
    have q2 : List.lookup f [(fld, v)] = none := by simp [List.lookup, qw]
    rw [q2]
    trivial
/-- C(e), an own exception -/
def tMkX (C : Addr) (fld : Str) (ta : TA) : L2.St → Hp → XK → Prop := fun σ H Q => ta σ H fun vs H1 => ∃ v, vs = [v] ∧ ∀ d, H1 d = none → Q (.ref C) (some d) (upd H1 d (.xd [(fld, v)]))
/-- what is known of an own exception class -/
structure XCls (prog : Program) (K : PySem.W.Frag) (mg : Str → Option Value) (x fld : Str) (C : Addr) : Prop where
  gC : mg x = some (.ref C)
  kC : PySem.W.keepIn K (.ref C) = true
  exC : PySem.W.subIn K (.ref C) (.type "BaseException") = some true
  tyC : PySem.W.typeIn K (.ref C) = some (.type "type")
  made : ∃ (fI : Addr) (par : Str) (Bi i newId B0 initId : String) (bmB : List Value), ExcBaseFacts B0 newId initId bmB ∧ KErr.OwnTxt prog K C fI x fld par Bi i newId ∧ KErr.OwnCls K C fI B0 newId ∧ PySem.W.KxsFacts Bi i ∧ KErr.InitF Bi i ∧ (("self" : Str) == par) = false ∧ (par == ("__debug__" : Str)) = false
  top : (prog.main.scope.names.lookup ("super" : Str)).isSome = false
  sup : mg "super" = none
theorem boot_super : bootBuiltins "super" = some (.type "super") := by decide +kernel
section
variable {X : Cx} {C : Addr} {x fld : Str}
theorem pmk_own {a : Expr} {ta : TA} {p pos : Pos} {k : Nat} (T : XCls X.prog X.K X.mg x fld C) (hr : Room k X.A) (hk : 2 ≤ k) (ha : PA X [a] ta) (hg : Gl X x) (hdb : (x == ("__debug__" : Str)) = false := by decide)
    (he : starEach (a :: []) X.env = (false, eval a X.env) :: starEach [] X.env := by rfl) (hpl : (backTo pos (starEach [] X.env)).any (·.1) = false := by rfl) :
    L2.PMk X (.Call (.Name x p) [a] [] pos) (tMkX C fld ta) := by
  intro pins s σ H Q I h
  refine wpAny_Call_Name_kw (ld_glob I hg T.gC ?_ hdb)
  refine PySem.W.callWith_K (h₀ := X.base) I.ok.mod.kin T.kC (thn (ha.run pos pins s σ H _ I h) fun us s1 hh => ?_) he hpl
  obtain ⟨vs, H1, I1, r1, v, ev, q1⟩ := hh
  subst ev
  refine ⟨I1.kIn, ?_⟩
  cases r1 with
  | cons rv rn =>
    rename_i v' us'
    cases rn
    show wpAny _ _ (call (.ref C) [v']) _ _ _
    have hlim := I1.nolimit
    obtain ⟨mb, h1b, h2b⟩ := I1.mod.blt
    have hglob := I1.mod.glob.keeps I1.bk
    have hblt := h1b.keeps I1.bk
    obtain ⟨fI, par, Bi, i, newId, B0, initId, bmB, F, TX, TC, KF, IF, e1, e2⟩ := T.made
    obtain ⟨hp, g, dr, tk, os⟩ := s1
    refine wpAny_call (KErr.own_made F TX TC KF IF I1.kIn hlim (by have := hr.dp; omega) hglob T.sup hblt ((h2b "super" (by decide)).trans boot_super) T.top e1 e2 fun h' tk' e d M => ?_)
    show L2.MkP X pins σ Q (.ref e) ⟨h', g, dr, tk', os⟩
    obtain ⟨oe, fv, hoe, hc, hd, hdat, h1⟩ := M.obj
    have hns := M.ns
    obtain ⟨G', g1, g2⟩ := restrict h' fun b => decide (b ≠ e)
    have gk : ∀ b, b ≠ e → G'.get? b = h'.get? b := fun b hb => g1 b (decide_eq_true hb)
    have ge : G'.get? e = none := g2 e (by simp)
    have old : ∀ b o, hp.get? b = some o → G'.get? b = some o := fun b o q => (gk b (Nat.ne_of_lt (Nat.lt_of_lt_of_le (Heap.lt_size q) M.new))).trans (M.keep b o q)
    have ob : ObjOk X.prog X.w (upd H1 d (.xd [(fld, v)])) G' d (.xd [(fld, v)]) :=
      ⟨_, hns.at (fun o q => (gk d M.dne).trans q), fun f => relO_fld rv f⟩
    have J : Inv X pins σ (upd H1 d (.xd [(fld, v)])) ⟨G', g, dr, tk', os⟩ := I1.laid (t' := tk') old M.dbig ob
    refine ⟨e, oe, fv, ⟨G', g, dr, tk', os⟩, _, .ref C, some d, rfl, J, fun b o q => ?_, ge, hoe, ⟨hc, hd⟩, hdat, h1, ?_, rfl, I1.bare, raises_own T.exC T.tyC, q1 d (I1.hok.fresh M.dbig)⟩
    · by_cases hb : b = e
      · have q' : G'.get? b = some o := q
        rw [hb, ge] at q'; cases q'
      · exact (gk b hb).symm.trans q
    · rw [upd_ne (Ne.symm M.dne)]
      exact I1.hok.fresh M.new
end
end DW

set_option maxRecDepth 100000
set_option maxHeartbeats 1000000
namespace DW
open PySem PySem.Spec PyProof.Rows L2
/-! ### defs that raise an own error -/
/-- an error of the class at C flies: its field fld holds what stands for x -/
def XOut (O : Addr → Prop) (E : XK) (Hk H : Hp) (C : Addr) (fld : Str) (x : PyData) : Prop := ∀ (d : Addr) (v : V) (Hk' H' : Hp), Gr O Hk H Hk' H' → Ex Hk' H' → Hk' d = some (.xd [(fld, v)]) → Rp Hk' v x → E (.ref C) (some d) H'
theorem XOut.go {O O' : Addr → Prop} {E : XK} {Hk H Hk1 H1 : Hp} {C : Addr} {fld : Str} {x : PyData} (q : XOut O E Hk H C fld x) (g : Gr O Hk H Hk1 H1) (h : ∀ a, O' a → O a ∨ H a = none) : XOut O' E Hk1 H1 C fld x := fun d v Hk' H' g2 e hd r =>
  q d v Hk' H' (g.trans g2 h) e hd r
def spX (R : List Sl → Addr → Str → PyData → Prop) : Sp := fun vs H _ E => ∃ (ss : List Sl) (Hk : Hp) (C : Addr) (fld : Str) (x : PyData), R ss C fld x ∧ (∀ s ∈ ss, notOw s) ∧ At (ss.map some) Hk (vs.map some) H ∧ XOut (fun _ => False) E Hk H C fld x
def EvX (E : XK) (te : TE) (ρ : En) (C : Addr) (fld : Str) (x : PyData) : Prop := ∀ (Hk : Hp) (σ : L2.St) (H : Hp), At ρ Hk σ H → XOut (Owns σ ρ) E Hk H C fld x → ∀ Q : VK, te σ H Q
def SDX (E : XK) (ts : TS) (ρ : En) (C : Addr) (fld : Str) (x : PyData) : Prop := ∀ (Hk : Hp) (σ : L2.St) (H : Hp) (D : Ends), At ρ Hk σ H → XOut (Owns σ ρ) E Hk H C fld x → ts D σ H
abbrev wE (E : XK) : WX := fun cls d _ H => E cls d H
section
variable {E : XK} {ρ ρ1 : En} {C : Addr} {fld : Str} {x : PyData} {t u : TS} {te tb : TE} {ta : TA} {as : List Ar} {ss : List Sl}
theorem evx_call {R : List Sl → Addr → Str → PyData → Prop} (ha : EvA ta ρ as ρ1) (hs : ArS ρ1 as ss) (hn : ∀ s ∈ ss, notOw s) (hR : R ss C fld x) : EvX E (tCallS (spX R) (WE (wE E)) ta) ρ C fld x := fun Hk σ H a q Q =>
  ha Hk σ H a _ fun vs Hk1 H1 g1 r => ⟨ss, Hk1, C, fld, x, hR, hn, ArS.at' g1.at' r hs hn, q.go g1.gr fun _ z => z.elim⟩
theorem evx_op {r : R2} (h : EvX E te ρ C fld x) : EvX E (tOp r te tb) ρ C fld x := fun Hk σ H a q Q => h Hk σ H a q _
theorem sdx_ret (h : EvX E te ρ C fld x) : SDX E (tRet te) ρ C fld x := fun Hk σ H D a q => h Hk σ H a q _
theorem sdx_drop (h : EvX E te ρ C fld x) : SDX E (tDrop te) ρ C fld x := fun Hk σ H D a q => h Hk σ H a q _
theorem sdx_asg {g : TG} (h : EvX E te ρ C fld x) : SDX E (tAsg te g) ρ C fld x := fun Hk σ H D a q => h Hk σ H a q _
theorem sdx_seq1 (h : SDX E t ρ C fld x) : SDX E (tSeq t u) ρ C fld x := fun Hk σ H D a q => h Hk σ H { D with nx := u D } a q
theorem sdx_seq (h1 : SD t ρ (.nx ρ1)) (h2 : SDX E u ρ1 C fld x) : SDX E (tSeq t u) ρ C fld x := fun Hk σ H D a q =>
  h1 Hk σ H { D with nx := u D } a fun Hk1 σ1 H1 g1 => h2 Hk1 σ1 H1 D g1.at' (q.go g1.gr g1.own)
theorem sdx_T {tc : TT} (h : EvB tc ρ true ρ1) (h1 : SDX E t ρ1 C fld x) : SDX E (tIfS tc t u) ρ C fld x := fun Hk σ H D a q =>
  h Hk σ H a _ fun Hk1 H1 g1 => by
    rw [if_pos rfl]
    exact h1 Hk1 σ H1 D g1.at' (q.go g1.gr fun b z => .inl (g1.own b z))
theorem sdx_raise (h : EvD te ρ x ρ1) : SDX E (fun _ σ H => tMkX C fld (tCons te tNil) σ H fun cls d H' => wE E cls d σ H') ρ C fld x := fun Hk σ H D a q =>
  h Hk σ H a _ fun v Hk1 H1 g1 r => ⟨v, rfl, fun d hd => q d v (upd Hk1 d (.xd [(fld, v)])) (upd H1 d (.xd [(fld, v)])) (g1.gr.trans (O' := fun _ => False) (Gr.new g1.at'.kh hd) fun _ z => z.elim) g1.at'.kh.both upd_same (r.ex (Ex.new (g1.at'.kh.none hd)))⟩
end
structure ClX (P : Program) (w : World) (K : PySem.W.Frag) (mg : Str → Option Value) (base : Heap) (k : Nat) (x : Str) (sp : Sp) : Prop where
  ex : ∃ (f : Addr) (fd : FuncData) (ps : List Str), FnOk P w K mg base (L2.CX P w) k f fd ps sp ∧ mg x = some (.ref f) ∧ PySem.W.keepIn K (.ref f) = true ∧ Binds K fd ps []
theorem pe_clX {X : Cx} {k j : Nat} {x : Str} {sp : Sp} {p pos : Pos} {e : Expr} {es : List Expr} {t : TA} {W : WX} (c : ClX X.prog X.w X.K X.mg X.base k x sp) (hr : Room j X.A) (hk : k ≤ j) (hg : Gl X x) (tk : Takes X W) (ha : PA X (e :: es) t)
    (hdb : (x == ("__debug__" : Str)) = false := by decide) (he : starEach (e :: es) X.env = (false, eval e X.env) :: starEach es X.env := by rfl) (hpl : (backTo pos (starEach es X.env)).any (·.1) = false := by rfl) :
    PE X (.Call (.Name x p) (e :: es) [] pos) (tCallS sp (WE W) t) := by
  obtain ⟨f, fd, ps, F, hm, kp, b⟩ := c.ex
  exact pe_callS F (hr.mono hk) hg hm kp b (fun σ => passAt tk σ) ha hdb he hpl
section
variable {P : Program} {w : World} {K : PySem.W.Frag} {mg : Str → Option Value} {base : Heap}
theorem clx_of {x : Str} {st : Stmt} {N ps : List Str} {k : Nat} {R : List Sl → Addr → Str → PyData → Prop} (D : Dn K mg x st ps) (S : FnScope N ps (defScope st)) (hl : ∀ ss C fld y, R ss C fld y → ss.length = ps.length)
    (hb : ∀ (f : Addr) (cdv : Value) (A : Around) (outer : List Env) (s : Shared) (H : Hp) (E : XK), Room k (A.deeper (PyProof.Rows.envOfC x (defScope st) s.heap.objs.size f cdv)) → ∀ ss C fld y, R ss C fld y → (∀ s ∈ ss, notOw s) →
      ∃ t, PSs (cxOf (L2.CX P w) P w K mg base N x (defScope st) f cdv A outer s H E) (defBody st) t ∧ SDX E t (ss.map some ++ List.replicate (N.length - ss.length) none) C fld y) : ClX P w K mg base (k + 1) x (spX R) := by
  obtain ⟨f, fd, F, hm, b⟩ := D.ex
  refine ⟨f, fd, ps, F.okX S (fun vs H Q E h => ?_) fun cdv A outer s H vs Q E hr h => ?_, hm, F.kp, b⟩
  · obtain ⟨ss, Hk, C, fld, y, hR, _, a, _⟩ := h
    have := a.len
    rw [← hl _ _ _ _ hR]
    simpa using this
  · obtain ⟨ss, Hk, C, fld, y, hR, hn, a, q⟩ := h
    obtain ⟨t, ht, hS⟩ := hb f cdv A outer s H E hr ss C fld y hR hn
    have el : vs.length = ss.length := by simpa using a.len
    refine ⟨t, ht, ?_⟩
    show t _ (vs.map some ++ List.replicate (N.length - vs.length) none) H
    rw [el]
    exact hS Hk _ H _ (a.start _) fun d v Hk' H' g e hd r => q d v Hk' H' (g.mono fun b hb => no_owns hn b hb) e hd r
/-! ### the raising side of need_check, check_order, suits_paper, suits -/
inductive RX_need_check (C CN : Addr) : List Sl → Addr → Str → PyData → Prop
  | mk (cols : List Int) (cks : List Ck) (v : PyData) (h : isBelow v (cks.length : Nat) = false) : RX_need_check C CN [bookS C cols cks, .kn v] CN "check" v
theorem clx_need_check (T : Nm mg) (D : Dn K mg "need_check" st_need_check ["book", "value"]) {C CN : Addr} (B : BkC K C) (XN : XCls P K mg "NoCheck" "check" CN) (c_is_below : Cl P w K mg base 3 "is_below" (spP R_is_below)) : ClX P w K mg base 4 "need_check" (spX (RX_need_check C CN)) := by
  refine clx_of D sc_need_check (by rintro _ _ _ _ ⟨⟩; rfl) fun f cdv A outer s H E hr => ?_
  rintro _ _ _ v ⟨cols, cks, _, h⟩ -
  refine ⟨_, (pss_cons (ps_if (pt_not (pt_val (pe_cl c_is_below hr (by decide) (by rfl) (pa_cons (pv 1) (pa_cons (pe_callB cr_len (by rfl) T.len bt_len (pa_cons (pe_fld (pv 0) rfl) pa_nil)) pa_nil)))))
      (pss_one (ps_raise rfl (takes_of rfl rfl rfl rfl) (pmk_own XN hr (by decide) (pa_cons (pv 1) pa_nil) (by rfl))))
      pss_nil)
    (pss_one (ps_ret (pv 1)))), ?_⟩
  exact sdx_seq1 (sdx_T (EvB.to (eb_not (eb_test (ed_call (ss := [.kn v, .kn (.int ((cks.map ckD).length : Nat))]) (ea_cons (ed_var rfl) (ea_cons (ed_lenT (ed_cks B rfl)) ea_nil)) (.d (.d .nil)) (by simp [notOw]) (.mk _ _)))) (by rw [List.length_map, h]; rfl)) (sdx_raise (ed_var rfl)))
inductive RX_check_order (C CR : Addr) : List Sl → Addr → Str → PyData → Prop
  | mk (cols : List Int) (cks : List Ck) (x : PyData) (h : okCols cols) (ho : orderOf (kindsI cols) x = .none) : RX_check_order C CR [bookS C cols cks, .kn x] CR "at" x
theorem clx_check_order (T : Nm mg) (D : Dn K mg "check_order" st_check_order ["book", "value"]) {C CR : Addr} (B : BkC K C) (XR : XCls P K mg "Refused" "at" CR) (c_order_of : Cl P w K mg base 6 "order_of" (spP (R_order_of C))) : ClX P w K mg base 7 "check_order" (spX (RX_check_order C CR)) := by
  refine clx_of D sc_check_order (by rintro _ _ _ _ ⟨⟩; rfl) fun f cdv A outer s H E hr => ?_
  rintro _ _ _ x ⟨cols, cks, _, h, ho⟩ -
  refine ⟨_, (pss_cons (ps_set (i := 2) sc_check_order.nd rfl (by first | exact Or.inl rfl | exact Or.inr rfl) (pe_cl c_order_of hr (by decide) (by rfl) (pa_cons (pv 0) (pa_cons (pv 1) pa_nil))))
    (pss_cons (ps_if (pt_cmpR op_isNon (pv 2) pe_non (nomark _))
      (pss_one (ps_raise rfl (takes_of rfl rfl rfl rfl) (pmk_own XR hr (by decide) (pa_cons (pv 1) pa_nil) (by rfl))))
      pss_nil)
    (pss_one (ps_ret (pv 2))))), ?_⟩
  exact sdx_seq (sd_asg (EvD.to (ed_call (ea_var (s := bookS C cols cks) rfl (ea_cons (ed_var rfl) ea_nil)) (.var rfl (.d .nil)) (by simp [notOw]) (.mk cols cks x h)) ho) (np_of rfl)) (sdx_seq1 (sdx_T (EvB.to (eb_test (ed_isN (ed_var rfl))) rfl) (sdx_raise (ed_var rfl))))
inductive RX_suits (C CN CR : Addr) : List Sl → Addr → Str → PyData → Prop
  | check (cols : List Int) (cks : List Ck) (v x : PyData) (h : isBelow v (cks.length : Nat) = false) : RX_suits C CN CR [bookS C cols cks, .kn v, .kn x] CN "check" v
  | order (cols : List Int) (cks : List Ck) (k : Nat) (x : PyData) (h : okCols cols) (hk : k < cks.length) (ho : orderOf (kindsI cols) x = .none) : RX_suits C CN CR [bookS C cols cks, .kn (.int (k : Nat)), .kn x] CR "at" x
theorem clx_suits_paper (T : Nm mg) (D : Dn K mg "suits_paper" st_suits_paper ["book", "check", "ranking"]) {C CN CR : Addr} (B : BkC K C) (c_need_check : Cl P w K mg base 4 "need_check" (spP (R_need_check C))) (c_check_order : Cl P w K mg base 7 "check_order" (spP (R_check_order C))) (c_fault_in : Cl P w K mg base 3 "fault_in" (spP R_fault_in))
    (x_need_check : ClX P w K mg base 4 "need_check" (spX (RX_need_check C CN))) (x_check_order : ClX P w K mg base 7 "check_order" (spX (RX_check_order C CR))) : ClX P w K mg base 8 "suits_paper" (spX (RX_suits C CN CR)) := by
  refine clx_of D sc_suits_paper (by rintro _ _ _ _ (⟨⟩ | ⟨⟩) <;> rfl) fun f cdv A outer s H E hr => ?_
  rintro _ _ _ v (⟨cols, cks, _, x, h⟩ | ⟨cols, cks, k, _, h, hk, ho⟩) -
  · refine ⟨_, (pss_cons (ps_expr (pe_clX x_need_check hr (by decide) (by rfl) (takes_of rfl rfl rfl rfl) (pa_cons (pv 0) (pa_cons (pv 1) pa_nil))))
    (pss_cons (ps_set (i := 3) sc_suits_paper.nd rfl (by first | exact Or.inl rfl | exact Or.inr rfl) (pe_cl c_check_order hr (by decide) (by rfl) (pa_cons (pv 0) (pa_cons (pv 2) pa_nil))))
    (pss_cons (ps_asg (pe_ix ix_tup (pe_fld (pv 0) rfl) (pv 1) (fun _ _ => rfl)) (pg_tup rfl (pgs_cons (pg_name (i := 4) sc_suits_paper.nd rfl (by first | exact Or.inl rfl | exact Or.inr rfl)) (pgs_cons (pg_name (i := 5) sc_suits_paper.nd rfl (by first | exact Or.inl rfl | exact Or.inr rfl)) pgs_nil))))
    (pss_one (ps_ret (pe_cl c_fault_in hr (by decide) (by rfl) (pa_cons (pv 4) (pa_cons (pv 5) (pa_cons (pv 3) pa_nil))))))))), ?_⟩
    exact sdx_seq1 (sdx_drop (evx_call (ss := [bookS C cols cks, .kn v]) (ea_var (s := bookS C cols cks) rfl (ea_cons (ed_var rfl) ea_nil)) (.var rfl (.d .nil)) (by simp [notOw]) (.mk cols cks v h)))
  · refine ⟨_, (pss_cons (ps_expr (pe_cl c_need_check hr (by decide) (by rfl) (pa_cons (pv 0) (pa_cons (pv 1) pa_nil))))
    (pss_cons (ps_set (i := 3) sc_suits_paper.nd rfl (by first | exact Or.inl rfl | exact Or.inr rfl) (pe_clX x_check_order hr (by decide) (by rfl) (takes_of rfl rfl rfl rfl) (pa_cons (pv 0) (pa_cons (pv 2) pa_nil))))
    (pss_cons (ps_asg (pe_ix ix_tup (pe_fld (pv 0) rfl) (pv 1) (fun _ _ => rfl)) (pg_tup rfl (pgs_cons (pg_name (i := 4) sc_suits_paper.nd rfl (by first | exact Or.inl rfl | exact Or.inr rfl)) (pgs_cons (pg_name (i := 5) sc_suits_paper.nd rfl (by first | exact Or.inl rfl | exact Or.inr rfl)) pgs_nil))))
    (pss_one (ps_ret (pe_cl c_fault_in hr (by decide) (by rfl) (pa_cons (pv 4) (pa_cons (pv 5) (pa_cons (pv 3) pa_nil))))))))), ?_⟩
    exact sdx_seq (sd_drop (ed_call (ss := [bookS C cols cks, .kn (.int (k : Nat))]) (ea_var (s := bookS C cols cks) rfl (ea_cons (ed_var rfl) ea_nil)) (.var rfl (.d .nil)) (by simp [notOw]) (.mk cols cks k hk)))
      (sdx_seq1 (sdx_asg (evx_call (ss := [bookS C cols cks, .kn v]) (ea_var (s := bookS C cols cks) rfl (ea_cons (ed_var rfl) ea_nil)) (.var rfl (.d .nil)) (by simp [notOw]) (.mk cols cks v h ho))))
theorem clx_suits (T : Nm mg) (D : Dn K mg "suits" st_suits ["book", "check", "ranking"]) {C CN CR : Addr} (x_suits_paper : ClX P w K mg base 8 "suits_paper" (spX (RX_suits C CN CR))) : ClX P w K mg base 9 "suits" (spX (RX_suits C CN CR)) := by
  refine clx_of D sc_suits (by rintro _ _ _ _ (⟨⟩ | ⟨⟩) <;> rfl) fun f cdv A outer s H E hr => ?_
  rintro ss _ _ _ hR hn
  obtain ⟨cols, cks, a, b, rfl⟩ : ∃ cols cks a b, ss = [bookS C cols cks, .kn a, .kn b] := by
    cases hR with
    | check cols cks v x h => exact ⟨_, _, _, _, rfl⟩
    | order cols cks k x h hk ho => exact ⟨_, _, _, _, rfl⟩
  refine ⟨_, (pss_one (ps_ret (pe_cmpR op_isNon (pe_clX x_suits_paper hr (by decide) (by rfl) (takes_of rfl rfl rfl rfl) (pa_cons (pv 0) (pa_cons (pv 1) (pa_cons (pv 2) pa_nil)))) pe_non (nomark _)))), ?_⟩
  exact sdx_ret (evx_op (evx_call (ss := [bookS C cols cks, .kn a, .kn b]) (ea_var (s := bookS C cols cks) rfl (ea_cons (ed_var rfl) (ea_cons (ed_var rfl) ea_nil))) (.var rfl (.d (.d .nil))) hn hR))
end
end DW

set_option maxRecDepth 100000
set_option maxHeartbeats 4000000
namespace DW
open PySem PySem.Spec PyProof.Rows L2
/-! ### several clauses that name the error -/
abbrev Cls3 := List (Value × (Addr → Value → Option Addr → TS))
/-- what the clauses wish, one behind the other; the name has slot i -/
def wNamed (K : PySem.W.Frag) (i : Nat) (Wout : WX) (D : Ends) : Cls3 → WX
  | [] => Wout
  | (c, ts) :: r => wAs K c i ts (wNamed K i Wout D r) D
inductive HdsAs (X : Cx) (n : Str) : List ExceptHandler → Cls3 → Prop
  | nil : HdsAs X n [] []
  | cons {x : Str} {c : Value} {ts : Addr → Value → Option Addr → TS} {b₀ : Stmt} {suite : List Stmt} {np pos' : Pos} {hds : List ExceptHandler} {l : Cls3} (hc : Names X x c)
      (hsu : ∀ (a : Addr) (oe : Obj) (cls : Value) (d : Option Addr) (pn : List (Addr × Obj)), Zc cls d oe → (∃ vs, oe.data = .fields vs) → PSs (X.suite a ((a, oe) :: pn)) (b₀ :: suite) (ts a cls d)) (r : HdsAs X n hds l) :
      HdsAs X n (.ExceptHandler (some (.Name x np)) (some n) (b₀ :: suite) pos' :: hds) ((c, ts) :: l)
section
variable {X : Cx} {n : Str} {i : Nat} {pins : List (Addr × Obj)} {B : Heap} {a : Addr} {cls : Value} {d : Option Addr} {σ : L2.St} {H : Hp} {sI s' : Shared} {D : Ends} {Wout : WX} {h3 : Heap}
/-- an exception that has landed goes through the clauses -/
theorem named_go (hs : X.stack = X.env :: X.outer) (hf : X.env.frame = some X.env.locals) (hN : X.N.Nodup) (hi : X.N[i]? = some n) (hln : X.env.kindOf n = some .local) (tk : Takes X Wout) (ok : X.Ok) (J : Inv X pins σ H sI) (nb : ∀ b o, sI.heap.get? b = some o → b ∉ frs X.stack → B.get? b = some o) (up : sI.heap.UpToSlots h3)
    (fl3 : HandSPX.FlyingZ B (X.env :: X.outer) a (Zc cls d) h3) (na : H a = none) (os : s'.os = sI.os) (ag : AllBare s'.gens) (nL : a ≠ X.env.locals) (nF : a ∉ X.fs) :
    ∀ {hds : List ExceptHandler} {l : Cls3}, HdsAs X n hds l → wNamed X.K i Wout D l cls d σ H → wpAny (model X.prog X.w) X.A (handleBy (.ref a) X.env hds) (SP X pins D) X.xe { s' with heap := h3 } := by
  intro hds l hk
  have hloc : Loc X.env.scope n := .inl hln
  obtain ⟨oe3, vs3, he3, hz3, hd3⟩ := fl3.there
  have J3 : Inv X pins σ H { s' with heap := h3 } := J.landed nb fl3.1 up os ag
  have S3 := J3.suite he3 hd3 na nL nF
  induction hk with
  | nil =>
    intro w
    refine wpAny_handleBy_nil ?_
    obtain ⟨k1, k2, k3, oe, vs, T, oT, ts', he, hz, hd, h1, hr⟩ := id fl3
    unfold PySem.passOn
    refine wpAny_bind (wpAny_field he hd h1 ?_)
    rw [if_neg (show ¬ ((Value.ref T == Value.none) = true) from by simp)]
    have fin : wpAny (model X.prog X.w) X.A (setFlight (.ref a) X.env.frame) (fun _ s4 => wpAny (model X.prog X.w) X.A (throw (.ref a) : Sem Flow) (SP X pins D) X.xe s4) X.xe { s' with heap := h3 } := by
      rw [hf]
      refine HandSPX.setFlight_upZ fl3 fun h4 hh4 up4 => wpAny_throw (tk _ _ ?_)
      exact ⟨a, B, sI, pins, σ, H, cls, d, rfl, J, nb, up.trans up4, .inr (.inr (by rw [hs]; exact hh4)), na, os, ag, w⟩
    first
      | exact wpAny_bind (wpAny_pure (wpAny_bind fin))
      | exact wpAny_bind fin
  | @cons x c ts b₀ suite np pos' hds2 l2 hc hsu r ih =>
    intro w
    obtain ⟨b, hb1, hyes, hno⟩ := w
    refine wpAny_handleBy_cons (codeAny_handlers_test ?_) (by intro q; cases q)
    have LT : PySem.W.Looks (model X.prog X.w) h3 (typeOf (.ref a)) cls := fun A Q E s k q => wpAny_typeOf_ref (k _ _ he3) (by rw [hz3.1]; exact q)
    have LM := PySem.W.exm_one (M := model X.prog X.w) (J3.kIn) LT hb1
    have test : ∀ {Q : Value → Shared → Prop} {E : Value → Shared → Prop}, Q c { s' with heap := h3 } → wpAny (model X.prog X.w) (X.A.mark (some (.ref a))) (eval (.Name x np) X.env) Q E { s' with heap := h3 } := fun {Q E} q => by
      obtain ⟨hg, hdbg, hm | ⟨hm, hv, hnn⟩⟩ := hc
      · exact ld_glob (X := X.suite a ((a, oe3) :: (X.pn ++ pins))) S3 hg hm q hdbg
      · exact ld_blt (X := X.suite a ((a, oe3) :: (X.pn ++ pins))) S3 hg hm hv q hnn hdbg
    refine test (LM.here ?_)
    cases b with
    | false =>
      show wpAny _ X.A (handleBy (.ref a) X.env hds2) _ _ _
      exact ih (hno rfl)
    | true =>
      refine codeAny_handlers_suite_as ?_
      refine HandSPX.lands_againZ fl3 fun h4 fl4 up4 => ?_
      have J4 : Inv X pins σ H { s' with heap := h4 } := J.landed nb fl4.1 (up.trans up4) os ag
      obtain ⟨oe4, vs4, he4, hz4, hd4⟩ := fl4.there
      have S4 := J4.suite he4 hd4 na nL nF
      refine store_ok (X := X.suite a ((a, oe4) :: (X.pn ++ pins))) (v := .ref a) S4 hN hi hloc rfl (fun s5 S5 => ?_) (.inr hln)
      have gone : ∀ {σ6 : L2.St} {H6 : Hp} {s6 : Shared} {Q : Shared → Prop}, Inv (X.suite a ((a, oe4) :: (X.pn ++ pins))) [] σ6 H6 s6 → (∀ s7, Inv X pins (σ6.set i none) H6 s7 → Q s7) →
          wpAny (model X.prog X.w) X.A (do bindName X.env n .none; unbindBehindTheSuite X.env n pos') (fun _ s7 => Q s7) X.xe s6 := fun {σ6 H6 s6 Q} S6 hq => gone_ok (S6.unsuite ok) hN hi hln hq
      refine wpAny_mono ((hsu a oe4 cls d (X.pn ++ pins) hz4 ⟨_, hd4⟩).run [] s5 _ H _ S5 (hyes rfl a na)) (fun f s6 hsp => ?_) (fun _ _ z => False.elim z)
      cases f with
      | next =>
        obtain ⟨σ6, H6, S6, q6⟩ := hsp
        exact gone S6 fun s7 J7 => ⟨_, _, J7, q6⟩
      | brk =>
        obtain ⟨σ6, H6, S6, q6⟩ := hsp
        exact gone S6 fun s7 J7 => ⟨_, _, J7, q6⟩
      | cont =>
        obtain ⟨σ6, H6, S6, q6⟩ := hsp
        exact gone S6 fun s7 J7 => ⟨_, _, J7, q6⟩
      | ret u =>
        obtain ⟨v6, σ6, H6, S6, r6, q6⟩ := hsp
        exact gone S6 fun s7 J7 => ⟨_, _, _, J7, r6, q6⟩
end
theorem ps_try_named {X : Cx} {n : Str} {i : Nat} {body : List Stmt} {h₀ : ExceptHandler} {hds : List ExceptHandler} {l : Cls3} {pos : Pos} {tb : WX → TS} {Wout : WX} (hs : X.stack = X.env :: X.outer) (hf : X.env.frame = some X.env.locals) (hN : X.N.Nodup) (hi : X.N[i]? = some n) (hln : X.env.kindOf n = some .local) (tk : Takes X Wout)
    (hb : ∀ (W : WX) (pn : List (Addr × Obj)) (xe : Value → Shared → Prop), Takes (X.tr pn xe) W → PassesOwn (model X.prog X.w) X.A X.env xe → PSs (X.tr pn xe) body (tb W))
    (hh : HdsAs X n (h₀ :: hds) l) : PS X (.Try body (h₀ :: hds) [] [] pos) (fun D σ H => tb (wNamed X.K i Wout D l) D σ H) := by
  refine ⟨fun pins s σ H D I h => ?_⟩
  have ok := I.ok
  have hfr : X.A.frames = some (X.env :: X.outer) := by rw [ok.frames, hs]
  refine wpAny_Try_except ?_
  refine wpAny_mono ((hb (wNamed X.K i Wout D l) (X.pn ++ pins) (fun e s₁ => wpAny (model X.prog X.w) X.A (noteFrame e X.env) (fun _ s₂ => wpAny (model X.prog X.w) X.A (setFlight e none) (fun _ s₃ =>
    wpAny (model X.prog X.w) X.A (handleBy e X.env (h₀ :: hds)) (SP X pins D) X.xe s₃) X.xe s₂) X.xe s₁) (fun u s' xx => ?_) PassesOwn.looking).run [] s σ H D (I.toTry _) h) (fun f s1 hsp => ?_) (fun e s1 he => he)
  · obtain ⟨a, B, sI, pins', σ', H', cls, d, rfl, J', nb, up, sky, na, os, ag, w⟩ := xx
    have J : Inv X pins σ' H' sI := J'.ofTry ok
    have sky' : Sky B (X.env :: X.outer) a (Zc cls d) X.env.locals s'.heap := by rw [← hs]; exact sky
    show wpAny (model X.prog X.w) X.A (noteFrame (.ref a) X.env) _ _ _
    refine Sky.land Zc.steady hfr hf sky' fun h3 fl3 up3 => ?_
    obtain ⟨oe3, vs3, he3, hz3, hd3⟩ := fl3.there
    have nfr : a ∉ frs (X.env :: X.outer) := fun hm => by
      obtain ⟨_, o', e', hnf⟩ := fl3.2.2.1.mem hm
      rw [he3] at e'
      cases e'
      exact hnf _ hd3
    refine named_go hs hf hN hi hln tk ok J nb (up.trans up3) fl3 na os ag (fun z => nfr (List.mem_filterMap.mpr ⟨X.env, List.mem_cons_self, by rw [hf, z]⟩)) (fun hm => ?_) hh w
    obtain ⟨e, he, q⟩ := List.mem_filterMap.mp hm
    exact nfr (List.mem_filterMap.mpr ⟨e, List.mem_cons_of_mem _ he, q⟩)
  · cases f with
    | next =>
      obtain ⟨σ', H', J', q⟩ := hsp
      exact wpAny_execs_nil ⟨σ', H', J'.ofTry ok, q⟩
    | brk =>
      obtain ⟨σ', H', J', q⟩ := hsp
      exact ⟨σ', H', J'.ofTry ok, q⟩
    | cont =>
      obtain ⟨σ', H', J', q⟩ := hsp
      exact ⟨σ', H', J'.ofTry ok, q⟩
    | ret u =>
      obtain ⟨v, σ', H', J', r, q⟩ := hsp
      exact ⟨v, σ', H', J'.ofTry ok, r, q⟩
end DW

set_option maxRecDepth 100000
set_option maxHeartbeats 4000000
namespace PySem
namespace KErr
open PySem.W PySem.Calls PyProof.Rows PySem.HandSPX
/-! ### isinstance of a caught own error that has a dict -/
section
variable {prog : Program} {w : World} {A : Around} {E : Value → Shared → Prop} {s : Shared} {K : Frag} {x D : Addr} {ox : Obj} {od : Option Obj}
theorem find_cls (C : L2.ExcC K D) : findObj K D od "__class__" = some (.bind (.builtin "getset_descriptor.__get__") (.builtin "object.__class__")) := by
  obtain ⟨cd, hc, _⟩ := any_some C.hd
  unfold findObj
  rw [hc, Option.bind_some, C.ha, Option.bind_some]
  simp [C.hn, C.ht]
theorem own_class (C : L2.ExcC K D) {Q : Option Value → Shared → Prop} (X : K.In s.heap) (I : InstAt s.heap x ox D od) (h : Q (some (.ref D)) { s with toks := s.toks + 1 }) : wpAny (model prog w) A (getAttr? (.ref x) "__class__") Q E s := by
  obtain ⟨hp, g, d, t, os⟩ := s
  have ty := I.type (M := model prog w)
  have lga := looks_findIn (M := model prog w) X C.hg
  have lgt := looks_findIn (M := model prog w) X C.hk
  have lfo := looks_find (M := model prog w) X I (find_cls C)
  have isx : Looks (model prog w) hp (isInstance (.ref x) (.type "BaseException")) true := ty.andThen (looks_subIn X C.hs)
  have e1 : (Value.builtin "BaseException.__getattribute__" == Value.builtin "object.__getattribute__") = false := by decide +kernel
  have e2 : (onTheHeap (Value.ref D) && Value.builtin "BaseException.__getattribute__" == Value.builtin "object.__getattribute__") = false := by rw [e1]; rfl
  have e3 : (false && onTheHeap (Value.builtin "BaseException.__getattribute__")) = false := rfl
  unfold getAttr? getAttrBy? getAttrBy
  refine wpAny_bind (wpAny_mkText (wpAny_bind (wpAny_attempt (wpAny_holding (wpAny_bind (ty.at (wpAny_bind (lga.at ?_))))))))
  show wpAny _ _ (if (onTheHeap (Value.ref D) && Value.builtin "BaseException.__getattribute__" == Value.builtin "object.__getattribute__") = true then _ else _) _ _ _
  rw [e2, if_neg Bool.false_ne_true]
  unfold getAttrByItsOwn hookBefore
  refine wpAny_bind ?_
  rw [if_pos (show onTheHeap (Value.ref D) = true from rfl)]
  refine lgt.at ?_
  refine wpAny_bind (wpAny_attempt (wpAny_holding ?_))
  unfold callGetattribute
  rw [e3, if_neg Bool.false_ne_true]
  unfold boundAndCalled
  rw [PySem.F.excAttr_ValueError.ga.bind (.ref x)]
  refine wpAny_bind (wpAny_pure ?_)
  show wpAny _ _ (call (.builtin "BaseException.__getattribute__") [.ref x, .str "__class__" t]) _ _ _
  refine wpAny_call (codeAny_call_builtin PySem.F.excAttr_ValueError.ga.plain PySem.F.entry_bexc_ga ?_)
  refine @check_slot (model prog w) _ _ ⟨hp, g, d, t + 1, os⟩ "BaseException.__getattribute__" "BaseException" "__getattribute__" (.ref x) [.str "__class__" t] [] _ (by decide +kernel) (by decide +kernel) isx (PySem.F.args_bexc_ga (.ref x) (.str "__class__" t)) ?_
  unfold Builtin.«object.__getattribute__»
  refine wpAny_bind (wpAny_of_eq (a := ((Value.ref x : Value), [Value.str "__class__" t])) (by first | rfl | (simp only [slotArgs]; rfl)) ?_)
  refine wpAny_bind (wpAny_pure (wpAny_bind (ty.at (wpAny_bind (lfo.at ?_)))))
  show wpAny _ _ (holding [Value.builtin "object.__class__"] (call (.builtin "getset_descriptor.__get__") [.builtin "object.__class__", .ref x, .ref D]) >>= ret) _ _ _
  refine wpAny_bind (wpAny_holding (wpAny_call (class_get (s := ⟨hp, g, d, t + 1, os⟩) (ox := ox) (od := od) X I C.hm ?_)))
  refine wpAny_pure ?_
  show wpAny _ _ (handedOut (.ref D)) _ _ _
  rw [handedOut_of (v := .ref D) rfl]
  first
    | exact wpAny_pure (wpAny_pure h)
    | exact wpAny_pure h
    | exact wpAny_pure (wpAny_bind (wpAny_pure (wpAny_pure h)))
theorem kitx_own (C : L2.ExcC K D) : KitX K (.ref x) (.ref D) (fun h => InstAt h x ox D od) where
  ty := fun _ _ _ I => I.type
  it := fun _ _ X _ => by
    obtain ⟨cd, hc, _⟩ := any_some C.hd
    unfold clsIn at hc
    split at hc
    · rename_i c' d' cd' sl' ho
      intro A' Q' E' s' k q
      unfold isType loadHead
      exact wpAny_bind (wpAny_loadPart (k _ _ (X _ _ ho)) (wpAny_pure q))
    · cases hc
  ne := fun h tp dd its n sl X htp => by
    obtain ⟨cd, hc, _⟩ := any_some C.hd
    refine Bool.eq_false_iff.mpr fun q => ?_
    have e : D = tp := Value.ref.inj (beq_iff_eq.mp q)
    subst e
    unfold clsIn at hc
    split at hc
    · rename_i c' d' cd' sl' ho
      have z := (X _ _ ho).symm.trans htp
      cases z
    · cases hc
  ca := fun X I k => own_class C X I k
end
end KErr
end PySem
namespace DW
open PySem PySem.Spec PyProof.Rows L2
/-- isinstance(e, c), e the error that the suite holds, its class D, its dict tracked -/
def rIsF (K : PySem.W.Frag) (D a : Addr) (cls : Value) (d : Option Addr) : List V → Hp → VK → Prop := fun xs H Q => ∃ (c : V) (cv : Value) (b : Bool) (dd : Addr) (fs : List (Str × V)), xs = [.ref a, c] ∧ cls = .ref D ∧ d = some dd ∧ H dd = some (.xd fs) ∧ (∀ u, RelV c u → u = cv) ∧ PySem.W.kitOne K (.ref D) cv = some b ∧ Q (.bl b) H
theorem call_isF {X : Cx} {a D : Addr} {oe : Obj} {cls : Value} {d : Option Addr} {pn : List (Addr × Obj)} (C : ExcC X.K D) (hz : Zc cls d oe) (hf : ∃ vs, oe.data = .fields vs) : CallR (X.suite a ((a, oe) :: pn)) (.builtin "isinstance") (rIsF X.K D a cls d) := by
  intro pins s σ H xs us Q I r h
  obtain ⟨c, cv, b, dd, fs, rfl, rfl, rfl, hdd, hcv, e, q⟩ := h
  cases r with
  | cons rx rr =>
    cases rr with
    | cons rt rr =>
      cases rr
      cases rx
      have ec := hcv _ rt
      subst ec
      obtain ⟨hget, _⟩ := I.pin (a, oe) (List.mem_append.mpr (.inl List.mem_cons_self))
      obtain ⟨vs, hv⟩ := hf
      have hx : ObjOk X.prog X.w H s.heap dd (.xd fs) := I.hok dd _ hdd
      obtain ⟨mA, hns, _⟩ := hx
      obtain ⟨od, ho, _⟩ := lookIn_ns hns
      have J : PySem.W.InstAt s.heap a oe D (some od) := ⟨hget, hz.1, by unfold PySem.W.notCls; rw [hv] <;> rfl, by rw [hz.2]; exact ho⟩
      exact PySem.W.kia_one (KErr.kitx_own C) I.kIn J e (fun z => nomatch z) fun tk => ⟨.bl b, H, I.kept (t' := tk) fun _ _ z => z, rfl, q⟩
/-! ### a call of a name that holds one of some defs -/
def tCallO (i : Nat) (F : Addr → Prop) (sp : Sp) (E : XK) (t : TA) : TE := fun σ H Q => ∃ f, σ[i]? = some (some (.ref f)) ∧ F f ∧ t σ H fun vs H1 => sp vs H1 Q E
theorem pe_callO {X : Cx} {k i : Nat} {F : Addr → Prop} {sp : Sp} {E : XK} {x : Str} {p pos : Pos} {e : Expr} {es : List Expr} {t : TA} (hF : ∀ f, F f → ∃ (fd : FuncData) (ps : List Str), FnOk X.prog X.w X.K X.mg X.base (L2.CX X.prog X.w) k f fd ps sp ∧ PySem.W.keepIn X.K (.ref f) = true ∧ Binds X.K fd ps [])
    (hr : Room k X.A) (hN : X.N[i]? = some x) (hv : Vis X.env.scope x) (tk : Takes X (wE E)) (ha : PA X (e :: es) t)
    (hdb : (x == ("__debug__" : Str)) = false := by decide) (hcd : (x == ("__classdict__" : Str)) = false := by decide)
    (he : starEach (e :: es) X.env = (false, eval e X.env) :: starEach es X.env := by rfl) (hpl : (backTo pos (starEach es X.env)).any (·.1) = false := by rfl) : PE X (.Call (.Name x p) (e :: es) [] pos) (tCallO i F sp E t) := by
  refine ⟨fun pins s σ H Q I h => ?_⟩
  obtain ⟨f, hs, hf, ht⟩ := h
  obtain ⟨fd, ps, FO, hk, hb⟩ := hF f hf
  have e0 : (fun (vs : List V) (H1 : Hp) => sp (vs ++ []) H1 Q E) = fun vs H1 => sp vs H1 Q E := by
    funext vs H1
    rw [List.append_nil]
  refine (pe_callL (i := i) (f := f) (sp := sp) (dvs := []) (E := E) FO hr hN hv hk hb .nil (passes_call tk fun _ _ _ _ h => h) ha hdb hcd he hpl).run pins s σ H Q I ⟨hs, ?_⟩
  show t σ H (fun vs H1 => sp (vs ++ []) H1 Q E)
  rw [e0]
  exact ht
end DW

set_option maxRecDepth 100000
set_option maxHeartbeats 2000000
namespace DW
open PySem PySem.Spec PyProof.Rows L2 LamX
/-! ### _law_fault: what a call raises -/
theorem takes_len {X : Cx} {W : WX} (tk : Takes X W) : Takes X (fun cls d σ H => σ.length = X.N.length → W cls d σ H) := fun u s' ⟨a, B, sI, pins, σ, H, cls, d, e, I, nb, up, sky, na, os, ag, w⟩ =>
  tk u s' ⟨a, B, sI, pins, σ, H, cls, d, e, I, nb, up, sky, na, os, ag, w I.len⟩
structure XTxt (K : PySem.W.Frag) (mg : Str → Option Value) (CR CT CN CB : Addr) : Prop where
  gR : mg "Refused" = some (.ref CR)
  gT : mg "TooGreat" = some (.ref CT)
  gN : mg "NoCheck" = some (.ref CN)
  gB : mg "BatchError" = some (.ref CB)
  gK : mg "KeyError" = none
  rr : PySem.W.exmOne K (.ref CR) (.ref CR) = some true
  nr : PySem.W.exmOne K (.ref CN) (.ref CR) = some false
  nt : PySem.W.exmOne K (.ref CN) (.ref CT) = some false
  nn : PySem.W.exmOne K (.ref CN) (.ref CN) = some true
  fR : XfC K CR
  fT : XfC K CT
  fN : XfC K CN
  aR : PySem.W.findIn K (.ref CR) "at" = some none
  aT : PySem.W.findIn K (.ref CT) "most" = some none
  aN : PySem.W.findIn K (.ref CN) "check" = some none
  eR : ExcC K CR
  eT : ExcC K CT
  eN : ExcC K CN
  kR : PySem.W.kitOne K (.ref CR) (.ref CB) = some true
  kN : PySem.W.kitOne K (.ref CN) (.type "KeyError") = some true
theorem bt_KeyError : bootBuiltins "KeyError" = some (.type "KeyError") := by decide +kernel
/-- the two errors, and what is made of each -/
def EFault (CR CN : Addr) (Q : VK) : XK := fun cls d H' => ∃ (dd : Addr) (fld : Str) (v : V) (x : PyData) (Hk : Hp), d = some dd ∧ Ex Hk H' ∧ Hk dd = some (.xd [(fld, v)]) ∧ Rp Hk v x ∧ Shows x ∧
  ((cls = .ref CR ∧ fld = "at" ∧ ∀ p, H' p = none → Q (.ref p) (upd H' p (.lst [.str "refused", .str x.shown, .bl true]))) ∨ (cls = .ref CN ∧ fld = "check" ∧ ∀ p, H' p = none → Q (.ref p) (upd H' p (.lst [.str "check", .str x.shown, .bl true]))))
def TTF (CR CN : Addr) : (XK → Hp → VK → Prop) → Hp → VK → Prop := fun tl H Q => ∀ Qn : VK, tl (EFault CR CN Q) H Qn
abbrev st__law_fault : Stmt := topS 59
abbrev N__law_fault : List Str := ["_law_call", "fault"]
theorem sc__law_fault : FnScope N__law_fault ["_law_call"] (defScope st__law_fault) := ⟨rfl, rfl, rfl, by decide +kernel, rfl, by decide +kernel, by decide +kernel⟩
theorem fault_gives {X : Cx} {CR CT CN CB g : Addr} {cdg : Value} {q : Str} (T : Nm X.mg) (F : XTxt X.K X.mg CR CT CN CB) (hG : X.A.guards = some []) (hu : X.A.units + 100 < cLine) :
    GivesTo X N__law_fault "_law_fault" (defScope st__law_fault) g cdg (defBody st__law_fault) "_law_call" q (TTF CR CN) := by
  intro f c' s H Q tl act hc h
  have rp : ∀ (a : Addr) (oe : Obj) (pn : List (Addr × Obj)), CallR ((cxOf C8.CX0 X.prog X.w X.K X.mg X.base N__law_fault "_law_fault" (defScope st__law_fault) g cdg X.A X.stack s H C8.E0).nox.suite a ((a, oe) :: pn)) (.builtin "repr") (rReprD X.K) :=
    fun a oe pn => cr_reprD (X := (cxOf C8.CX0 X.prog X.w X.K X.mg X.base N__law_fault "_law_fault" (defScope st__law_fault) g cdg X.A X.stack s H C8.E0).nox.suite a ((a, oe) :: pn)) hG (by show X.A.units + 3 + 64 < cLine; omega)
  refine ⟨_, pss_cons (ps_try_named (X := (cxOf C8.CX0 X.prog X.w X.K X.mg X.base N__law_fault "_law_fault" (defScope st__law_fault) g cdg X.A X.stack s H C8.E0).nox) (n := "fault") (i := 1)
      (tb := fun W D σ H => ∃ Ech : XK, (∀ cls d (σ' : L2.St) H', Ech cls d H' → σ'.length = 2 → W cls d σ' H') ∧ σ[0]? = some (some (.ref f)) ∧ H c' = some (CodeO c' q) ∧ tl Ech H (fun _ H' => D.nx σ H'))
      rfl rfl sc__law_fault.nd rfl rfl L2.takes0 (fun W pn xe tk _ => ?_)
      (.cons (c := .ref CR) ⟨by rfl, by decide, .inl F.gR⟩ (fun a oe cls d pn hz hf => pss_one (ps_ret (pe_lst (pa_cons pe_str (pa_cons (pe_callB (rp a oe pn) (by rfl) T.repr bt_repr (pa_cons (pe_xf F.fR F.aR hz hf (pv 1)) pa_nil)) (pa_cons (pe_callB (call_isF F.eR hz hf) (by rfl) T.isinstance bt_isinstance (pa_cons (pv 1) (pa_cons (pe_glob (v := .ref CB) (by rfl) F.gB rfl) pa_nil))) pa_nil))))))
      (.cons (c := .ref CT) ⟨by rfl, by decide, .inl F.gT⟩ (fun a oe cls d pn hz hf => pss_one (ps_ret (pe_lst (pa_cons pe_str (pa_cons (pe_xf F.fT F.aT hz hf (pv 1)) (pa_cons (pe_callB (call_isF F.eT hz hf) (by rfl) T.isinstance bt_isinstance (pa_cons (pv 1) (pa_cons (pe_glob (v := .ref CB) (by rfl) F.gB rfl) pa_nil))) pa_nil))))))
      (.cons (c := .ref CN) ⟨by rfl, by decide, .inl F.gN⟩ (fun a oe cls d pn hz hf => pss_one (ps_ret (pe_lst (pa_cons pe_str (pa_cons (pe_callB (rp a oe pn) (by rfl) T.repr bt_repr (pa_cons (pe_xf F.fN F.aN hz hf (pv 1)) pa_nil)) (pa_cons (pe_callB (call_isF F.eN hz hf) (by rfl) T.isinstance bt_isinstance (pa_cons (pv 1) (pa_cons (pe_bltn (v := .ty "KeyError") (by rfl) F.gK bt_KeyError rfl) pa_nil))) pa_nil)))))) .nil))))
    (pss_one (ps_ret (pe_lst (pa_cons pe_str (pa_cons pe_str (pa_cons pe_bl pa_nil)))))), ?_⟩
  · refine ⟨fun pins s' σ H' D I h' => ?_⟩
    obtain ⟨Ech, hW, h1, h2, h3⟩ := h'
    have hp := fun p1 p2 => act (fun cls d σ H => σ.length = N__law_fault.length → W cls d σ H) pn xe Ech p1 p2 (takes_len tk) (fun cls d σ' H' hE hl => hW cls d σ' H' hE hl)
    exact (pss_one (ps_expr (hp _ _))).run pins s' σ H' D I ⟨h1, h2, h3⟩
  · refine ⟨EFault CR CN Q, fun cls d σ' H' hE hl => ?_, rfl, hc, h _⟩
    obtain ⟨dd, fld, v, x, Hk, rfl, ex, hdd, rx, sx, hc⟩ := hE
    obtain ⟨o0, o1, rfl⟩ : ∃ o0 o1, σ' = [o0, o1] := by
      match σ', hl with
      | [a, b], _ => exact ⟨a, b, rfl⟩
    have lk : List.lookup fld [(fld, v)] = some v := by simp [List.lookup]
    rcases hc with ⟨rfl, rfl, k⟩ | ⟨rfl, rfl, k⟩
    · refine ⟨true, F.rr, fun _ a na => ?_, fun z => by cases z⟩
      refine ⟨_, rfl, rfl, rfl, dd, _, v, rfl, ex _ _ hdd, lk, v, x, rfl, (rx.ex ex).dp, sx.sh, sx.nd, sx.dp, sx.sz, sx.it, ?_⟩
      refine ⟨_, rfl, .ref CB, .ref CB, true, dd, _, rfl, rfl, rfl, ex _ _ hdd, fun u hu => hu, F.kR, ?_⟩
      exact ⟨by show 3 ≤ sizeLine; decide, fun p hp => k p hp⟩
    · refine ⟨false, F.nr, (fun z => by cases z), fun _ => ⟨false, F.nt, (fun z => by cases z), fun _ => ⟨true, F.nn, fun _ a na => ?_, fun z => by cases z⟩⟩⟩
      refine ⟨_, rfl, rfl, rfl, dd, _, v, rfl, ex _ _ hdd, lk, v, x, rfl, (rx.ex ex).dp, sx.sh, sx.nd, sx.dp, sx.sz, sx.it, ?_⟩
      refine ⟨_, rfl, .ty "KeyError", .type "KeyError", true, dd, _, rfl, rfl, rfl, ex _ _ hdd, fun u hu => hu, F.kN, ?_⟩
      exact ⟨by show 3 ≤ sizeLine; decide, fun p hp => k p hp⟩
end DW

set_option maxRecDepth 100000
set_option maxHeartbeats 1000000
namespace DW
open PySem PySem.Spec PyProof.Rows L2 LamX
/-! ### where tables of code objects grow -/
def noTb (Hk : Hp) : Hp := fun a => match Hk a with
  | some (.tbl _) => none
  | o => o
theorem noTb_of {Hk : Hp} {a : Addr} {o : HO} (h : noTb Hk a = some o) : Hk a = some o ∧ ∀ ps, o ≠ .tbl ps := by
  unfold noTb at h
  split at h
  · cases h
  · rename_i h1
    exact ⟨h, fun ps z => h1 ps (by rw [h, z])⟩
theorem noTb_to {Hk : Hp} : ExtN Hk (noTb Hk) := fun a o h n => by
  unfold noTb
  rw [h]
  cases o with
  | tbl ps => exact absurd rfl (n ps)
  | _ => rfl
theorem noTb_none {Hk : Hp} {a : Addr} (h : Hk a = none) : noTb Hk a = none := by
  unfold noTb
  rw [h]
theorem noTb_ex {Hk H : Hp} (e : ExtN Hk H) : Ex (noTb Hk) H := fun a o h => e a o (noTb_of h).1 (noTb_of h).2
theorem noTb_le {Hk : Hp} : Ex (noTb Hk) Hk := fun a o h => (noTb_of h).1
mutual
theorem Rp.exN {H H' : Hp} (e : ExtN H H') : ∀ {v : V} {d : PyData}, Rp H v d → Rp H' v d
  | _, _, .non => .non
  | _, _, .bl b => .bl b
  | _, _, .int i => .int i
  | _, _, .str x => .str x
  | _, _, .lst h r => .lst (e _ _ h fun _ z => by cases z) (r.exN e)
  | _, _, .tup h r => .tup (e _ _ h fun _ z => by cases z) (r.exN e)
theorem RpA.exN {H H' : Hp} (e : ExtN H H') : ∀ {vs : List V} {ds : List PyData}, RpA H vs ds → RpA H' vs ds
  | _, _, .nil => .nil
  | _, _, .cons r t => .cons (r.exN e) (t.exN e)
end
theorem FsOk.exN {H H' : Hp} (e : ExtN H H') : ∀ {vs : List (Str × V)} {ds : List (Str × PyData)}, FsOk H vs ds → FsOk H' vs ds
  | _, _, .nil => .nil
  | _, _, .cons r t => .cons (r.exN e) (t.exN e)
theorem At.noTb {ρ : En} {Hk : Hp} {σ : L2.St} {H : Hp} (a : At ρ Hk σ H) : At ρ (noTb Hk) σ H := by
  refine ⟨noTb_le.trans a.kh, a.len, fun i s h => ?_, a.inj⟩
  obtain ⟨v, h1, h2⟩ := a.en i s h
  refine ⟨v, h1, ?_⟩
  have e := noTb_to (Hk := Hk)
  cases s with
  | kn d => exact h2.exN e
  | ow p ds =>
    obtain ⟨l, xs, rfl, k1, k2, k3⟩ := h2
    exact ⟨l, xs, rfl, noTb_none k1, k2, k3.exN e⟩
  | obj C fs =>
    obtain ⟨p, dx, vs, rfl, k1, k2⟩ := h2
    exact ⟨p, dx, vs, rfl, e _ _ k1 (fun _ z => by cases z), k2.exN e⟩
  | objP pp C fs =>
    obtain ⟨dx, vs, rfl, k1, k2⟩ := h2
    exact ⟨dx, vs, rfl, e _ _ k1 (fun _ z => by cases z), k2.exN e⟩
  | raw u => exact h2
  | scr K ns =>
    obtain ⟨p, rfl, k1⟩ := h2
    refine ⟨p, rfl, k1.elim (fun h => .inl (h.elim (fun h => .inl (e _ _ h (fun _ z => by cases z))) fun ⟨o, h⟩ => .inr ⟨o, e _ _ h (fun _ z => by cases z)⟩)) fun h => .inr h⟩
  | dic ks =>
    obtain ⟨p, rfl, k1⟩ := h2
    exact ⟨p, rfl, e _ _ k1 (fun _ z => by cases z)⟩
/-- the heap alone goes on, its tables grow -/
theorem At.exN {ρ : En} {Hk : Hp} {σ : L2.St} {H H' : Hp} (a : At ρ (DW.noTb Hk) σ H) (e : ExtN H H') : At ρ (DW.noTb Hk) σ H' := by
  refine ⟨fun x o h => e x o (a.kh x o h) (noTb_of h).2, a.len, fun i s h => ?_, a.inj⟩
  obtain ⟨v, h1, h2⟩ := a.en i s h
  refine ⟨v, h1, ?_⟩
  cases s with
  | ow p ds =>
    obtain ⟨l, xs, rfl, k1, k2, k3⟩ := h2
    exact ⟨l, xs, rfl, k1, e _ _ k2 (fun _ z => by cases z), k3⟩
  | kn d => exact h2
  | obj C fs => exact h2
  | objP pp C fs => exact h2
  | raw u => exact h2
  | scr K ns => exact h2
  | dic ks => exact h2
section
variable {T : List (Addr × Str)} {ρ ρ1 ρ2 ρb : En} {t u tb : TS} {o : Oc} {te ty : TE} {x y : PyData} {b c : Bool} {j : Nat}
theorem tabs_gr {Hk Hk' : Hp} {σ : L2.St} {H H' : Hp} (a : At ρ Hk σ H) (g : Gr (Owns σ ρ) Hk H Hk' H') (t : Tabs T H) : Tabs T H' := fun p hp => by
  have keep : ∀ b o, H b = some o → (∀ xs, o ≠ .lst xs) → H' b = some o := fun b o h n => g.keep b o h fun z => by
    obtain ⟨_, xs, e⟩ := a.owned z
    rw [h] at e
    exact n xs (Option.some.inj e)
  obtain ⟨ps, h1, h2, h3⟩ := t p hp
  refine ⟨ps, keep _ _ h1 (fun _ z => by cases z), h2, fun pos cv hc => ?_⟩
  obtain ⟨c, e1, e2⟩ := h3 pos cv hc
  exact ⟨c, e1, keep _ _ e2 (fun _ z => by unfold CodeO at z; cases z)⟩
def SL (T : List (Addr × Str)) (ts : TS) (ρ : En) (o : Oc) : Prop := ∀ (Hk : Hp) (σ : L2.St) (H : Hp) (D : Ends), At ρ Hk σ H → Tabs T H → (∀ Hk' σ' H', At o.en Hk' σ' H' → Tabs T H' → ExtN Hk Hk' → o.got D Hk' σ' H') → ts D σ H
def EvL (T : List (Addr × Str)) (te : TE) (ρ : En) (d : PyData) : Prop := ∀ (Hk : Hp) (σ : L2.St) (H : Hp), At ρ Hk σ H → Tabs T H → ∀ Q : VK, (∀ v Hk' H', At ρ Hk' σ H' → Tabs T H' → ExtN Hk Hk' → Rp Hk' v d → Q v H') → te σ H Q
def EBL (T : List (Addr × Str)) (tt : TT) (ρ : En) (b : Bool) : Prop := ∀ (Hk : Hp) (σ : L2.St) (H : Hp), At ρ Hk σ H → Tabs T H → ∀ Q : Bool → Hp → Prop, (∀ Hk' H', At ρ Hk' σ H' → Tabs T H' → ExtN Hk Hk' → Q b H') → tt σ H Q
theorem sl_sd (h : SD t ρ o) : SL T t ρ o := fun Hk σ H D a tb q => h Hk σ H D a fun Hk' σ' H' g => q Hk' σ' H' g.at' (tabs_gr a g.gr tb) (ExtN.of g.gr.kk)
theorem sl_seq (h1 : SL T t ρ (.nx ρ1)) (h2 : SL T u ρ1 o) : SL T (tSeq t u) ρ o := fun Hk σ H D a tb q =>
  h1 Hk σ H { D with nx := u D } a tb fun Hk1 σ1 H1 a1 tb1 e1 => h2 Hk1 σ1 H1 D a1 tb1 fun Hk2 σ2 H2 a2 tb2 e2 => q Hk2 σ2 H2 a2 tb2 (e1.trans e2)
theorem sl_F {tc : TT} (h : EBL T tc ρ false) (h1 : SL T u ρ o) : SL T (tIfS tc t u) ρ o := fun Hk σ H D a tb q =>
  h Hk σ H a tb _ fun Hk1 H1 a1 tb1 e1 => by
    rw [if_neg Bool.false_ne_true]
    exact h1 Hk1 σ H1 D a1 tb1 fun Hk2 σ2 H2 a2 tb2 e2 => q Hk2 σ2 H2 a2 tb2 (e1.trans e2)
theorem SL.weak (h : SL T t ρ (.nx ρ1)) (l : Le ρ2 ρ1) : SL T t ρ (.nx ρ2) := fun Hk σ H D a tb q => h Hk σ H D a tb fun Hk' σ' H' a' tb' e => q Hk' σ' H' (a'.less l) tb' e
theorem ebl_of {tt : TT} (h : EvB tt ρ b ρ) : EBL T tt ρ b := fun Hk σ H a tb Q q => h Hk σ H a Q fun Hk' H' g => q Hk' H' g.at' (tabs_gr a g.gr tb) (ExtN.of g.gr.kk)
theorem EBL.to {tt : TT} (h : EBL T tt ρ b) (e : b = c) : EBL T tt ρ c := e ▸ h
theorem ebl_and {ta tu : TT} (h : EBL T ta ρ b) (h2 : b = true → EBL T tu ρ c) : EBL T (tAnd ta tu) ρ (b && c) := fun Hk σ H A tb Q q => h Hk σ H A tb _ fun Hk' H' a1 tb1 e1 => by
  cases b with
  | true =>
    rw [if_pos rfl]
    exact h2 rfl Hk' σ H' a1 tb1 Q fun Hk2 H2 a2 tb2 e2 => q Hk2 H2 a2 tb2 (e1.trans e2)
  | false =>
    rw [if_neg Bool.false_ne_true]
    exact q Hk' H' a1 tb1 e1
theorem ebl_ne {K : PySem.W.Frag} (h : EvL T te ρ x) (hy : EvD ty ρ y ρ) (h1 : SeqAt.shaped x = true) (h2 : SeqAt.shaped y = true) : EBL T (tTest (tOp (rNeD K) te ty)) ρ (!PyData.eqv x y) := fun Hk σ H a tb Q q =>
  h Hk σ H a tb _ fun v Hk1 H1 a1 tb1 e1 r1 => hy Hk1 σ H1 a1 _ fun w Hk2 H2 g2 r2 =>
    ⟨x, y, ((r1.ex g2.gr.kk).ex g2.at'.kh).dp, (r2.ex g2.at'.kh).dp, h1, h2, _, rfl, q Hk2 H2 g2.at' (tabs_gr a1 g2.gr tb1) (e1.trans (ExtN.of g2.gr.kk))⟩
/-- for j in range(n) -/
theorem sl_rng {n : Int} (h0 : 0 ≤ n) (h1 : n < 2 ^ 62) (hp : ¬ Pin ρ j) (hb : ∀ k : Nat, k < n.toNat → ∃ ρb, SL T tb (ρ.set j (some (.kn (.int (k : Nat))))) (.nx ρb) ∧ Le ρ ρb) : SL T (tFor (iRng1 (tCons (tC (.int n)) tNil)) (gName j) tb) ρ (.nx ρ) := fun Hk σ H D a tb0 q => by
  refine ⟨n, rfl, by omega, h1, fun i m σ' H' => m = n.toNat - i ∧ i ≤ n.toNat ∧ ∃ Hk', At ρ Hk' σ' H' ∧ Tabs T H' ∧ ExtN Hk Hk', ⟨n.toNat, rfl, Nat.zero_le _, Hk, a, tb0, ExtN.refl _⟩, ?_⟩
  rintro i m σ' H' ⟨rfl, hi, Hk', a', tb', e'⟩
  by_cases hlt : i < n.toNat
  · refine .inr ⟨hlt, fun σ2 H2 => ∃ Hk2, At ρ Hk2 σ2 H2 ∧ Tabs T H2 ∧ ExtN Hk Hk2, fun σ2 H2 ⟨Hk2, a2, tb2, e2⟩ => ⟨n.toNat - (i + 1), by omega, rfl, hlt, Hk2, a2, tb2, e2⟩, fun x H2 y => ?_⟩
    obtain ⟨rfl, rfl⟩ := y
    obtain ⟨ρb, hs, hl⟩ := hb i hlt
    show tb _ (σ'.set j (some (.int (0 + (i : Int))))) H2
    rw [Int.zero_add]
    exact hs Hk' _ H2 _ (a'.set (s := .kn (.int (i : Nat))) (.int _) (fun _ _ z => by cases z)) tb' fun Hk3 σ3 H3 a3 tb3 e3 => ⟨Hk3, a3.less hl, tb3, e'.trans e3⟩
  · have e : i = n.toNat := by omega
    subst e
    exact .inl ⟨Nat.le_refl _, q Hk' σ' H' a' tb' e'⟩
/-- for j in [f, g], two defs -/
theorem sl_two {K : PySem.W.Frag} {f g : Addr} (hp : ¬ Pin ρ j) (hb : ∀ k : Addr, k = f ∨ k = g → ∃ ρb, SL T tb (ρ.set j (some (.raw (.ref k)))) (.nx ρb) ∧ Le ρ ρb) : SL T (tFor (iList K (tLst (tCons (tC (.ref f)) (tCons (tC (.ref g)) tNil)))) (gName j) tb) ρ (.nx ρ) := fun Hk σ H D a tb0 q => by
  refine ⟨by show 2 ≤ sizeLine; decide, fun l hl => ⟨l, rfl, ⟨_, .of upd_same⟩, ?_⟩⟩
  have a0 := a.noTb
  have hk0 : DW.noTb Hk l = none := a0.kh.none hl
  have g1 := a0.newH (o := .lst [.ref f, .ref g]) hl
  have a1 : At ρ (upd (DW.noTb Hk) l (.lst [.ref f, .ref g])) σ (upd H l (.lst [.ref f, .ref g])) := (a0.new hl).at'
  have t1 : Tabs T (upd H l (.lst [.ref f, .ref g])) := tb0.ext fun b o h => Ex.new hl b o h
  have n1 : ∀ b o, upd (DW.noTb Hk) l (.lst [.ref f, .ref g]) b = some o → ∀ ps, o ≠ .tbl ps := fun b o h ps z => by
    by_cases e : b = l
    · rw [e, upd_same] at h
      cases h
      cases z
    · rw [upd_ne e] at h
      exact (noTb_of h).2 ps z
  let Hk1 := upd (DW.noTb Hk) l (.lst [.ref f, .ref g])
  have e01 : ExtN Hk Hk1 := noTb_to.trans (ExtN.of (Ex.new hk0))
  refine ⟨fun i m σ' H' => m = 2 - i ∧ i ≤ 2 ∧ ∃ Hk', At ρ Hk' σ' H' ∧ Tabs T H' ∧ Ex Hk1 Hk', ⟨2, rfl, Nat.zero_le _, Hk1, a1, t1, Ex.refl _⟩, ?_⟩
  rintro i m σ' H' ⟨rfl, hi, Hk', a', tb', e'⟩
  have sq : SqL K H' l [.ref f, .ref g] := .of (a'.kh _ _ (e' _ _ upd_same))
  by_cases hlt : i < 2
  · obtain ⟨k, hk, hi2⟩ : ∃ k, (k = f ∨ k = g) ∧ [V.ref f, V.ref g][i]? = some (.ref k) := by
      match i, hlt with
      | 0, _ => exact ⟨f, .inl rfl, rfl⟩
      | 1, _ => exact ⟨g, .inr rfl, rfl⟩
    refine .inr ⟨⟨_, _, sq, hi2⟩, fun σ2 H2 => ∃ Hk2, At ρ Hk2 σ2 H2 ∧ Tabs T H2 ∧ Ex Hk1 Hk2, fun σ2 H2 ⟨Hk2, a2, tb2, e2⟩ => ⟨2 - (i + 1), by omega, rfl, hlt, Hk2, a2, tb2, e2⟩, fun x H2 y => ?_⟩
    obtain ⟨rfl, hx⟩ := y
    have hx := hx _ sq
    rw [hi2] at hx
    cases hx
    obtain ⟨ρb, hs, hle⟩ := hb k hk
    show tb _ (σ'.set j (some (.ref k))) H2
    exact hs Hk' _ H2 _ (a'.set (s := .raw (.ref k)) rfl (fun _ _ z => by cases z)) tb' fun Hk3 σ3 H3 a3 tb3 e3 => ⟨Hk3, a3.less hle, tb3, fun b o h => e3 b o (e' b o h) (n1 b o h)⟩
  · have e : i = 2 := by omega
    subst e
    exact .inl ⟨⟨_, sq, Nat.le_refl _⟩, q Hk' σ' H' a' tb' (fun b o h n => e' b o (e01 b o h n))⟩
end
/-- _law_fault(lambda: call(book, check, order)) where the call raises -/
theorem el_lam {T : List (Addr × Str)} {C CN CR D f : Addr} {i : Nat} {F : Addr → Prop} {ta : TA} {ρ : En} {as : List Ar} {ss : List Sl} {fld word : Str} {x : PyData} (hi : ρ[i]? = some (some (.raw (.ref f)))) (hF : F f) (ha : EvA ta ρ as ρ) (hs : ArS ρ as ss) (hn : ∀ s ∈ ss, notOw s)
    (hR : RX_suits C CN CR ss D fld x) (hw : (D = CR ∧ fld = "at" ∧ word = "refused") ∨ (D = CN ∧ fld = "check" ∧ word = "check")) (hS : Shows x) :
    EvL T (tLam T (TTF CR CN) fun E => tCallO i F (spX (RX_suits C CN CR)) E ta) ρ (.list [.str word, .str x.shown, .bool true]) := fun Hk σ H a tb Q q => by
  refine ⟨tb, fun H1 e1 tb1 Qn => ?_⟩
  have a1 := a.noTb.exN e1
  obtain ⟨v, hv, rfl⟩ := a1.en i _ hi
  refine ⟨f, hv, hF, ha _ σ H1 a1 _ fun vs Hk2 H2 g2 r2 => ?_⟩
  refine ⟨ss, Hk2, D, fld, x, hR, hn, ArS.at' g2.at' r2 hs hn, fun d v Hk3 H3 g3 e3 hd rv => ?_⟩
  have g4 := g2.at'.go g3 e3
  have tb3 : Tabs T H3 := tabs_gr g2.at' (g3.mono fun _ z => z.elim) (tabs_gr a1 g2.gr tb1)
  have fin : ∀ p, H3 p = none → Q (.ref p) (upd H3 p (.lst [.str word, .str x.shown, .bl true])) := fun p hp => by
    have g5 := g4.at'.new (o := .lst [.str word, .str x.shown, .bl true]) hp
    exact q (.ref p) _ _ g5.at' (tb3.ext fun b o h => Ex.new hp b o h) (noTb_to.trans (ExtN.of ((g2.gr.kk.trans g3.kk).trans g5.gr.kk))) (.lst upd_same (.cons (.str _) (.cons (.str _) (.cons (.bl _) .nil))))
  refine ⟨d, fld, v, x, Hk3, rfl, e3, hd, rv, hS, ?_⟩
  rcases hw with ⟨h1, h2, h3⟩ | ⟨h1, h2, h3⟩
  · subst h1 h2 h3
    exact .inl ⟨rfl, rfl, fin⟩
  · subst h1 h2 h3
    exact .inr ⟨rfl, rfl, fin⟩
end DW

set_option maxRecDepth 100000
set_option maxHeartbeats 400000
namespace DW
open PySem PySem.Spec PyProof.Rows L2
/-! ### what is shown is a text that may be laid -/
theorem ok_lit (s : String) : PyData.strOk (Str.ofString s) = true := by
  unfold PyData.strOk
  rw [Str.ofString_eq_toList]
  simp only [List.all_toArray, List.all_eq_true, List.mem_map, decide_eq_true_eq, forall_exists_index, and_imp]
  rintro _ c _ rfl
  have h := c.valid
  have e : c.toNat = c.val.toNat := rfl
  rcases h with h | ⟨_, h⟩
  · have h' : c.val.toNat < 0xd800 := h
    omega
  · have h' : c.val.toNat < 0x110000 := h
    omega
theorem ok_app (a b : Str) : PyData.strOk (a ++ b) = (PyData.strOk a && PyData.strOk b) := by
  show (a.cps ++ b.cps).all _ = _
  rw [Array.all_append]
  rfl
theorem ok_from : ∀ (ts : List Str) (k : Nat) (acc : Str), PyData.strOk acc = true → (∀ t ∈ ts, PyData.strOk t = true) → PyData.strOk (textFrom k acc ts) = true
  | [], k, acc, h, _ => h
  | t :: r, k, acc, h, ht => by
    show PyData.strOk (textFrom (k + 1) (acc ++ (if k > 0 then ", " else "" : String) ++ t) r) = true
    refine ok_from r (k + 1) _ ?_ fun u hu => ht u (by simp [hu])
    rw [ok_app, ok_app, h, ht t (by simp), ok_lit]
    rfl
theorem ok_join : ∀ ts : List Str, (∀ t ∈ ts, PyData.strOk t = true) → PyData.strOk (Str.join ", " ts) = true
  | [], _ => ok_lit ""
  | [x], h => h x (by simp)
  | x :: y :: r, h => by
    show PyData.strOk (x ++ ", " ++ Str.join ", " (y :: r)) = true
    rw [ok_app, ok_app, h x (by simp), ok_join (y :: r) fun u hu => h u (by simp [hu]), ok_lit]
    rfl
mutual
def okL : PyData → Bool
  | .none | .bool _ | .int _ => true
  | .str x => PyData.strOk (reprText x)
  | .list xs | .tuple xs => okLA xs
  | .dict _ => false
def okLA : List PyData → Bool
  | [] => true
  | x :: xs => okL x && okLA xs
end
mutual
theorem shown_ok : ∀ d : PyData, okL d = true → PyData.strOk d.shown = true
  | .none, _ => by unfold PyData.shown; exact ok_lit _
  | .bool b, _ => by cases b <;> (simp only [PyData.shown]; exact ok_lit _)
  | .int i, _ => by unfold PyData.shown; exact ok_lit _
  | .str x, h => by unfold PyData.shown; simpa only [okL] using h
  | .list xs, h => by
    unfold PyData.shown
    show PyData.strOk (textFrom 0 "[" (PyData.shownAll xs) ++ "]") = true
    rw [ok_app, ok_from _ _ _ (ok_lit _) (shown_okA xs (by simpa only [okL] using h)), ok_lit]
    rfl
  | .tuple xs, h => by
    unfold PyData.shown
    show PyData.strOk (("(" : Str) ++ Str.join ", " (PyData.shownAll xs) ++ (if (PyData.shownAll xs).length == 1 then ",)" else ")" : String)) = true
    rw [ok_app, ok_app, ok_join _ (shown_okA xs (by simpa only [okL] using h)), ok_lit, ok_lit]
    rfl
  | .dict _, h => by simp [okL] at h
theorem shown_okA : ∀ ds : List PyData, okLA ds = true → ∀ t ∈ PyData.shownAll ds, PyData.strOk t = true
  | [], _, t, h => by simp [PyData.shownAll] at h
  | d :: ds, h, t, ht => by
    simp only [okLA, Bool.and_eq_true] at h
    simp only [PyData.shownAll, List.mem_cons] at ht
    rcases ht with rfl | ht
    · exact shown_ok d h.1
    · exact shown_okA ds h.2 t ht
end
/-! ### small data -/
structure Sq (n m : Nat) (d : PyData) : Prop where
  sh : Sh n m d
  ok : okL d = true
  ly : d.canLay0 = true
theorem Sq.all {n m : Nat} : ∀ {ds : List PyData}, (∀ d ∈ ds, Sq n m d) → okLA ds = true ∧ PyData.canLayAll0 ds = true
  | [], _ => ⟨rfl, rfl⟩
  | d :: ds, h => by
    obtain ⟨a, b⟩ := Sq.all (ds := ds) fun e he => h e (by simp [he])
    have := h d (by simp)
    exact ⟨by simp [okLA, this.ok, a], by simp [PyData.canLayAll0, this.ly, b]⟩
theorem Sq.list {n m k : Nat} {ds : List PyData} (h : ∀ d ∈ ds, Sq n m d) (hk : ds.length ≤ k) : Sq (n + 1) (k * (m + 1)) (.list ds) :=
  ⟨Sh.list (fun d hd => (h d hd).sh) hk, by simpa only [okL] using (Sq.all h).1, by simpa only [PyData.canLay0] using (Sq.all h).2⟩
theorem Sq.tup {n m k : Nat} {ds : List PyData} (h : ∀ d ∈ ds, Sq n m d) (hk : ds.length ≤ k) : Sq (n + 1) (k * (m + 1)) (.tuple ds) :=
  ⟨Sh.tup (fun d hd => (h d hd).sh) hk, by simpa only [okL] using (Sq.all h).1, by simpa only [PyData.canLay0] using (Sq.all h).2⟩
theorem Sq.mono {n n' m m' : Nat} {d : PyData} (h : Sq n m d) (h1 : n ≤ n') (h2 : m ≤ m') : Sq n' m' d := ⟨h.sh.mono h1 h2, h.ok, h.ly⟩
theorem Sq.none : Sq 0 0 .none := ⟨Sh.none, rfl, rfl⟩
theorem Sq.bool (b : Bool) : Sq 0 0 (.bool b) := ⟨Sh.bool b, rfl, rfl⟩
theorem Sq.int {i : Int} (h : i.natAbs < 1000) : Sq 0 11 (.int i) := ⟨Sh.int h, rfl, rfl⟩
theorem Sq.shaped {n m : Nat} {d : PyData} (h : Sq n m d) (hn : n ≤ 64) : SeqAt.shaped d = true := by
  unfold SeqAt.shaped
  rw [h.ly, decide_eq_true (Nat.le_trans h.sh.dp hn)]
  rfl
theorem Sq.shows {n m : Nat} {d : PyData} (h : Sq n m d) (hn : n ≤ 60) (hm : m ≤ 2 ^ 20) : Shows d := h.sh.shows hn hm
theorem Sq.str {x : Str} (h1 : PyData.strOk (reprText x) = true) (h2 : PyData.strOk x = true) (h3 : PyData.leavesShort 13 (.str x) = true) (h4 : (PyData.str x).weight ≤ 13) : Sq 0 13 (.str x) :=
  ⟨⟨rfl, rfl, Nat.le_refl _, h3, h4⟩, by simpa only [okL] using h1, by simpa only [PyData.canLay0] using h2⟩
theorem sq0 : Sq 0 13 (.str "0") := Sq.str (by decide +kernel) (by decide +kernel) (by decide +kernel) (by decide +kernel)
theorem sq001 : Sq 0 13 (.str "001") := Sq.str (by decide +kernel) (by decide +kernel) (by decide +kernel) (by decide +kernel)
/-- a row of small ints -/
def smR (r : List Int) : Prop := r.length ≤ 3 ∧ ∀ i ∈ r, 0 ≤ i ∧ i < 10
theorem smR.ints {r : List Int} (h : smR r) : ∀ d ∈ r.map PyData.int, Sq 0 13 d := fun d hd => by
  obtain ⟨i, hi, rfl⟩ := List.mem_map.mp hd
  have := h.2 i hi
  exact (Sq.int (by omega)).mono (Nat.le_refl _) (by decide)
theorem smR.t {r : List Int} (h : smR r) : Sq 1 42 (tI r) := Sq.tup h.ints (by rw [List.length_map]; exact h.1)
theorem smR.l {r : List Int} (h : smR r) : Sq 1 42 (lI r) := Sq.list h.ints (by rw [List.length_map]; exact h.1)
theorem smR.of {a b c : Int} (ha : 0 ≤ a ∧ a < 10) (hb : 0 ≤ b ∧ b < 10) (hc : 0 ≤ c ∧ c < 10) : smR [a, b, c] := ⟨by simp, fun i hi => by
  simp only [List.mem_cons, List.not_mem_nil, or_false] at hi
  rcases hi with rfl | rfl | rfl
  · exact ha
  · exact hb
  · exact hc⟩
theorem kind_sm {cols kind : List Int} (h : okCols cols) (hk : kind ∈ lawKinds cols) : smR kind := by
  obtain ⟨a, b, c, rfl, ha, hb, hc⟩ := kind_small h hk
  exact .of (by omega) (by omega) (by omega)
theorem row_sm {cols : List Int} (h : cols3 cols) {c : Ck} (C : CkOk cols c) {r : List Int} (hr : r ∈ c.2) : smR r := by
  obtain ⟨h1, h2⟩ := mem_allRows.mp (C.rows r hr)
  have hn := C.n
  refine ⟨by omega, fun i hi => ?_⟩
  obtain ⟨k, hk, rfl⟩ := List.mem_iff_getElem.mp hi
  have h3 := h2 k (by omega)
  have h4 := h.get (c.1.getD k 0).toNat
  have e : r.getD k 0 = r[k] := by rw [List.getD_eq_getElem?_getD, List.getElem?_eq_getElem hk]; rfl
  rw [e] at h3
  omega
theorem pl_sm {cols : List Int} (h : cols3 cols) {c : Ck} (C : CkOk cols c) : smR c.1 := ⟨C.n.2, fun p hp => by
  have := C.pl p hp
  have := h.1
  omega⟩
theorem cks_sq {cols : List Int} (h : cols3 cols) {cks : List Ck} (C : ∀ c ∈ cks, CkOk cols c) (hl : cks.length ≤ 6) : Sq 4 20000 (.tuple (cks.map ckD)) := by
  have one : ∀ d ∈ cks.map ckD, Sq 3 2400 d := fun d hd => by
    obtain ⟨c, hc, rfl⟩ := List.mem_map.mp hd
    have rows : Sq 2 1161 (tR c.2) := (Sq.tup (k := 27) (n := 1) (m := 42) (fun d hd => by
      obtain ⟨r, hr, rfl⟩ := List.mem_map.mp hd
      exact (row_sm h (C c hc) hr).t) (by rw [List.length_map]; exact (C c hc).len h)).mono (Nat.le_refl _) (by decide)
    exact (Sq.tup (k := 2) (n := 2) (m := 1161) (ds := [tI c.1, tR c.2]) (fun d hd => by
      simp only [List.mem_cons, List.not_mem_nil, or_false] at hd
      rcases hd with rfl | rfl
      · exact (pl_sm h (C c hc)).t.mono (by decide) (by decide)
      · exact rows) (by simp)).mono (Nat.le_refl _) (by decide)
  exact (Sq.tup one (by rw [List.length_map]; exact hl)).mono (Nat.le_refl _) (by decide)
/-! ### the law's paper -/
theorem goOn_errM {β γ : Type} {f : γ → β → Except PyData γ} {Q : PyData → Prop} : ∀ {bs : List β} {c : γ} {d : PyData}, (∀ c b d, b ∈ bs → f c b = .error d → Q d) → goOn f bs c = .error d → Q d
  | [], c, d, _, h => by cases h
  | b :: bs, c, d, hf, h => by
    unfold goOn at h
    split at h
    · exact goOn_errM (fun c b d hb => hf c b d (by simp [hb])) h
    · rename_i e he
      cases h
      exact hf _ _ _ (by simp) he
theorem paper_sq {cols : List Int} (h : cols3 cols) {c : Ck} (C : CkOk cols c) {order : List (List Int)} (ho : ∀ k ∈ order, k ∈ lawKinds cols) : Sq 2 200 (resD (paperE c order)) := by
  cases z : paperE c order with
  | ok u => exact Sq.none.mono (by decide) (by decide)
  | error d =>
    show Sq 2 200 d
    refine goOn_errM (Q := fun d => Sq 2 200 d) (fun _ one d h1 q => ?_) z
    refine goOn_errM (Q := fun d => Sq 2 200 d) (fun _ other d h2 q => ?_) q
    unfold paperO at q
    split at q
    · cases q
    rename_i e z1
    cases q
    refine goOn_errM (Q := fun d => Sq 2 200 d) (fun ahead kind d h3 q => ?_) z1
    unfold paperK at q
    split at q
    · cases q
    rename_i e z2
    cases q
    refine goOn_errM (Q := fun d => Sq 2 200 d) (fun _ lot d h4 q => ?_) z2
    unfold paperL at q
    split at q
    · cases q
    cases q
    have hl : lot ∈ (lotsF (lawAt c.1 one other kind)).drop 1 := sort_mem.mp h4
    have hs := lot_sub (lawAt_nodup c.1 one other kind) hl
    have hn := C.n
    have ls : smR lot := by
      refine ⟨?_, fun i hi => ?_⟩
      · have h5 := lotsF_small (lawAt c.1 one other kind) 0 [[]] (fun l hl => by rw [List.mem_singleton.mp hl]; simp) lot (List.mem_of_mem_drop hl)
        have h6 := lawAt_len c.1 one other kind
        omega
      · obtain ⟨j, rfl, hj, _⟩ := mem_lawAt.mp (hs i hi)
        omega
    exact (Sq.tup (k := 4) (n := 1) (m := 42) (ds := [tI one, tI other, tI kind, tI lot]) (fun d hd => by
      simp only [List.mem_cons, List.not_mem_nil, or_false] at hd
      rcases hd with rfl | rfl | rfl | rfl
      · exact (row_sm h C h1).t
      · exact (row_sm h C h2).t
      · exact (kind_sm h.ok (ho _ h3)).t
      · exact ls.t) (by simp)).mono (Nat.le_refl _) (by decide)
/-! ### the odd values -/
theorem bad_sq {n : Nat} (hn : n ≤ 6) : ∀ v ∈ badL n, Sq 0 13 v := by
  intro v hv
  unfold badL at hv
  simp only [List.mem_cons, List.not_mem_nil, or_false] at hv
  rcases hv with rfl | rfl | rfl | rfl | rfl
  · exact (Sq.int (by omega)).mono (Nat.le_refl _) (by decide)
  · exact (Sq.int (by decide)).mono (Nat.le_refl _) (by decide)
  · exact Sq.none.mono (Nat.le_refl _) (by decide)
  · exact (Sq.bool _).mono (Nat.le_refl _) (by decide)
  · exact sq0
theorem odd_sq {order : List (List Int)} (h : order.length ≤ 64) (hs : ∀ k ∈ order, smR k) : ∀ v ∈ oddL order, Sq 2 3000 v := by
  have rows : ∀ d ∈ order.map lI, Sq 1 43 d := fun d hd => by
    obtain ⟨k, hk, rfl⟩ := List.mem_map.mp hd
    exact (hs k hk).l.mono (by decide) (by decide)
  have list : ∀ (ds : List PyData), ds.length ≤ 66 → (∀ d ∈ ds, Sq 1 43 d) → Sq 2 3000 (.list ds) := fun ds hl hd => (Sq.list (k := 66) hd hl).mono (Nat.le_refl _) (by decide)
  have more : ∀ (ds : List PyData) (d : PyData), ds.length ≤ 65 → (∀ e ∈ ds, e ∈ order.map lI) → Sq 1 43 d → Sq 2 3000 (.list (ds ++ [d])) := fun ds d hl hm hd => list _ (by simp; omega) fun e he => by
    rcases List.mem_append.mp he with q | q
    · exact rows e (hm e q)
    · rw [List.mem_singleton.mp q]
      exact hd
  have r3 : ∀ a b c : Int, (0 ≤ a ∧ a < 10) → (0 ≤ b ∧ b < 10) → (0 ≤ c ∧ c < 10) → Sq 1 43 (lI [a, b, c]) := fun a b c ha hb hc => (smR.of ha hb hc).l.mono (by decide) (by decide)
  have ln : (order.map lI).length ≤ 65 := by rw [List.length_map]; omega
  have ld : ((order.map lI).drop 1).length ≤ 65 := by rw [List.length_drop]; omega
  have md : ∀ e ∈ (order.map lI).drop 1, e ∈ order.map lI := fun e he => List.mem_of_mem_drop he
  have S : ∀ v ∈ oddS order, Sq 2 3000 v := by
    intro v hv
    unfold oddS at hv
    simp only [List.mem_cons, List.not_mem_nil, or_false] at hv
    rcases hv with rfl | rfl | rfl | rfl | rfl | rfl | rfl
    · exact Sq.none.mono (by decide) (by decide)
    · exact (Sq.int (by decide)).mono (by decide) (by decide)
    · exact sq0.mono (by decide) (by decide)
    · exact more _ _ ln (fun e he => he) (r3 _ _ _ (by decide) (by decide) (by decide))
    · split
      · exact list _ (by rw [List.length_replicate]; omega) fun d hd => by
          rw [List.eq_of_mem_replicate hd]
          exact Sq.none.mono (by decide) (by decide)
      · exact list _ (by simp) fun d hd => by
          rw [List.mem_singleton.mp hd]
          exact Sq.none.mono (by decide) (by decide)
    · exact more _ _ ld md ((smR.of (by decide) (by decide) (by decide)).t.mono (by decide) (by decide))
    · exact more _ _ ln (fun e he => he) (Sq.none.mono (by decide) (by decide))
  have T : order ≠ [] → ∀ v ∈ oddT order, Sq 2 3000 v := by
    intro ne v hv
    have sub : ∀ k ∈ order, ∀ r : List Int, (∀ i ∈ r, i ∈ k) → r.length ≤ 3 → Sq 1 43 (lI r) := fun k hk r hr hl => (show smR r from ⟨hl, fun i hi => (hs k hk).2 i (hr i hi)⟩).l.mono (by decide) (by decide)
    unfold oddT at hv
    simp only [List.mem_cons, List.not_mem_nil, or_false] at hv
    rcases hv with rfl | rfl | rfl | rfl | rfl | rfl
    · exact list _ (by omega) fun e he => rows e (md e he)
    · split
      · have hm : order.getLastD [] ∈ order := by
          rw [List.getLastD_eq_getLast?, List.getLast?_eq_some_getLast ne]
          exact List.getLast_mem ne
        exact more _ _ ld md (sub _ hm _ (fun i hi => hi) (hs _ hm).1)
      · exact list _ (by simp) fun d hd => by simp at hd
    · exact more _ _ ld md ((Sq.list (k := 3) (n := 0) (m := 11) (ds := [.int 0, .int 0, .bool true]) (fun d hd => by
        simp only [List.mem_cons, List.not_mem_nil, or_false] at hd
        rcases hd with rfl | rfl | rfl
        · exact Sq.int (by decide)
        · exact Sq.int (by decide)
        · exact (Sq.bool _).mono (by decide) (by decide)) (by simp)).mono (by decide) (by decide))
    · exact more _ _ ld md (sq001.mono (by decide) (by decide))
    · have hm : order.headD [] ∈ order := by
        cases order with
        | nil => exact absurd rfl ne
        | cons a l => simp
      exact more _ _ ld md (sub _ hm _ (fun i hi => List.mem_of_mem_take hi) (by rw [List.length_take]; have := (hs _ hm).1; omega))
    · exact more _ _ ld md (r3 _ _ _ (by decide) (by decide) (by decide))
  intro v hv
  unfold oddL at hv
  split at hv
  · rename_i ne
    rcases List.mem_append.mp hv with q | q
    · exact S v q
    · exact T ne v q
  · exact S v hv
end DW

set_option maxRecDepth 100000
set_option maxHeartbeats 1000000
namespace DW
open PySem PySem.Spec PyProof.Rows L2 LamX
section
variable {ρ ρ1 ρ2 : En} {te ta tb : TE} {tk tA : TA} {d e x y : PyData} {ds es : List PyData} {K : PySem.W.Frag} {i j k : Nat} {C : Addr}
theorem ed_kwR {R : List Sl → PyData → Prop} {E : XK} {a1 a2 a3 : Ar} {ss : List Sl} (ha : EvA tk ρ [a1, a2, a3] ρ1) (hs : ArS ρ1 [a3, a2, a1] ss) (hn : ∀ s ∈ ss, notOw s) (hR : R ss d) : EvD (tCallR (spP R) E tk) ρ d ρ1 := fun Hk σ H a Q q =>
  ha Hk σ H a _ fun vs Hk1 H1 g1 r => by
    cases r with
    | cons r1 t =>
      cases t with
      | cons r2 t =>
        cases t with
        | cons r3 t =>
          cases t
          exact ⟨_, _, _, rfl, ss, Hk1, d, hR, hn, ArS.at' g1.at' (.cons r3 (.cons r2 (.cons r1 .nil))) hs hn, fun v Hk2 H2 g2 e2 rv => q v Hk2 H2 (g1.trans (g1.at'.go g2 e2)) rv⟩
/-- j, k = a list of two -/
theorem tg_lst2 (hp : ¬ Pin ρ j) (hp2 : ¬ Pin (ρ.set j (some (.kn d))) k) : TgD (gLst K 2 (gCons (gName j) (gCons (gName k) gNil))) (.list [d, e]) ρ ((ρ.set j (some (.kn d))).set k (some (.kn e))) [j, k] := fun Hk σ H v Q a r q => by
  cases r with
  | @lst p xs _ h1 r =>
    cases r with
    | cons r1 r =>
      cases r with
      | cons r2 r =>
        cases r
        have g1 := GoS.set a (i := j) (s := .kn d) r1 (fun _ _ z => by cases z) hp
        have g2 := GoS.set g1.at' (i := k) (s := .kn e) r2 (fun _ _ z => by cases z) hp2
        refine ⟨p, _, rfl, .of (a.kh _ _ h1), rfl, _, _, rfl, _, _, rfl, rfl, q _ (g1.trans g2) (fun b hb => own_set (s := .kn d) (fun _ _ z => by cases z) b (own_set (s := .kn e) (fun _ _ z => by cases z) b hb)) ⟨by simp, fun i hi => ?_⟩⟩
        simp only [List.mem_cons, List.not_mem_nil, or_false, not_or] at hi
        rw [List.getElem?_set_ne (Ne.symm hi.2), List.getElem?_set_ne (Ne.symm hi.1)]
/-- j, k = Book(columns, checks), a datum -/
theorem sd_book {E : XK} {cols : List Int} {cks : List Ck} (hA : EvA tA ρ [.d (tI cols), .d (.tuple (cks.map ckD))] ρ) (hc : okCols cols) (hk : ∀ c ∈ cks, okCk cols c) (hl : cks.length ≤ 6) (hb : EvD tb ρ d ρ) (hp : ¬ Pin ρ j) (hp2 : ¬ Pin (ρ.set j (some (bookS C cols cks))) k) :
    SD (tAsg (tTup (tCons (tMake C (spI C) [] E tA) (tCons tb tNil))) (gTup K 2 (gCons (gName j) (gCons (gName k) gNil)))) ρ (.nx ((ρ.set j (some (bookS C cols cks))).set k (some (.kn d)))) := fun Hk σ H D a q =>
  hA Hk σ H a _ fun vs Hk1 H1 g1 r => fun x dx hx hdx ne => by
    have rd := ArAll.data (ds := [tI cols, .tuple (cks.map ckD)]) r
    cases rd with
    | cons r1 t =>
      cases t with
      | cons r2 t =>
        cases t
        have e1 : Ex H1 (upd H1 dx (.own x)) := Ex.new hdx
        have hx2 : upd H1 dx (.own x) x = none := by rw [upd_ne (Ne.symm ne)]; exact hx
        have e2 : Ex H1 (upd (upd H1 dx (.own x)) x (.ins C dx [])) := e1.trans (Ex.new hx2)
        have b1 := g1.at'.newH (o := .own x) hdx
        have b2 := b1.at'.newH (o := .ins C dx []) hx2
        refine ⟨x, dx, _, _, Hk1, cols, cks, rfl, upd_same, g1.at'.kh.none hx, g1.at'.kh.trans e2, r1, r2, hc, hk, hl, fun vs' Hk2 H2 g2 ex2 hins fs => ⟨rfl, ?_⟩⟩
        have gr : Gr (fun _ => False) Hk1 H1 Hk2 H2 := by
          have c1 : Gr (fun _ => False) Hk1 H1 Hk1 (upd (upd H1 dx (.own x)) x (.ins C dx [])) := ⟨Ex.refl _, fun a o h _ => e2 a o h, fun a h => by
            cases q : H1 a with
            | none => exact absurd q h
            | some o => rw [e2 a o q]; simp, fun _ _ _ _ _ h => h⟩
          exact c1.trans g2 fun a h => .inr (by rw [h]; exact hx)
        have g3 := g1.trans (g1.at'.go gr ex2)
        refine hb Hk2 σ H2 g3.at' _ fun v Hk3 H3 g4 rv => ?_
        refine ⟨by show 2 ≤ sizeLine; decide, fun t ht => ?_⟩
        have g5 := g4.at'.new (o := .tup [.ref x, v]) ht
        have g6 := (g3.trans g4).trans g5
        have s1 := GoS.set g5.at' (i := j) (s := bookS C cols cks) (v := .ref x) ⟨x, dx, vs', rfl, (g4.gr.kk.trans g5.gr.kk) _ _ hins, fs.ex (g4.gr.kk.trans g5.gr.kk)⟩ (fun _ _ z => by cases z) hp
        have s2 := GoS.set s1.at' (i := k) (s := .kn d) (v := v) (rv.ex g5.gr.kk) (fun _ _ z => by cases z) hp2
        exact ⟨t, _, rfl, .of upd_same, rfl, _, _, rfl, _, _, rfl, rfl, q _ _ _ ((g6.s.trans s1).trans s2)⟩
end
theorem pe_book {X : Cx} {k j : Nat} {C : Addr} {p pos : Pos} {e : Expr} {es : List Expr} {t : TA} (c : ClI X.prog X.w X.K X.mg X.base k C) (hr : Room j X.A) (hk : k + 1 ≤ j) (hg : Gl X "Book") (ha : PA X (e :: es) t)
    (he : starEach (e :: es) X.env = (false, eval e X.env) :: starEach es X.env := by rfl) (hpl : (backTo pos (starEach es X.env)).any (·.1) = false := by rfl) :
    PE X (.Call (.Name "Book" p) (e :: es) [] pos) (tMake C (spI C) [] L2.E0 t) := by
  obtain ⟨f, fd, F, M, hm, b⟩ := c.ex
  exact pe_make M F (hr.mono hk) hg hm b .nil L2.pass0 ha (by decide) he hpl
theorem shp_told3 {w t : Str} (h1 : PyData.strOk w = true) (h2 : PyData.strOk t = true) : SeqAt.shaped (.list [.str w, .str t, .bool true]) = true := by
  unfold SeqAt.shaped
  simp [PyData.canLay0, PyData.canLayAll0, PyData.depth, PyData.depthAll, h1, h2]
theorem eqv_told3 (w t : Str) : PyData.eqv (.list [.str w, .str t, .bool true]) (.list [.str w, .str t, .bool true]) = true := by
  simp [PyData.eqv, PyData.eqvAll]
theorem eqv_self {n m : Nat} {d : PyData} (h : Sq n m d) : PyData.eqv d d = true := PySem.SeqAt.eqv_refl d h.ly
end DW

set_option maxRecDepth 100000
set_option maxHeartbeats 2000000
namespace DW
open PySem PySem.Spec PyProof.Rows L2 LamX
/-! ### the row's call: from the head's heap to the law's body, at the caller's own Around -/
abbrev noE : XK := fun _ _ _ => False
abbrev isT : VK := fun v _ => v = .bl true
theorem law_callG {P : Program} {w : World} {K : PySem.W.Frag} {mg mb : Str → Option Value} {fa a : Addr} {cs : List (Addr × Addr)} {s₁ : Shared} {vs : List Value} {ns : List Int}
    (KX : K.In s₁.heap) (hns : s₁.heap.Ns mainGlobals mg) (hb : s₁.heap.Ns builtinsNs mb) (hbb : ∀ x : Str, x ≠ "__name__" → mb x = bootBuiltins x) (hlim : s₁.heap.NoLimit) (hg : s₁.gens = #[])
    (hT : ∀ p ∈ cs, s₁.heap.get? p.2 = some { cls := .none, data := .fields #[] }) (nT : ∀ p ∈ cs, K.lookup p.2 = none) (C : ∀ p ∈ cs, PySem.W.CodeHd s₁.heap p.1 p.2)
    (hbm : ∃ (bm : Addr) (ob : Obj), mg "__builtins__" = some (.ref bm) ∧ bm ≠ builtinsNs ∧ s₁.heap.get? bm = some ob ∧ ob.cls = .type "module" ∧ ob.dict = some builtinsNs ∧ ob.data = .plain)
    (ha : s₁.heap.get? a = some { cls := .type "list", data := .seq vs.toArray }) (hi : IntsAre vs ns) (hl : ns.length ≤ sizeLine)
    (F : ∀ (base : Heap) (H : Hp), (∀ p ∈ cs, TabB base mg p.1 p.2) → Env0 P w K mg base callerA [] s₁ H → (∀ p ∈ cs, H p.2 = some (.tbl #[])) → SqL K H a (ns.map V.int) →
      codeAny (model P w) callerA (.call (.ref fa) ⟨[.ref a], []⟩) (CR L2.CX0 [] P w H s₁ isT noE) s₁) :
    codeAny (model P w) callerA (.call (.ref fa) ⟨[.ref a], []⟩) (fun r s' => r = .ok (.ret (.bool true)) ∧ OldK s₁.heap s'.heap ∧ s'.os = s₁.os ∧ AllBare s'.gens) s₁ := by
  classical
  have rv := vals_ints hi
  let lo : Obj := { cls := .type "list", data := .seq vs.toArray }
  let tb : Addr → Prop := fun b => ∃ p ∈ cs, p.2 = b
  have tabAt : ∀ b, tb b → s₁.heap.get? b = some { cls := .none, data := .fields #[] } := fun b ⟨p, hp, e⟩ => e ▸ hT p hp
  have aT : ¬ tb a := fun z => by
    have q := tabAt a z
    rw [ha] at q
    cases q
  let H : Hp := fun b => if tb b then some (.tbl #[]) else if b = a ∧ K.lookup a = none then some (.frz lo (.lst (ns.map V.int))) else none
  have H1 : ∀ b, tb b → H b = some (.tbl #[]) := fun b h => if_pos h
  have H2 : ∀ b, ¬ tb b → b = a → K.lookup a = none → H b = some (.frz lo (.lst (ns.map V.int))) := fun b h e k => (if_neg h).trans (if_pos ⟨e, k⟩)
  have H0 : ∀ b, ¬ tb b → (b = a → K.lookup a ≠ none) → H b = none := fun b h k => (if_neg h).trans (if_neg fun z => k z.1 z.2)
  have cases3 : ∀ b, H b = none ∨ tb b ∨ (b = a ∧ K.lookup a = none ∧ H b = some (.frz lo (.lst (ns.map V.int)))) := fun b => by
    by_cases h : tb b
    · exact .inr (.inl h)
    · by_cases k : b = a ∧ K.lookup a = none
      · exact .inr (.inr ⟨k.1, k.2, H2 b h k.1 k.2⟩)
      · exact .inl ((if_neg h).trans (if_neg k))
  -- what is neither a table nor the script is not tracked
  have free : ∀ {b : Addr} {o : Obj}, s₁.heap.get? b = some o → o.data ≠ .fields #[] → (∀ us n, o.data ≠ .seq us n) → H b = none := fun {b o} e h1 h2 => by
    rcases cases3 b with h | h | ⟨rfl, _, _⟩
    · exact h
    · have q := tabAt b h
      rw [e] at q
      cases q
      exact (h1 rfl).elim
    · rw [ha] at e
      cases e
      exact (h2 _ _ rfl).elim
  have hok : HOk P w H s₁.heap := fun b u e => by
    rcases cases3 b with h | h | ⟨rfl, k, h⟩
    · rw [h] at e
      cases e
    · rw [H1 b h] at e
      cases e
      exact tabAt b h
    · rw [h] at e
      cases e
      exact ⟨ha, by rw [List.length_map]; exact hl, vs, _, rv, ha⟩
  have seen : SqL K H a (ns.map V.int) := by
    cases k : K.lookup a with
    | none => exact .inl (.inr ⟨lo, H2 a aT rfl k⟩)
    | some o =>
      have e := KX a o k
      rw [ha] at e
      cases e
      exact .inr ⟨_, vs.toArray, _, k, rfl, rfl, rfl, by rw [List.size_toArray, hi.length]; exact hl, by simpa using rv⟩
  have put : ∀ {b : Addr} {o : Obj}, s₁.heap.get? b = some o → H b = none → (hidT s₁.heap H).get? b = some o := fun e n => hidT_get e n
  have dic : ∀ {b : Addr} {m : Str → Option Value}, s₁.heap.Ns b m → (hidT s₁.heap H).Ns b m := fun {b m} ⟨o, es, ep, e, d, r⟩ =>
    ⟨o, es, ep, put e (free e (fun z => by rw [d] at z; cases z) fun _ _ z => by rw [d] at z; cases z), d, r⟩
  have KB : K.In (hidT s₁.heap H) := fun b o e => put (KX b o e) (by
    rcases cases3 b with h | ⟨p, hp, ep⟩ | ⟨rfl, k, _⟩
    · exact h
    · rw [← ep, nT p hp] at e
      cases e
    · rw [k] at e
      cases e)
  have md : L2.Mod K mg (hidT s₁.heap H) := ⟨KB, dic hns, ⟨mb, dic hb, hbb⟩, let ⟨mc, h1, h2⟩ := hlim; ⟨mc, dic h1, h2⟩⟩
  have TB : ∀ p ∈ cs, TabB (hidT s₁.heap H) mg p.1 p.2 := fun p hp => by
    have hTp := hT p hp
    refine ⟨?_, ?_, fun z => ?_⟩
    · obtain ⟨o, us, file, tf, flags, tg, inF, text, tt, e1, r1, r2, r3, r4⟩ := C p hp
      refine ⟨o, us, file, tf, flags, tg, inF, text, tt, put e1 (free e1 (fun z => ?_) fun _ _ z => ?_), r1, r2, r3, r4⟩
      · rw [r2] at z
        cases z
        simp at r3
      · rw [r2] at z
        cases z
    · obtain ⟨bm, ob, b1, b2, b3, b4, b5, b6⟩ := hbm
      have nG : bm ≠ mainGlobals := fun q => by
        obtain ⟨o, es, ep, e, hd, _⟩ := hns
        rw [q, e] at b3
        cases b3
        rw [hd] at b6
        cases b6
      have nP : bm ≠ p.2 := fun q => by
        rw [q, hTp] at b3
        cases b3
        cases b6
      exact ⟨bm, ob, b1, b2, nG, nP, put b3 (free b3 (fun z => by rw [b6] at z; cases z) fun _ _ z => by rw [b6] at z; cases z), b4, b5, b6⟩
    · obtain ⟨o, es, ep, e, hd, _⟩ := hns
      rw [z, hTp] at e
      cases e
      cases hd
  have e0 : Env0 P w K mg (hidT s₁.heap H) callerA [] s₁ H := ⟨rfl, md, fun b o e => of_hidT e, Nat.le_of_eq (hidT_size _ _), trivial, fun b hb => absurd (show b ∈ ([] : List Addr) from hb) (by simp), hok, .of_eq hg⟩
  refine codeAny_mono (F _ H TB e0 (fun p hp => H1 _ ⟨p, hp, rfl⟩) seen) fun r s' h => ?_
  match r, h with
  | .ok (.ret u), h =>
    obtain ⟨v, H', os, bare, un, hok', r', q⟩ := h
    have q' : v = .bl true := q
    subst q'
    obtain rfl : u = Value.bool true := r'
    have tabs' : ∀ b, tb b → ∃ more : Array Value, s'.heap.get? b = some { cls := .none, data := .fields more } := fun b hb => by
      obtain ⟨more, z⟩ := un.tbls b #[] (H1 b hb)
      exact ⟨_, hok' b _ z⟩
    have rest' : ∀ b o, ¬ tb b → s₁.heap.get? b = some o → s'.heap.get? b = some o := fun b o nb e => by
      rcases cases3 b with h | h | ⟨rfl, _, h⟩
      · exact un.keep b o e h (by intro z; exact absurd (show b ∈ ([] : List Addr) from z) (by simp)) (by simp)
      · exact absurd h nb
      · rw [ha] at e
        cases e
        exact (hok' b _ (un.frzs b lo _ h)).1
    refine ⟨rfl, ⟨fun b o e => ?_, fun b o e => ?_⟩, os, bare⟩
    · by_cases hb : tb b
      · obtain ⟨more, hm⟩ := tabs' b hb
        obtain ⟨p, hp, rfl⟩ := hb
        rw [hT p hp] at e
        cases e
        exact .inr (.inl ⟨((C p hp).tab (hT p hp)).isCodeTable, rfl, #[], more, rfl, by rw [Array.empty_append]; exact hm⟩)
      · exact .inl (rest' b o hb e)
    · by_cases hb : tb b
      · obtain ⟨more, hm⟩ := tabs' b hb
        exact ⟨_, hm⟩
      · exact ⟨o, rest' b o hb e⟩
/-- what is known of the law's run at the head's heap h -/
def LawG (l : PySem.W.OpenLaw) (w : World) (K : PySem.W.Frag) (n : Nat) (mg : Str → Option Value) (fa : Addr) (h : Heap) : Prop :=
  ∃ cs : List (Addr × Addr), (∀ p ∈ cs, h.get? p.2 = some { cls := .none, data := .fields #[] }) ∧ (∀ p ∈ cs, K.lookup p.2 = none) ∧ (∀ p ∈ cs, PySem.W.CodeHd h p.1 p.2) ∧
    ∀ (base : Heap) (s₁ : Shared) (H : Hp) (a : Addr) (ns : List Int), ns.length ≤ n → (∀ z ∈ ns, Builtin.Int.intBits z ≤ 1048576) → (∀ p ∈ cs, TabB base mg p.1 p.2) → Env0 l.prog w K mg base callerA [] s₁ H → (∀ p ∈ cs, H p.2 = some (.tbl #[])) → SqL K H a (ns.map V.int) →
      codeAny (model l.prog w) callerA (.call (.ref fa) ⟨[.ref a], []⟩) (CR L2.CX0 [] l.prog w H s₁ isT noE) s₁
theorem walk_ofG {l : PySem.W.OpenLaw} {n : Nat} {q : Program} {loose : List Str} {XP : (Str → Option Value) → Heap → Prop} {YP : World → Heap → Prop} {d : DefRec} {K : Params → PySem.W.Frag}
    (hn : l.most = some n) (hn2 : n ≤ sizeLine) (hdf : d.params.defaults = []) (hY : ∀ (w : World) (h : Heap), YP w h → (K w.params).In h)
    (F : ∀ (w : World) (mg : Str → Option Value) (fa : Addr) (h : Heap), YP w h → (K w.params).In h → h.Ns mainGlobals mg → mg d.name = some (.ref fa) → LawG l w (K w.params) n mg fa h) :
    PySem.W.WalkO q loose XP YP l.row.toRowW d [] (fun f vs => PySem.call f vs) := by
  refine Att.attach_callB hn hdf fun w s₀ s₁ mg mb fa o pm cd doc a vs ns G Y ho hd hcd hmg hobj hints hlen hbits hg => ?_
  have KX := hY w _ Y
  obtain ⟨cs, hT, nT, C, hF⟩ := F w mg fa _ Y KX G.T.g hmg
  exact law_callG KX G.T.g G.T.b G.T.builtins G.T.nolimit hg hT nT C G.T.bmain hobj hints (Nat.le_trans hlen hn2) fun base H TB e0 hH hS => hF base s₁ H a ns hlen hbits TB e0 hH hS
end DW

set_option maxRecDepth 100000
set_option maxHeartbeats 1000000
namespace DW
open PySem PySem.Spec PyProof.Rows L2 LamX
/-! ### the law's reading, piece by piece -/
section
variable {K : PySem.W.Frag} {C CN CR : Addr}
abbrev aVar3 : TA := tCons (tVar 5) (tCons (tVar 10) (tCons (tVar 8) tNil))
/-- one check of a drawn book, one order -/
def bAt (K : PySem.W.Frag) (C : Addr) : TS :=
  tSeq (tAsg (tCall (spP R__law_paper) [] L2.E0 (tCons (tOp (rIxT K) (tOp (rIxT K) (tVar 4) (tVar 10)) (tC (.int 0))) (tCons (tOp (rIxT K) (tOp (rIxT K) (tVar 4) (tVar 10)) (tC (.int 1))) (tCons (tVar 8) tNil)))) (gName 11))
  (tSeq (tAsg (tAndV (tVar 9) (tOp rIsNon (tVar 11) (tC .non))) (gName 9))
  (tSeq (tIfS (tOr (tTest (tOp rNe (tCB (rReprD K) (tCons (tCall (spP (R_suits_paper C)) [] L2.E0 aVar3) tNil)) (tCB (rReprD K) (tCons (tVar 11) tNil))))
      (tTest (tOp (rNeD K) (tCallR (spP (R_suits_paper C)) L2.E0 (tCons (tCB (rTupOf K) (tCons (tLc (iList K (tVar 8)) (gName 12) tYes (tCB (rListOf K) (tCons (tVar 12) tNil)) [12]) tNil)) (tCons (tVar 10) (tCons (tVar 5) tNil)))) (tVar 11)))) (tRet (tC (.bl false))) tNext)
    (tIfS (tTest (tOp rNe (tCB (rReprD K) (tCons (tLst (tCons (tCall (spP (R_suits C)) [] L2.E0 aVar3) (tCons (tCallR (spP (R_suits C)) L2.E0 (tCons (tCB (rTupOf K) (tCons (tVar 8) tNil)) (tCons (tVar 10) (tCons (tVar 5) tNil)))) tNil))) tNil))
      (tCB (rReprD K) (tCons (tOp rRep (tLst (tCons (tOp rIsNon (tVar 11) (tC .non)) tNil)) (tC (.int 2))) tNil)))) (tRet (tC (.bl false))) tNext)))
/-- one order -/
def bTurn (K : PySem.W.Frag) (C : Addr) : TS :=
  tSeq (tPar 8 9 (tCons (tCall (spB R__law_turned) [] L2.E0 (tCons (tVar 2) (tCons (tVar 6) tNil))) (tCons (tC (.bl true)) tNil)))
  (tSeq (tFor (iRng1 (tCons (tCB (rLen K) (tCons (tVar 4) tNil)) tNil)) (gName 10) (bAt K C))
  (tIfS (tOr (tTest (tOp rNe (tCall (spP R__law_is_ranked) [] L2.E0 (tCons (tVar 4) (tCons (tVar 8) tNil))) (tVar 9)))
    (tTest (tOp rNe (tCB (rReprD K) (tCons (tCall (spP (R_is_ranking C)) [] L2.E0 (tCons (tVar 5) (tCons (tVar 8) tNil))) tNil)) (tCB (rReprD K) (tCons (tVar 9) tNil))))) (tRet (tC (.bl false))) tNext))
/-- what is no order, what is no check -/
def tOdd (K : PySem.W.Frag) : TS :=
  tAsg (tTup (tCons (tCall (spB R__law_odd) [] L2.E0 (tCons (tVar 2) (tCons (tVar 6) tNil))) (tCons (tCall (spB R__law_pick) [] L2.E0 (tCons (tVar 2) (tCons (tLst (tCons (tCB (rLen K) (tCons (tVar 4) tNil)) (tCons (tOp rSub2 (tC (.int 0)) (tC (.int 1))) (tCons (tC .non) (tCons (tC (.bl true)) (tCons (tC (.str "0")) tNil)))))) tNil))) tNil)))
    (gTup K 2 (gCons (gName 13) (gCons (gName 14) gNil)))
abbrev tFault (C CN CR : Addr) (T : List (Addr × Str)) (F : Addr → Prop) (ta : TA) : TE := tLam T (TTF CR CN) fun E => tCallO 15 F (spX (RX_suits C CN CR)) E ta
/-- one of suits, suits_paper, called with what is none -/
def bCall (K : PySem.W.Frag) (C CN CR : Addr) (T : List (Addr × Str)) (F : Addr → Prop) : TS :=
  tSeq (tIfS (tTest (tOp (rNeD K) (tFault C CN CR T F (tCons (tVar 5) (tCons (tVar 14) (tCons (tVar 13) tNil)))) (tLst (tCons (tC (.str "check")) (tCons (tCB (rReprD K) (tCons (tVar 14) tNil)) (tCons (tC (.bl true)) tNil)))))) (tRet (tC (.bl false))) tNext)
  (tIfS (tAnd (tTest (tOp (rNeD K) (tVar 4) (tTup tNil))) (tTest (tOp (rNeD K) (tFault C CN CR T F (tCons (tVar 5) (tCons (tC (.int 0)) (tCons (tVar 13) tNil)))) (tLst (tCons (tC (.str "refused")) (tCons (tCB (rReprD K) (tCons (tVar 13) tNil)) (tCons (tC (.bl true)) tNil))))))) (tRet (tC (.bl false))) tNext)
/-- one drawn book -/
def bBook (K : PySem.W.Frag) (C CN CR f1 f2 : Addr) (T : List (Addr × Str)) (F : Addr → Prop) : TS :=
  tSeq (tAsg (tCall (spN (R__law_box K)) [] L2.E0 (tCons (tVar 0) (tCons (tVar 1) tNil))) (gName 2))
  (tSeq (tAsg (tCall (spB R__law_book) [] L2.E0 (tCons (tVar 2) (tCons (tC (.int 8)) (tCons (tC (.int 3)) tNil)))) (gLst K 2 (gCons (gName 3) (gCons (gName 4) gNil))))
  (tSeq (tAsg (tTup (tCons (tMake C (spI C) [] L2.E0 (tCons (tVar 3) (tCons (tVar 4) tNil))) (tCons (tCall (spP R__law_kinds) [] L2.E0 (tCons (tVar 3) tNil)) tNil))) (gTup K 2 (gCons (gName 5) (gCons (gName 6) gNil))))
  (tSeq (tFor (iRng1 (tCons (tC (.int 3)) tNil)) (gName 7) (bTurn K C))
  (tSeq (tOdd K)
  (tFor (iList K (tLst (tCons (tC (.ref f1)) (tCons (tC (.ref f2)) tNil)))) (gName 15) (bCall K C CN CR T F))))))
def tLaw (K : PySem.W.Frag) (C CN CR f1 f2 : Addr) (T : List (Addr × Str)) (F : Addr → Prop) : TS :=
  tSeq (tFor (iRng1 (tCons (tC (.int 3)) tNil)) (gName 1) (bBook K C CN CR f1 f2 T F)) (tRet (tC (.bl true)))
/-! #### a drawn book as it stands -/
structure Drawn (cols : List Int) (cks : List Ck) : Prop where
  c : cols3 cols
  k : ∀ c ∈ cks, CkOk cols c
  l : cks.length ≤ 3
theorem drawn (x : Bx) : Drawn (bookCols x) (bookCks x).1 := ⟨bookCols_ok x, (bookCks_ok x).1, (bookCks_ok x).2⟩
structure Turned (cols : List Int) (order : List (List Int)) : Prop where
  p : order.Perm (lawKinds cols)
theorem Turned.mem {cols : List Int} {order : List (List Int)} (t : Turned cols order) {k : List Int} : k ∈ order ↔ k ∈ lawKinds cols := t.p.mem_iff
theorem Turned.dif {cols : List Int} {order : List (List Int)} (t : Turned cols order) : ∀ k ∈ order, k.getD 1 0 ≠ k.getD 2 0 := fun k hk => lawKinds_dif (t.mem.mp hk)
theorem Turned.nd {cols : List Int} {order : List (List Int)} (t : Turned cols order) : order.Nodup := t.p.nodup_iff.mpr (lawKinds_nodup cols)
theorem Turned.len {cols : List Int} {order : List (List Int)} (h : cols3 cols) (t : Turned cols order) : order.length ≤ 64 := by
  rw [t.p.length_eq]
  exact lawKinds_len h
def due (c : Ck) (order : List (List Int)) : PyData := resD (paperE c order)
def allSuit (cks : List Ck) (order : List (List Int)) (b : Bool) (j : Nat) : Bool := b && isNone (due (cks.getD j ([], [])) order)
theorem allSuit_is {cols : List Int} {cks : List Ck} (D : Drawn cols cks) {order : List (List Int)} (t : Turned cols order) : (List.range cks.length).foldl (allSuit cks order) true = lawRanked cks order := by
  rw [lawRanked_iff D.k t.nd t.dif fun k hk => t.mem.mpr hk]
  have key : ∀ (l : List Nat) (b : Bool), l.foldl (allSuit cks order) b = (b && l.all fun j => isNone (due (cks.getD j ([], [])) order)) := by
    intro l
    induction l with
    | nil => intro b; simp
    | cons j l ih =>
      intro b
      rw [List.foldl_cons, ih, allSuit, List.all_cons, Bool.and_assoc]
  rw [key, Bool.true_and, Bool.eq_iff_iff, List.all_eq_true, List.all_eq_true]
  constructor
  · intro h c hc
    obtain ⟨j, hj, rfl⟩ := List.mem_iff_getElem.mp hc
    have := h j (List.mem_range.mpr hj)
    rw [List.getD_eq_getElem?_getD, List.getElem?_eq_getElem hj] at this
    exact this
  · intro h j hj
    have hj := List.mem_range.mp hj
    rw [List.getD_eq_getElem?_getD, List.getElem?_eq_getElem hj]
    exact h _ (List.getElem_mem hj)
/-- the law's slots in a turn: the box at y, what comes behind the kinds as told -/
abbrev slots (K : PySem.W.Frag) (ns : List Int) (k : Nat) (y : Bx) (C : Addr) (cols : List Int) (cks : List Ck) (tl : En) : En :=
  some (.scr K ns) :: some (.kn (.int (k : Nat))) :: some (.ow false (bxD y)) :: some (.kn (tI cols)) :: some (.kn (.tuple (cks.map ckD))) :: some (bookS C cols cks) :: some (.kn (.list ((lawKinds cols).map tI))) :: tl
theorem sd_at {ns : List Int} {k i j : Nat} {y : Bx} {cols : List Int} {cks : List Ck} {order : List (List Int)} {b : Bool} (D : Drawn cols cks) (t : Turned cols order) (hj : j < cks.length) {tl : En} :
    SD (bAt K C) (slots K ns k y C cols cks [some (.kn (.int (i : Nat))), some (.kn (.list (order.map tI))), some (.kn (.bool b)), some (.kn (.int (j : Nat))), none, none, none, none, none])
      (.nx (slots K ns k y C cols cks [some (.kn (.int (i : Nat))), some (.kn (.list (order.map tI))), some (.kn (.bool (allSuit cks order b j))), some (.kn (.int (j : Nat))), some (.kn (due (cks.getD j ([], [])) order)), none, none, none, none])) := by
  have hl := t.len D.c
  have e : cks[j]? = some (cks.getD j ([], [])) := by simp [List.getD_eq_getElem?_getD, hj]
  have cm : cks.getD j ([], []) ∈ cks := List.mem_of_getElem? e
  have ck : CkOk cols (cks.getD j ([], [])) := D.k _ cm
  have ro : ∀ c ∈ cks, rowsOk c := fun c hc => (D.k c hc).rowsOk D.c
  have sq : Sq 2 200 (due (cks.getD j ([], [])) order) := paper_sq D.c ck fun k hk => t.mem.mp hk
  have sh := sq.shows (by decide) (by decide)
  have sb : ∀ c : Bool, Shows (.list [.bool c, .bool c]) := fun c => (Sq.list (k := 2) (n := 0) (m := 0) (ds := [.bool c, .bool c]) (fun d hd => by
    simp only [List.mem_cons, List.not_mem_nil, or_false, or_self] at hd
    rw [hd]
    exact Sq.bool c) (by simp)).shows (by decide) (by decide)
  have oL : okOrder cols order (.list (order.map tI)) := order_good D.c.ok t.p enc_tI rfl rfl
  have oT : okOrder cols order (.tuple (order.map tI)) := order_good D.c.ok t.p enc_tI rfl rfl
  have oB : okOrder cols order (.tuple (order.map lI)) := order_good D.c.ok t.p enc_lI rfl rfl
  have sd : suitsD cks j order = due (cks.getD j ([], [])) order := suits_law cks j order
  unfold bAt
  refine sd_seq (sd_asg (d := due (cks.getD j ([], [])) order) (ed_call (ss := [.kn (tI (cks.getD j ([], [])).1), .kn (tR (cks.getD j ([], [])).2), .kn (.list (order.map tI))])
      (ea_cons (ed_ixT (ds := [tI (cks.getD j ([], [])).1, tR (cks.getD j ([], [])).2]) (ed_ixT (d := ckD (cks.getD j ([], []))) (ds := cks.map ckD) (ed_var rfl) (ed_var rfl) (atI_nat (by rw [List.getElem?_map, e]; rfl))) ed_c_int rfl)
      (ea_cons (ed_ixT (ds := [tI (cks.getD j ([], [])).1, tR (cks.getD j ([], [])).2]) (ed_ixT (d := ckD (cks.getD j ([], []))) (ds := cks.map ckD) (ed_var rfl) (ed_var rfl) (atI_nat (by rw [List.getElem?_map, e]; rfl))) ed_c_int rfl)
      (ea_cons (ed_var rfl) ea_nil))) (.d (.d (.d .nil))) (by simp [notOw]) (.mk _ order (ro _ cm) hl)) (np_of rfl)) ?_
  refine sd_seq (sd_asg (ed_andV (b := isNone (due (cks.getD j ([], [])) order)) (ed_var rfl) fun _ => ed_isN (ed_var rfl)) (np_kn rfl)) ?_
  refine sd_seq (sd_F (EvB.to (eb_or (eb_test (ed_neS (ed_repr (d := due (cks.getD j ([], [])) order) (EvD.to (ed_call (ss := [bookS C cols cks, .kn (.int (j : Nat)), .kn (.list (order.map tI))]) (ea_var (s := bookS C cols cks) rfl (ea_cons (ed_var rfl) (ea_cons (ed_var rfl) ea_nil))) (.var rfl (.d (.d .nil))) (by simp [notOw]) (.mk cols cks j _ order D.c.ok ro hj oL)) sd) sh) (ed_repr (ed_var rfl) sh)))
      fun _ => eb_test (ed_neD (x := due (cks.getD j ([], [])) order) (EvD.to (ed_kwR (a1 := .d (.tuple (order.map lI))) (a2 := .d (.int (j : Nat))) (a3 := .var 5) (ss := [bookS C cols cks, .kn (.int (j : Nat)), .kn (.tuple (order.map lI))])
        (ea_cons (ed_tupL (EvD.to (en_mapT (enc := tI) (bs := order) (f := lI) (j := 12) (ei_list (ed_var rfl)) (fun r hr => (en_listT (ds := r.map .int) (ed_var rfl)).kn) (NoOw.of rfl) (zs (by omega))).kn rfl)) (ea_cons (ed_var rfl) (ea_var (s := bookS C cols cks) rfl ea_nil))) (.var rfl (.d (.d .nil))) (by simp [notOw]) (.mk cols cks j _ order D.c.ok ro hj oB)) sd) (ed_var rfl) (sq.shaped (by decide)) (sq.shaped (by decide)))) (by rw [eqv_self sq]; simp)) sd_nx) ?_
  refine SD.weak (sd_F (EvB.to (eb_test (ed_neS (s := (PyData.list [.bool (isNone (due (cks.getD j ([], [])) order)), .bool (isNone (due (cks.getD j ([], [])) order))]).shown) (t := (PyData.list [.bool (isNone (due (cks.getD j ([], [])) order)), .bool (isNone (due (cks.getD j ([], [])) order))]).shown)
      (ed_repr (en_lst (ds := [.bool (isNone (due (cks.getD j ([], [])) order)), .bool (isNone (due (cks.getD j ([], [])) order))]) (ea_cons (EvD.to (ed_call (ss := [bookS C cols cks, .kn (.int (j : Nat)), .kn (.list (order.map tI))]) (ea_var (s := bookS C cols cks) rfl (ea_cons (ed_var rfl) (ea_cons (ed_var rfl) ea_nil))) (.var rfl (.d (.d .nil))) (by simp [notOw]) (.mk cols cks j _ order D.c.ok ro hj oL)) (by rw [sd]))
        (ea_cons (EvD.to (ed_kwR (a1 := .d (.tuple (order.map tI))) (a2 := .d (.int (j : Nat))) (a3 := .var 5) (ss := [bookS C cols cks, .kn (.int (j : Nat)), .kn (.tuple (order.map tI))]) (ea_cons (ed_tupL (ed_var rfl)) (ea_cons (ed_var rfl) (ea_var (s := bookS C cols cks) rfl ea_nil))) (.var rfl (.d (.d .nil))) (by simp [notOw]) (.mk cols cks j _ order D.c.ok ro hj oT)) (by rw [sd])) ea_nil)) (by show 2 ≤ sizeLine; decide)).kn (sb _))
      (ed_repr (EvD.to (en_rep (ds := [.bool (isNone (due (cks.getD j ([], [])) order))]) (m := 2) (en_lst (ds := [.bool (isNone (due (cks.getD j ([], [])) order))]) (ea_cons (ed_isN (ed_var rfl)) ea_nil) (by show 1 ≤ sizeLine; decide)).kn ed_c_int (by decide) (by decide) (by show 2 ≤ sizeLine; decide)).kn rfl) (sb _)))) (by simp)) sd_nx) ?_
  exact .same (.same (.same (.same (.same (.same (.same (.same (.same (.same (.same (.same (.same (.same (.same (.same .nil)))))))))))))))
end
end DW

set_option maxRecDepth 100000
set_option maxHeartbeats 1000000
namespace DW
open PySem PySem.Spec PyProof.Rows L2 LamX
section
variable {K : PySem.W.Frag} {C CN CR : Addr}
theorem sd_turn {ns : List Int} {k i : Nat} {y : Bx} {cols : List Int} {cks : List Ck} (D : Drawn cols cks) :
    SD (bTurn K C) (slots K ns k y C cols cks [some (.kn (.int (i : Nat))), none, none, none, none, none, none, none, none])
      (.nx (slots K ns k (turnedM y (lawKinds cols)).2.2 C cols cks [none, none, none, none, none, none, none, none, none])) := by
  have kl := lawKinds_len D.c
  let order := (turnedM y (lawKinds cols)).1
  let y2 := (turnedM y (lawKinds cols)).2.2
  have t : Turned cols order := ⟨turned_perm y (lawKinds cols)⟩
  have hl := t.len D.c
  have ro : ∀ c ∈ cks, rowsOk c := fun c hc => (D.k c hc).rowsOk D.c
  have l6 := D.l
  have oL : okOrder cols order (.list (order.map tI)) := order_good D.c.ok t.p enc_tI rfl rfl
  have sb : ∀ c : Bool, Shows (.bool c) := fun c => (Sq.bool c).shows (by decide) (by decide)
  let inv : Bool → En := fun b => slots K ns k y2 C cols cks [some (.kn (.int (i : Nat))), some (.kn (.list (order.map tI))), some (.kn (.bool b)), none, none, none, none, none, none]
  unfold bTurn
  refine sd_seq (sd_parDD (ρ1 := slots K ns k y2 C cols cks [some (.kn (.int (i : Nat))), none, none, none, none, none, none, none, none]) (x := .list (order.map tI)) (y := .bool true)
    (ea_cons (ed_callB (i := 2) (p := false) (ds := bxD y) (es := bxD y) (ss := [.kn (.list ((lawKinds cols).map tI))]) (ea_cons (ed_var rfl) ea_nil) rfl rfl (.d .nil) (by simp [notOw]) (.mk y (lawKinds cols) (by omega))) (ea_cons ed_c_bl ea_nil)) (np_of rfl) (np_of rfl)) ?_
  refine sd_seq (for_acc (γ := Bool) (enc := fun j : Nat => .int (j : Nat)) (bs := List.range cks.length) (c := true) (inv := inv) (step := allSuit cks order) (I := fun _ _ => True)
    (EvI.to (ei_range (n := ((cks.map ckD).length : Nat)) (ed_lenT (ds := cks.map ckD) (ed_var rfl)) (by omega) (by rw [List.length_map]; omega)) (by simp [rng])) True.intro fun b j rest hj _ => ⟨True.intro, _, _, _, tg_name (np_of rfl),
      sd_at D t (List.mem_range.mp hj) (tl := []), ?_⟩) ?_
  · exact .same (.same (.same (.same (.same (.same (.same (.same (.same (.same (.drop (fun _ z => by cases z) (.drop (fun _ z => by cases z) (.same (.same (.same (.same .nil)))))))))))))))
  rw [allSuit_is D t]
  have e1 : rankF cks order = lawRanked cks order := rank_eq t.dif
  refine SD.weak (sd_F (EvB.to (eb_or (eb_test (ed_neB (ed_call (ss := [.kn (.tuple (cks.map ckD)), .kn (.list (order.map tI))]) (ea_cons (ed_var rfl) (ea_cons (ed_var rfl) ea_nil)) (.d (.d .nil)) (by simp [notOw]) (.mk cks order ro hl)) (ed_var rfl)))
    fun _ => eb_test (ed_neS (ed_repr (d := .bool (lawRanked cks order)) (EvD.to (ed_call (ss := [bookS C cols cks, .kn (.list (order.map tI))]) (ea_var (s := bookS C cols cks) rfl (ea_cons (ed_var rfl) ea_nil)) (.var rfl (.d .nil)) (by simp [notOw]) (.mk cols cks _ order D.c.ok ro (by omega) oL)) (by rw [e1])) (sb _)) (ed_repr (ed_var rfl) (sb _)))) (by simp)) sd_nx) ?_
  exact .same (.same (.same (.same (.same (.same (.same (.drop (fun _ z => by cases z) (.drop (fun _ z => by cases z) (.drop (fun _ z => by cases z) (.same (.same (.same (.same (.same (.same .nil)))))))))))))))
def oddOf (y : Bx) (cols : List Int) : PyData := (oddL (lawKinds cols)).getD (takeR y (oddL (lawKinds cols)).length).toNat .none
def oddB (y : Bx) (cols : List Int) : Bx := takeB y (oddL (lawKinds cols)).length
def badOf (y : Bx) (n : Nat) : PyData := (badL n).getD (takeR y (badL n).length).toNat .none
theorem getD_in {α : Type} {l : List α} {k : Nat} (d : α) (h : k < l.length) : l.getD k d ∈ l := by
  rw [List.getD_eq_getElem?_getD, List.getElem?_eq_getElem h]
  exact List.getElem_mem h
theorem oddOf_in (y : Bx) (cols : List Int) : oddOf y cols ∈ oddL (lawKinds cols) := by
  have hl := (oddL_len (lawKinds cols)).1
  obtain ⟨h1, h2⟩ := takeR_ok y (m := ((oddL (lawKinds cols)).length : Nat)) (by omega)
  exact getD_in _ (by omega)
theorem badOf_in (y : Bx) (n : Nat) : badOf y n ∈ badL n := by
  have hl : (badL n).length = 5 := rfl
  obtain ⟨h1, h2⟩ := takeR_ok y (m := ((badL n).length : Nat)) (by omega)
  exact getD_in _ (by omega)
theorem kind_len {cols : List Int} (h : cols3 cols) : ∀ k ∈ lawKinds cols, k.length = 3 := fun k hk => by
  obtain ⟨a, b, c, rfl, _⟩ := kind_small h.ok hk
  rfl
theorem sd_odd {ns : List Int} {k : Nat} {y : Bx} {cols : List Int} {cks : List Ck} (D : Drawn cols cks) :
    SD (tOdd K) (slots K ns k y C cols cks [none, none, none, none, none, none, none, none, none])
      (.nx (slots K ns k (takeB (oddB y cols) 5) C cols cks [none, none, none, none, none, none, some (.kn (oddOf y cols)), some (.kn (badOf (oddB y cols) cks.length)), none])) := by
  have kl := lawKinds_len D.c
  unfold tOdd
  refine sd_tgt (ρ1 := slots K ns k (takeB (oddB y cols) 5) C cols cks [none, none, none, none, none, none, none, none, none]) (ed_tup (ds := [oddOf y cols, badOf (oddB y cols) cks.length])
    (ea_cons (ed_callB (i := 2) (p := false) (ds := bxD y) (es := bxD y) (ss := [.kn (.list ((lawKinds cols).map tI))]) (ea_cons (ed_var rfl) ea_nil) rfl rfl (.d .nil) (by simp [notOw]) (.mk y (lawKinds cols) kl (kind_len D.c)))
    (ea_cons (ed_callB (i := 2) (p := false) (ds := bxD (oddB y cols)) (es := bxD (oddB y cols)) (ss := [.kn (.list (badL cks.length))])
      (ea_cons (EvD.to (en_lst (ds := [.int ((cks.map ckD).length : Nat), .int (0 - 1), .none, .bool true, .str "0"]) (ea_cons (ed_lenT (ed_var rfl)) (ea_cons (ed_sub ed_c_int ed_c_int) (ea_cons ed_c_non (ea_cons ed_c_bl (ea_cons ed_c_str ea_nil))))) (by show 5 ≤ sizeLine; decide)).kn (by rw [List.length_map]; rfl)) ea_nil) rfl rfl (.d .nil) (by simp [notOw]) (.mk (oddB y cols) (badL cks.length) (by simp [badL]) (by simp [badL]))) ea_nil)) (by show 2 ≤ sizeLine; decide)) (tg_two (np_of rfl) (np_of rfl))
theorem sl_call {T : List (Addr × Str)} {F : Addr → Prop} {g : Addr} (hF : F g) {ns : List Int} {k : Nat} {y : Bx} {cols : List Int} {cks : List Ck} (D : Drawn cols cks) {odd bad : PyData} (ho : odd ∈ oddL (lawKinds cols)) (hb : bad ∈ badL cks.length) :
    SL T (bCall K C CN CR T F) (slots K ns k y C cols cks [none, none, none, none, none, none, some (.kn odd), some (.kn bad), some (.raw (.ref g))])
      (.nx (slots K ns k y C cols cks [none, none, none, none, none, none, some (.kn odd), some (.kn bad), some (.raw (.ref g))])) := by
  have kl := lawKinds_len D.c
  have l3 := D.l
  have so := odd_sq kl (fun k hk => kind_sm D.c.ok hk) odd ho
  have sb := bad_sq (n := cks.length) (by omega) bad hb
  have hso := so.shows (by decide) (by decide)
  have hsb := sb.shows (by decide) (by decide)
  have oo := shown_ok odd so.ok
  have ob := shown_ok bad sb.ok
  have sc := cks_sq D.c D.k (by omega)
  unfold bCall
  refine sl_seq (sl_F (EBL.to (ebl_ne (el_lam (i := 15) (f := g) (ss := [bookS C cols cks, .kn bad, .kn odd]) rfl hF (ea_var (s := bookS C cols cks) rfl (ea_cons (ed_var rfl) (ea_cons (ed_var rfl) ea_nil))) (.var rfl (.d (.d .nil))) (by simp [notOw]) (.check cols cks bad odd (bad_no bad hb)) (.inr ⟨rfl, rfl, rfl⟩) hsb)
      (en_lst (ds := [.str "check", .str bad.shown, .bool true]) (ea_cons ed_c_str (ea_cons (ed_repr (ed_var rfl) hsb) (ea_cons ed_c_bl ea_nil))) (by show 3 ≤ sizeLine; decide)).kn (shp_told3 (by decide +kernel) ob) (shp_told3 (by decide +kernel) ob)) (by rw [eqv_told3]; rfl)) (sl_sd sd_nx)) ?_
  refine sl_F (EBL.to (b := (!PyData.eqv (.tuple (cks.map ckD)) (.tuple [])) && false) (ebl_and (ebl_of (eb_test (ed_neD (ed_var rfl) (ed_tup (ds := []) ea_nil (Nat.zero_le _)) (sc.shaped (by decide)) (shp_rows [])))) fun z => ?_) (by simp)) (sl_sd sd_nx)
  have hk : 0 < cks.length := by
    cases cks with
    | nil => simp [PyData.eqv, PyData.eqvAll] at z
    | cons c l => simp
  exact EBL.to (ebl_ne (el_lam (i := 15) (f := g) (ss := [bookS C cols cks, .kn (.int ((0 : Nat) : Int)), .kn odd]) rfl hF (ea_var (s := bookS C cols cks) rfl (ea_cons (EvD.to ed_c_int rfl) (ea_cons (ed_var rfl) ea_nil))) (.var rfl (.d (.d .nil))) (by simp [notOw]) (.order cols cks 0 odd D.c.ok hk (odd_none D.c.ok odd ho)) (.inl ⟨rfl, rfl, rfl⟩) hso)
      (en_lst (ds := [.str "refused", .str odd.shown, .bool true]) (ea_cons ed_c_str (ea_cons (ed_repr (ed_var rfl) hso) (ea_cons ed_c_bl ea_nil))) (by show 3 ≤ sizeLine; decide)).kn (shp_told3 (by decide +kernel) oo) (shp_told3 (by decide +kernel) oo)) (by rw [eqv_told3]; rfl)
end
end DW

set_option maxRecDepth 100000
set_option maxHeartbeats 1000000
namespace DW
open PySem PySem.Spec PyProof.Rows L2 LamX
section
variable {K : PySem.W.Frag} {C CN CR : Addr}
theorem SL.pre {T : List (Addr × Str)} {t : TS} {ρ ρ' : En} {o : Oc} (l : Le ρ' ρ) (h : SL T t ρ' o) : SL T t ρ o := fun Hk σ H D a tb q => h Hk σ H D (a.less l) tb q
theorem sl_book {T : List (Addr × Str)} {F : Addr → Prop} {f1 f2 : Addr} (hF : ∀ g, g = f1 ∨ g = f2 → F g) {ns : List Int} {k : Nat} (hk : k < 10) :
    ∃ ρb, SL T (bBook K C CN CR f1 f2 T F) ((some (.scr K ns) :: List.replicate 15 none).set 1 (some (.kn (.int (k : Nat))))) (.nx ρb) ∧ Le (some (.scr K ns) :: List.replicate 15 none) ρb := by
  let x := boxM ns k
  let cols := bookCols x
  let cks := (bookCks x).1
  let y := (bookCks x).2
  have D : Drawn cols cks := drawn x
  have l3 := D.l
  have kl := lawKinds_len D.c
  have loop : SD (tFor (iRng1 (tCons (tC (.int 3)) tNil)) (gName 7) (bTurn K C)) (slots K ns k y C cols cks [none, none, none, none, none, none, none, none, none])
      (.nx (slots K ns k ((List.range 3).foldl (fun y _ => (turnedM y (lawKinds cols)).2.2) y) C cols cks [none, none, none, none, none, none, none, none, none])) :=
    for_acc (γ := Bx) (enc := fun i : Nat => .int (i : Nat)) (bs := List.range 3) (c := y) (inv := fun y => slots K ns k y C cols cks [none, none, none, none, none, none, none, none, none]) (step := fun y _ => (turnedM y (lawKinds cols)).2.2) (I := fun _ _ => True)
      (EvI.to (ei_range (n := 3) ed_c_int (by decide) (by decide)) (by simp [rng])) True.intro fun y i rest hi _ => ⟨True.intro, _, _, _, tg_name (np_of rfl), sd_turn D, by
        exact .same (.same (.same (.same (.same (.same (.same (.same (.same (.same (.same (.same (.same (.same (.same (.same .nil)))))))))))))))⟩
  unfold bBook
  refine ⟨_, sl_seq (sl_sd (sd_asgN (ds := bxD x) (en_call (ss := [.scr K ns, .kn (.int (k : Nat))]) (ea_var (s := .scr K ns) rfl (ea_cons (ed_var rfl) ea_nil)) (.var rfl (.d .nil)) (by simp [notOw]) (.mk ns k hk)) (np_of rfl)))
    (sl_seq (sl_sd (sd_tgt (ed_callB (i := 2) (p := false) (ds := bxD x) (es := bxD x) (ss := [.kn (.int 8), .kn (.int 3)]) (ea_cons ed_c_int (ea_cons ed_c_int ea_nil)) rfl rfl (.d (.d .nil)) (by simp [notOw]) (.mk x)) (tg_lst2 (np_of rfl) (np_of rfl))))
    (sl_seq (sl_sd (sd_book (cols := cols) (cks := cks) (d := .list ((lawKinds cols).map tI)) (ea_cons (ed_var rfl) (ea_cons (ed_var rfl) ea_nil)) D.c.ok (fun c hc => (D.k c hc).okCk D.c) (by omega) (ed_call (ss := [.kn (tI cols)]) (ea_cons (ed_var rfl) ea_nil) (.d .nil) (by simp [notOw]) (.mk false _ cols (.t _) D.c.ok)) (np_of rfl) (np_of rfl)))
    (sl_seq (sl_sd loop)
    (sl_seq (sl_sd (sd_odd D))
    (sl_two (np_of rfl) fun g hg => ⟨_, sl_call (hF g hg) D (oddOf_in _ cols) (badOf_in _ cks.length), by
      exact .same (.same (.same (.same (.same (.same (.same (.same (.same (.same (.same (.same (.same (.same (.same (.drop (fun _ z => by cases z) .nil)))))))))))))))⟩))))), ?_⟩
  exact .same (.drop (fun _ z => by cases z) (.drop (fun _ z => by cases z) (.drop (fun _ z => by cases z) (.drop (fun _ z => by cases z) (.drop (fun _ z => by cases z) (.drop (fun _ z => by cases z) (.same (.same (.same (.same (.same (.same (.drop (fun _ z => by cases z) (.drop (fun _ z => by cases z) (.same .nil)))))))))))))))
theorem sl_law {T : List (Addr × Str)} {F : Addr → Prop} {f1 f2 : Addr} (hF : ∀ g, g = f1 ∨ g = f2 → F g) (ns : List Int) :
    ∃ ρ', SL T (tLaw K C CN CR f1 f2 T F) (some (.scr K ns) :: List.replicate 15 none) (.rt (.bool true) ρ') := by
  unfold tLaw
  exact ⟨_, sl_seq (sl_rng (by decide) (by decide) (np_of rfl) fun k hk => sl_book hF (by have h3 : (3 : Int).toNat = 3 := rfl; omega)) (sl_sd (sd_ret ed_c_bl))⟩
end
end DW

set_option maxRecDepth 100000
set_option maxHeartbeats 4000000
namespace DW
open PySem PySem.Spec PyProof.Rows L2 LamX
/-! ### the law -/
abbrev st_law : Stmt := topS 63
abbrev N_law : List Str := ["_law_script", "_law_k", "_law_box_here", "_law_columns", "_law_checks", "_law_book_here", "_law_kinds_here", "_law_turn", "_law_order", "_law_all_suit", "_law_at_here", "_law_due", "_law_kind", "_law_odd_here", "_law_bad", "_law_call"]
theorem sc_law : FnScope N_law ["_law_script"] (defScope st_law) := ⟨rfl, rfl, rfl, by decide +kernel, rfl, by decide +kernel, by decide +kernel⟩
abbrev ksR : List Str := ["ranking", "check", "book"]
abbrev psR : List Str := ["book", "check", "ranking"]
/-- what the law leans on -/
structure LawF (P : Program) (w : World) (K : PySem.W.Frag) (mg : Str → Option Value) (base : Heap) (C CN CR CT CB : Addr) : Prop where
  T : Nm mg
  X : XTxt K mg CR CT CN CB
  box : Cl P w K mg base 1 "_law_box" (spN (R__law_box K))
  book : Cl P w K mg base 4 "_law_book" (spB R__law_book)
  cbk : ClI P w K mg base 6 C
  kinds : Cl P w K mg base 1 "_law_kinds" (spP R__law_kinds)
  turned : Cl P w K mg base 2 "_law_turned" (spB R__law_turned)
  paper : Cl P w K mg base 2 "_law_paper" (spP R__law_paper)
  ranked : Cl P w K mg base 3 "_law_is_ranked" (spP R__law_is_ranked)
  odd : Cl P w K mg base 3 "_law_odd" (spB R__law_odd)
  pick : Cl P w K mg base 2 "_law_pick" (spB R__law_pick)
  ranking : Cl P w K mg base 7 "is_ranking" (spP (R_is_ranking C))
  sp : Cl P w K mg base 8 "suits_paper" (spP (R_suits_paper C))
  s : Cl P w K mg base 9 "suits" (spP (R_suits C))
  xsp : ClX P w K mg base 8 "suits_paper" (spX (RX_suits C CN CR))
  xs : ClX P w K mg base 9 "suits" (spX (RX_suits C CN CR))
  ksp : Kw K mg "suits_paper" ksR psR
  ks : Kw K mg "suits" ksR psR
  fault : Dn K mg "_law_fault" st__law_fault ["_law_call"]
def lamQ : Str := (PyProof.Rows.envOfC "law" (defScope st_law) 0 0 .none).qual ++ "<lambda>"
theorem law_deriv {P : Program} {w : World} {K : PySem.W.Frag} {mg : Str → Option Value} {base : Heap} {C CN CR CT CB : Addr} (L : LawF P w K mg base C CN CR CT CB) {f c Pt : Addr} {A : Around} {outer : List Env} {s : Shared} {H : Hp} {E : XK} (TB : TabB base mg c Pt) (hA : A.guards = some [])
    (hr : Room 11 (A.deeper (PyProof.Rows.envOfC "law" (defScope st_law) s.heap.objs.size f (.ref c)))) (ns : List Int) :
    ∃ t, PSs (cxOf L2.CX0 P w K mg base N_law "law" (defScope st_law) f (.ref c) A outer s H E).nox (defBody st_law) t ∧ ∃ ρ', SL [(Pt, lamQ)] t (some (.scr K ns) :: List.replicate 15 none) (.rt (.bool true) ρ') := by
  have T := L.T
  have hu := hr.units
  have hu100 : (A.deeper (PyProof.Rows.envOfC "law" (defScope st_law) s.heap.objs.size f (.ref c))).units + 100 < cLine := by have := hr.un; omega
  obtain ⟨f1, fd1, ps1, F1, m1, k1, b1⟩ := L.xs.ex
  obtain ⟨f2, fd2, ps2, F2, m2, k2, b2⟩ := L.xsp.ex
  have hF : ∀ g, (g = f1 ∨ g = f2) → ∃ (fd : FuncData) (ps : List Str), FnOk P w K mg base (L2.CX P w) 9 g fd ps (spX (RX_suits C CN CR)) ∧ PySem.W.keepIn K (.ref g) = true ∧ Binds K fd ps [] := by
    rintro g (rfl | rfl)
    · exact ⟨fd1, ps1, F1, k1, b1⟩
    · exact ⟨fd2, ps2, F2.mono (by decide), k2, b2⟩
  obtain ⟨gf, fdf, ⟨⟨oc, od, kV, doc, pm, an, cdv, ct, osl, rfl, lkf, hcf⟩, kpf⟩, mf, bf⟩ := L.fault.ex
  refine ⟨_, (pss_cons (ps_for PassesOwn.never rfl (pi_range1 (by rfl) T.range (pa_cons pe_int pa_nil)) (pg_name (i := 1) sc_law.nd rfl (by first | exact Or.inl rfl | exact Or.inr rfl))
      (pss_cons (ps_set (i := 2) sc_law.nd rfl (by first | exact Or.inl rfl | exact Or.inr rfl) (pe_cl L.box hr (by decide) (by rfl) (pa_cons (pv 0) (pa_cons (pv 1) pa_nil))))
      (pss_cons (ps_asg (pe_cl L.book hr (by decide) (by rfl) (pa_cons (pv 2) (pa_cons pe_int (pa_cons pe_int pa_nil)))) (pg_lst rfl (pgs_cons (pg_name (i := 3) sc_law.nd rfl (by first | exact Or.inl rfl | exact Or.inr rfl)) (pgs_cons (pg_name (i := 4) sc_law.nd rfl (by first | exact Or.inl rfl | exact Or.inr rfl)) pgs_nil))))
      (pss_cons (ps_asg (pe_tup (pa_cons (pe_book L.cbk hr (by decide) (by rfl) (pa_cons (pv 3) (pa_cons (pv 4) pa_nil))) (pa_cons (pe_cl L.kinds hr (by decide) (by rfl) (pa_cons (pv 3) pa_nil)) pa_nil))) (pg_tup rfl (pgs_cons (pg_name (i := 5) sc_law.nd rfl (by first | exact Or.inl rfl | exact Or.inr rfl)) (pgs_cons (pg_name (i := 6) sc_law.nd rfl (by first | exact Or.inl rfl | exact Or.inr rfl)) pgs_nil))))
      (pss_cons (ps_for PassesOwn.never rfl (pi_range1 (by rfl) T.range (pa_cons pe_int pa_nil)) (pg_name (i := 7) sc_law.nd rfl (by first | exact Or.inl rfl | exact Or.inr rfl))
        (pss_cons (ps_par (i := 8) (j := 9) rfl sc_law.nd rfl rfl (by decide) rfl rfl (pa_cons (pe_cl L.turned hr (by decide) (by rfl) (pa_cons (pv 2) (pa_cons (pv 6) pa_nil))) (pa_cons pe_bl pa_nil)) (by rfl))
        (pss_cons (ps_for PassesOwn.never rfl (pi_range1 (by rfl) T.range (pa_cons (pe_callB cr_len (by rfl) T.len bt_len (pa_cons (pv 4) pa_nil)) pa_nil)) (pg_name (i := 10) sc_law.nd rfl (by first | exact Or.inl rfl | exact Or.inr rfl))
          (pss_cons (ps_set (i := 11) sc_law.nd rfl (by first | exact Or.inl rfl | exact Or.inr rfl) (pe_cl L.paper hr (by decide) (by rfl) (pa_cons (pe_ix ix_tup (pe_ix ix_tup (pv 4) (pv 10) (fun _ _ => rfl)) pe_int (fun _ _ => rfl)) (pa_cons (pe_ix ix_tup (pe_ix ix_tup (pv 4) (pv 10) (fun _ _ => rfl)) pe_int (fun _ _ => rfl)) (pa_cons (pv 8) pa_nil)))))
          (pss_cons (ps_set (i := 9) sc_law.nd rfl (by first | exact Or.inl rfl | exact Or.inr rfl) (pe_and (pv 9) (pe_one (pe_cmpR op_isNon (pv 11) pe_non (nomark _)))))
          (pss_cons (ps_if (PW.pt (pw_or (pt_cmpR op_ne (pe_callB (cr_reprD hA hu) (by rfl) T.repr bt_repr (pa_cons (pe_cl L.sp hr (by decide) (by rfl) (pa_cons (pv 5) (pa_cons (pv 10) (pa_cons (pv 8) pa_nil)))) pa_nil)) (pe_callB (cr_reprD hA hu) (by rfl) T.repr bt_repr (pa_cons (pv 11) pa_nil)) (nomark _)) (pw_or1 (pt_cmpR (op_neD hr.units) (pe_kwR L.sp L.ksp hr (by decide) (by rfl) (pk_cons (pe_callTy cr_tuple (by rfl) T.tuple bt_tuple (pa_cons (pe_lc (own := [("_law_kind", 12)]) (g := (gName 12)) (tt := _) rfl sc_law.nd (pi_list (pv 8)) (blkOk_by (N := N_law) (sc := defScope st_law) (by decide +kernel)) (fun _ _ _ _ _ => (pg_name (i := 12) sc_law.nd rfl (by first | exact Or.inl rfl | exact Or.inr rfl))) (fun _ _ _ _ _ => pts_nil) (fun _ _ _ _ _ => (pe_callTy (cr_listK (K := K)) (by rfl) T.list bt_list (pa_cons (pv 12) pa_nil)))) pa_nil)) (pk_cons (pv 10) (pk_cons (pv 5) pk_nil)))) (pv 11) (nomark _)))))
            (pss_one (ps_ret pe_bl))
            pss_nil)
          (pss_one (ps_if (pt_cmpR op_ne (pe_callB (cr_reprD hA hu) (by rfl) T.repr bt_repr (pa_cons (pe_lst (pa_cons (pe_cl L.s hr (by decide) (by rfl) (pa_cons (pv 5) (pa_cons (pv 10) (pa_cons (pv 8) pa_nil)))) (pa_cons (pe_kwR L.s L.ks hr (by decide) (by rfl) (pk_cons (pe_callTy cr_tuple (by rfl) T.tuple bt_tuple (pa_cons (pv 8) pa_nil)) (pk_cons (pv 10) (pk_cons (pv 5) pk_nil)))) pa_nil))) pa_nil)) (pe_callB (cr_reprD hA hu) (by rfl) T.repr bt_repr (pa_cons (pe_op op_rep (pe_lst (pa_cons (pe_cmpR op_isNon (pv 11) pe_non (nomark _)) pa_nil)) pe_int) pa_nil)) (nomark _))
            (pss_one (ps_ret pe_bl))
            pss_nil))))))
        (pss_one (ps_if (PW.pt (pw_or (pt_cmpR op_ne (pe_cl L.ranked hr (by decide) (by rfl) (pa_cons (pv 4) (pa_cons (pv 8) pa_nil))) (pv 9) (nomark _)) (pw_or1 (pt_cmpR op_ne (pe_callB (cr_reprD hA hu) (by rfl) T.repr bt_repr (pa_cons (pe_cl L.ranking hr (by decide) (by rfl) (pa_cons (pv 5) (pa_cons (pv 8) pa_nil))) pa_nil)) (pe_callB (cr_reprD hA hu) (by rfl) T.repr bt_repr (pa_cons (pv 9) pa_nil)) (nomark _)))))
          (pss_one (ps_ret pe_bl))
          pss_nil)))))
      (pss_cons (ps_asg (pe_tup (pa_cons (pe_cl L.odd hr (by decide) (by rfl) (pa_cons (pv 2) (pa_cons (pv 6) pa_nil))) (pa_cons (pe_cl L.pick hr (by decide) (by rfl) (pa_cons (pv 2) (pa_cons (pe_lst (pa_cons (pe_callB cr_len (by rfl) T.len bt_len (pa_cons (pv 4) pa_nil)) (pa_cons (pe_op op_sub2 pe_int pe_int) (pa_cons pe_non (pa_cons pe_bl (pa_cons pe_str pa_nil)))))) pa_nil))) pa_nil))) (pg_tup rfl (pgs_cons (pg_name (i := 13) sc_law.nd rfl (by first | exact Or.inl rfl | exact Or.inr rfl)) (pgs_cons (pg_name (i := 14) sc_law.nd rfl (by first | exact Or.inl rfl | exact Or.inr rfl)) pgs_nil))))
      (pss_one (ps_for PassesOwn.never rfl (pi_list (pe_lst (pa_cons (pe_glob (v := .ref f1) (by rfl) m1 rfl) (pa_cons (pe_glob (v := .ref f2) (by rfl) m2 rfl) pa_nil)))) (pg_name (i := 15) sc_law.nd rfl (by first | exact Or.inl rfl | exact Or.inr rfl))
        (pss_cons (ps_if (pt_cmpR (op_neD hr.units) (pe_lamcall (T := [(Pt, lamQ)]) (k := 9) (by rfl) mf kpf lkf hcf bf sc__law_fault rfl (.inl rfl) (fault_gives L.T L.X hA hu100) TB rfl (by exact List.mem_singleton.mpr rfl) (fun p hp _ => by rw [List.mem_singleton.mp hp]; rfl) hr (lamS_by (by kernel_rfl)) rfl (fun _ _ _ _ _ => rfl) (fun A outer s H E f c' hr3 => pe_callO (F := fun g => g = f1 ∨ g = f2) (i := 15) hF hr3 rfl (.inr (.inr rfl)) (takes_of rfl rfl rfl rfl) (pa_cons (pv 5) (pa_cons (pv 14) (pa_cons (pv 13) pa_nil))))) (pe_lst (pa_cons pe_str (pa_cons (pe_callB (cr_reprD hA hu) (by rfl) T.repr bt_repr (pa_cons (pv 14) pa_nil)) (pa_cons pe_bl pa_nil)))) (nomark _))
          (pss_one (ps_ret pe_bl))
          pss_nil)
        (pss_one (ps_if (PW.pt (pw_and (pt_cmpR (op_neD hr.units) (pv 4) (pe_tup pa_nil) (nomark _)) (pw_and1 (pt_cmpR (op_neD hr.units) (pe_lamcall (T := [(Pt, lamQ)]) (k := 9) (by rfl) mf kpf lkf hcf bf sc__law_fault rfl (.inl rfl) (fault_gives L.T L.X hA hu100) TB rfl (by exact List.mem_singleton.mpr rfl) (fun p hp _ => by rw [List.mem_singleton.mp hp]; rfl) hr (lamS_by (by kernel_rfl)) rfl (fun _ _ _ _ _ => rfl) (fun A outer s H E f c' hr3 => pe_callO (F := fun g => g = f1 ∨ g = f2) (i := 15) hF hr3 rfl (.inr (.inr rfl)) (takes_of rfl rfl rfl rfl) (pa_cons (pv 5) (pa_cons pe_int (pa_cons (pv 13) pa_nil))))) (pe_lst (pa_cons pe_str (pa_cons (pe_callB (cr_reprD hA hu) (by rfl) T.repr bt_repr (pa_cons (pv 13) pa_nil)) (pa_cons pe_bl pa_nil)))) (nomark _)))))
          (pss_one (ps_ret pe_bl))
          pss_nil)))))))))))
    (pss_one (ps_ret pe_bl))), ?_⟩
  exact sl_law (K := K) (C := C) (CN := CN) (CR := CR) (T := [(Pt, lamQ)]) (F := fun g => g = f1 ∨ g = f2) (fun g h => h) ns
end DW

set_option maxRecDepth 100000
set_option maxHeartbeats 1000000
namespace DW
open PySem PySem.Spec PyProof.Rows L2 LamX
/-! ### all put together -/
theorem dn_mk {K : PySem.W.Frag} {h : Heap} {mg : Str → Option Value} {x : Str} {st : Stmt} {ps : List Str} {f : Addr} {oc : Value} {od an : Option Addr} {osl : Array (Option Value)} {kV doc pm cdv ct : Value} (X : K.In h) (G : h.Ns mainGlobals mg)
    (hp : ps = ((defArgs st).posonlyargs ++ (defArgs st).args).map (·.arg)) (hb : ∀ (kV doc pm : Value) (an : Option Addr) (cdv ct : Value) (us : List Value), us.length = ps.length → bindArgs (PySem.W.fnOf x x (defArgs st) (defBody st) (defScope st) .none kV doc pm an cdv ct) ⟨us, []⟩ = pure (ps.zip us))
    (a : PySem.W.nsIn K mainGlobals x = some (some (.ref f))) (l : K.lookup f = some ⟨oc, od, .func (PySem.W.fnOf x x (defArgs st) (defBody st) (defScope st) .none kV doc pm an cdv ct), osl⟩) (c : PySem.W.codeIn K cdv x = true) (k : PySem.W.keepIn K (.ref f) = true) : Dn K mg x st ps :=
  ⟨⟨f, _, fun_mk l c k, PySem.W.mg_of X G a, (fun_mk l c k).binds hb⟩, hp⟩
structure Dns (K : PySem.W.Frag) (mg : Str → Option Value) : Prop where
  d_is_integer : Dn K mg "is_integer" st_is_integer ["value"]
  d_is_number : Dn K mg "is_number" st_is_number ["value"]
  d_is_below : Dn K mg "is_below" st_is_below ["value", "most"]
  d_is_within : Dn K mg "is_within" st_is_within ["value", "least", "most"]
  d_is_sequence : Dn K mg "is_sequence" st_is_sequence ["value"]
  d_check_columns : Dn K mg "check_columns" st_check_columns ["value"]
  d_is_values : Dn K mg "is_values" st_is_values ["value", "many"]
  d_is_check : Dn K mg "is_check" st_is_check ["columns", "value"]
  d_told_check : Dn K mg "told_check" st_told_check ["value"]
  d_kinds_of : Dn K mg "kinds_of" st_kinds_of ["book"]
  d_lots_set : Dn K mg "lots_set" st_lots_set ["places"]
  d_row_set : Dn K mg "row_set" st_row_set ["one", "other", "places"]
  d_places_of : Dn K mg "places_of" st_places_of ["places", "one", "other", "kind"]
  d_barred_lots : Dn K mg "barred_lots" st_barred_lots ["book", "check", "one", "other", "kind"]
  d_unlike_pairs : Dn K mg "unlike_pairs" st_unlike_pairs ["book", "check", "kinds"]
  d_all_unlike : Dn K mg "all_unlike" st_all_unlike ["book", "kinds"]
  d_first_bar : Dn K mg "first_bar" st_first_bar ["book", "kind", "pairs"]
  d_is_number_row : Dn K mg "is_number_row" st_is_number_row ["value", "bounds"]
  d_tuple_of : Dn K mg "tuple_of" st_tuple_of ["value"]
  d_order_of : Dn K mg "order_of" st_order_of ["book", "value"]
  d_check_order : Dn K mg "check_order" st_check_order ["book", "value"]
  d_is_ranking : Dn K mg "is_ranking" st_is_ranking ["book", "value"]
  d_stages : Dn K mg "stages" st_stages ["columns", "one", "other", "ranking"]
  d_fault_in : Dn K mg "fault_in" st_fault_in ["columns", "rows", "ranking"]
  d_need_check : Dn K mg "need_check" st_need_check ["book", "value"]
  d_suits_paper : Dn K mg "suits_paper" st_suits_paper ["book", "check", "ranking"]
  d_suits : Dn K mg "suits" st_suits ["book", "check", "ranking"]
  d__law_box : Dn K mg "_law_box" st__law_box ["_law_script", "_law_k"]
  d__law_take : Dn K mg "_law_take" st__law_take ["_law_box_here", "_law_many"]
  d__law_pick : Dn K mg "_law_pick" st__law_pick ["_law_box_here", "_law_some"]
  d__law_turned : Dn K mg "_law_turned" st__law_turned ["_law_box_here", "_law_things"]
  d__law_lots : Dn K mg "_law_lots" st__law_lots ["_law_places"]
  d__law_set : Dn K mg "_law_set" st__law_set ["_law_one", "_law_other", "_law_lot"]
  d__law_kinds : Dn K mg "_law_kinds" st__law_kinds ["_law_columns"]
  d__law_at : Dn K mg "_law_at" st__law_at ["_law_places", "_law_one", "_law_other", "_law_kind"]
  d__law_unlike : Dn K mg "_law_unlike" st__law_unlike ["_law_places", "_law_one", "_law_other"]
  d__law_let : Dn K mg "_law_let" st__law_let ["_law_checks", "_law_left", "_law_kind"]
  d__law_is_ranked : Dn K mg "_law_is_ranked" st__law_is_ranked ["_law_checks", "_law_order"]
  d__law_way : Dn K mg "_law_way" st__law_way ["_law_places", "_law_one", "_law_other", "_law_order"]
  d__law_paper : Dn K mg "_law_paper" st__law_paper ["_law_places", "_law_rows", "_law_order"]
  d__law_hull : Dn K mg "_law_hull" st__law_hull ["_law_places", "_law_rows", "_law_order"]
  d__law_all_rows : Dn K mg "_law_all_rows" st__law_all_rows ["_law_columns", "_law_places"]
  d__law_book : Dn K mg "_law_book" st__law_book ["_law_box_here", "_law_most", "_law_places_most"]
  d__law_odd : Dn K mg "_law_odd" st__law_odd ["_law_box_here", "_law_order"]
  d__law_fault : Dn K mg "_law_fault" st__law_fault ["_law_call"]
theorem lawF_of {P : Program} {w : World} {K : PySem.W.Frag} {mg : Str → Option Value} {base : Heap} {C CN CR CT CB : Addr} (T : Nm mg) (X : XTxt K mg CR CT CN CB) (D : Dns K mg) (B : BkC K C) (BD : BkD K mg C) (XN : XCls P K mg "NoCheck" "check" CN) (XR : XCls P K mg "Refused" "at" CR) : LawF P w K mg base C CN CR CT CB := by
  have c_is_integer := cl_is_integer (P := P) (w := w) (base := base) T D.d_is_integer
  have c_is_number := cl_is_number (P := P) (w := w) (base := base) T D.d_is_number c_is_integer
  have c_is_below := cl_is_below (P := P) (w := w) (base := base) T D.d_is_below c_is_number
  have c_is_within := cl_is_within (P := P) (w := w) (base := base) T D.d_is_within c_is_integer
  have c_is_sequence := cl_is_sequence (P := P) (w := w) (base := base) T D.d_is_sequence
  have c_check_columns := cl_check_columns (P := P) (w := w) (base := base) T D.d_check_columns c_is_sequence c_is_within
  have c_is_values := cl_is_values (P := P) (w := w) (base := base) T D.d_is_values c_is_sequence c_is_below
  have c_is_check := cl_is_check (P := P) (w := w) (base := base) T D.d_is_check c_is_sequence c_is_below c_is_values
  have c_told_check := cl_told_check (P := P) (w := w) (base := base) T D.d_told_check
  have c_kinds_of := cl_kinds_of (P := P) (w := w) (base := base) T D.d_kinds_of B
  have c_lots_set := cl_lots_set (P := P) (w := w) (base := base) T D.d_lots_set
  have c_row_set := cl_row_set (P := P) (w := w) (base := base) T D.d_row_set
  have c_places_of := cl_places_of (P := P) (w := w) (base := base) T D.d_places_of
  have c_barred_lots := cl_barred_lots (P := P) (w := w) (base := base) T D.d_barred_lots B c_places_of c_lots_set c_row_set
  have c_unlike_pairs := cl_unlike_pairs (P := P) (w := w) (base := base) T D.d_unlike_pairs B
  have c_all_unlike := cl_all_unlike (P := P) (w := w) (base := base) T D.d_all_unlike B c_unlike_pairs
  have c_first_bar := cl_first_bar (P := P) (w := w) (base := base) T D.d_first_bar B c_barred_lots
  have c_is_number_row := cl_is_number_row (P := P) (w := w) (base := base) T D.d_is_number_row c_is_sequence c_is_below
  have c_tuple_of := cl_tuple_of (P := P) (w := w) (base := base) T D.d_tuple_of c_is_number_row
  have c_order_of := cl_order_of (P := P) (w := w) (base := base) T D.d_order_of B c_kinds_of c_is_sequence c_tuple_of
  have c_check_order := cl_check_order (P := P) (w := w) (base := base) T D.d_check_order B c_order_of
  have c_is_ranking := cl_is_ranking (P := P) (w := w) (base := base) T D.d_is_ranking B c_order_of c_first_bar c_all_unlike
  have c_stages := cl_stages (P := P) (w := w) (base := base) T D.d_stages c_places_of c_lots_set c_row_set
  have c_fault_in := cl_fault_in (P := P) (w := w) (base := base) T D.d_fault_in c_stages
  have c_need_check := cl_need_check (P := P) (w := w) (base := base) T D.d_need_check B c_is_below
  have c_suits_paper := cl_suits_paper (P := P) (w := w) (base := base) T D.d_suits_paper B c_need_check c_check_order c_fault_in
  have c_suits := cl_suits (P := P) (w := w) (base := base) T D.d_suits B c_suits_paper
  have c__law_box := cl__law_box (P := P) (w := w) (base := base) T D.d__law_box
  have c__law_take := cl__law_take (P := P) (w := w) (base := base) T D.d__law_take
  have c__law_pick := cl__law_pick (P := P) (w := w) (base := base) T D.d__law_pick c__law_take
  have c__law_turned := cl__law_turned (P := P) (w := w) (base := base) T D.d__law_turned c__law_take
  have c__law_lots := cl__law_lots (P := P) (w := w) (base := base) T D.d__law_lots
  have c__law_set := cl__law_set (P := P) (w := w) (base := base) T D.d__law_set
  have c__law_kinds := cl__law_kinds (P := P) (w := w) (base := base) T D.d__law_kinds
  have c__law_at := cl__law_at (P := P) (w := w) (base := base) T D.d__law_at
  have c__law_unlike := cl__law_unlike (P := P) (w := w) (base := base) T D.d__law_unlike
  have c__law_let := cl__law_let (P := P) (w := w) (base := base) T D.d__law_let c__law_unlike c__law_lots c__law_at c__law_set
  have c__law_is_ranked := cl__law_is_ranked (P := P) (w := w) (base := base) T D.d__law_is_ranked c__law_let
  have c__law_way := cl__law_way (P := P) (w := w) (base := base) T D.d__law_way c__law_at c__law_lots c__law_set
  have c__law_paper := cl__law_paper (P := P) (w := w) (base := base) T D.d__law_paper c__law_at c__law_lots c__law_set
  have c__law_hull := cl__law_hull (P := P) (w := w) (base := base) T D.d__law_hull c__law_way
  have c__law_all_rows := cl__law_all_rows (P := P) (w := w) (base := base) T D.d__law_all_rows
  have c__law_book := cl__law_book (P := P) (w := w) (base := base) T D.d__law_book c__law_pick c__law_take c__law_turned c__law_kinds c__law_all_rows c__law_hull
  have c__law_odd := cl__law_odd (P := P) (w := w) (base := base) T D.d__law_odd c__law_pick
  have c_Book := cl_Book (P := P) (w := w) (base := base) T BD B c_check_columns c_is_sequence c_is_check c_told_check
  have x_need_check := clx_need_check (P := P) (w := w) (base := base) T D.d_need_check B XN c_is_below
  have x_check_order := clx_check_order (P := P) (w := w) (base := base) T D.d_check_order B XR c_order_of
  have x_suits_paper := clx_suits_paper (P := P) (w := w) (base := base) T D.d_suits_paper B c_need_check c_check_order c_fault_in x_need_check x_check_order
  have x_suits := clx_suits (P := P) (w := w) (base := base) T D.d_suits x_suits_paper
  exact { T := T, X := X, box := c__law_box, book := c__law_book, cbk := c_Book, kinds := c__law_kinds, turned := c__law_turned, paper := c__law_paper, ranked := c__law_is_ranked, odd := c__law_odd, pick := c__law_pick, ranking := c_is_ranking, sp := c_suits_paper, s := c_suits, xsp := x_suits_paper, xs := x_suits, ksp := kw_of D.d_suits_paper (fun _ _ _ _ _ _ _ _ _ => rfl), ks := kw_of D.d_suits (fun _ _ _ _ _ _ _ _ _ => rfl), fault := D.d__law_fault }
theorem law_run {P : Program} {w : World} {K : PySem.W.Frag} {mg : Str → Option Value} {base : Heap} {C CN CR CT CB : Addr} (L : LawF P w K mg base C CN CR CT CB) {fa c Pt a : Addr} {oc : Value} {od an : Option Addr} {osl : Array (Option Value)} {kV doc pm ct : Value}
    (lk : K.lookup fa = some ⟨oc, od, .func (PySem.W.fnOf "law" "law" (defArgs st_law) (defBody st_law) (defScope st_law) .none kV doc pm an (.ref c) ct), osl⟩) (hcd : PySem.W.codeIn K (.ref c) "law" = true) (TB : TabB base mg c Pt) {s₁ : Shared} {H : Hp} {ns : List Int}
    (e0 : Env0 P w K mg base callerA [] s₁ H) (hT : H Pt = some (.tbl #[])) (hS : SqL K H a (ns.map V.int)) :
    codeAny (model P w) callerA (.call (.ref fa) ⟨[.ref a], []⟩) (L2.CR L2.CX0 [] P w H s₁ isT noE) s₁ := by
  have room : Room 12 callerA := ⟨rfl, by decide, by decide⟩
  refine run_ofS (N := N_law) (ps := ["_law_script"]) (us := [.ref a]) (vs := [.ref a]) (k := 11) lk hcd sc_law room e0 (.of_eq rfl) (.cons rfl .nil) rfl fun hr => ?_
  obtain ⟨t, ht, ρ', hs⟩ := law_deriv L (E := noE) (H := H) (s := s₁) (A := callerA) (outer := []) (f := fa) TB rfl hr ns
  refine ⟨t, ht.nox, ?_⟩
  have sq : SqL K (noTb H) a (ns.map V.int) := hS.elim (fun h => .inl (h.elim (fun h => .inl (noTb_to _ _ h fun _ z => by cases z)) fun ⟨o, h⟩ => .inr ⟨o, noTb_to _ _ h fun _ z => by cases z⟩)) fun h => .inr h
  have a0 : At (some (.scr K ns) :: List.replicate 15 none) (noTb H) (L2.start N_law [.ref a]) H := At.start (ss := [.scr K ns]) (vs := [.ref a]) (n := 15) ((At.nil noTb_le).cons (s := .scr K ns) ⟨a, rfl, sq⟩ True.intro)
  refine hs (noTb H) _ H _ a0 (fun p hp => ?_) fun Hk' σ' H' a' t' e' => fun v r => ?_
  · rw [List.mem_singleton.mp hp]
    exact TabS.nil hT
  · cases r
    rfl
/-- the law's run, from what the head tells -/
theorem lawG_of {l : PySem.W.OpenLaw} {w : World} {K : PySem.W.Frag} {mg : Str → Option Value} {fa : Addr} {h : Heap} {C CN CR CT CB c Pt f : Addr} {n : Nat} {oc : Value} {od an : Option Addr} {osl : Array (Option Value)} {kV doc pm ct : Value} (KX : K.In h) (G : h.Ns mainGlobals mg) (hmg : mg "law" = some (.ref fa))
    (ha : PySem.W.nsIn K mainGlobals "law" = some (some (.ref f))) (lk : K.lookup f = some ⟨oc, od, .func (PySem.W.fnOf "law" "law" (defArgs st_law) (defBody st_law) (defScope st_law) .none kV doc pm an (.ref c) ct), osl⟩) (hcd : PySem.W.codeIn K (.ref c) "law" = true)
    (hT : h.get? Pt = some { cls := .none, data := .fields #[] }) (nT : K.lookup Pt = none) (hC : PySem.W.codeHdIn K c Pt = true)
    (T : Nm mg) (X : XTxt K mg CR CT CN CB) (D : Dns K mg) (B : BkC K C) (BD : BkD K mg C) (XN : XCls l.prog K mg "NoCheck" "check" CN) (XR : XCls l.prog K mg "Refused" "at" CR) : LawG l w K n mg fa h := by
  have e := hmg.symm.trans (PySem.W.mg_of KX G ha)
  cases e
  refine ⟨[(c, Pt)], fun p hp => ?_, fun p hp => ?_, fun p hp => ?_, fun base s₁ H a ns _ _ TB e0 hH hS => ?_⟩
  · rw [List.mem_singleton.mp hp]
    exact hT
  · rw [List.mem_singleton.mp hp]
    exact nT
  · rw [List.mem_singleton.mp hp]
    exact PySem.W.codeHd_of_K KX hC
  · exact law_run (lawF_of T X D B BD XN XR) lk hcd (TB _ (List.mem_singleton.mpr rfl)) e0 (hH _ (List.mem_singleton.mpr rfl)) hS
end DW

set_option maxRecDepth 100000
set_option maxHeartbeats 1000000
namespace DW
open PySem PySem.Spec PyProof.Rows L2 LamX
/-! ### what the head tells of the classes -/
theorem xcls_mk {prog : Program} {K : PySem.W.Frag} {h : Heap} {mg : Str → Option Value} {x fld par : Str} {B0 Bi i newId initId : String} {bmB : List Value} (X : K.In h) (G : h.Ns mainGlobals mg)
    (F : ExcBaseFacts B0 newId initId bmB) (KF : PySem.W.KxsFacts Bi i) (IF : KErr.InitF Bi i)
    {nm q : Str} {C N : Addr} {bs bm : List Value} {sn : List Str} {sub : List Value} {ab : Bool} {col : Option Bool} {dd : Option Addr} {k0 k1 k2 k3 k5 : Option Value}
    {fI cda cc : Addr} {oc : Value} {od : Option Addr} {qual : Str} {dV kV doc pm : Value} {an : Option Addr} {ct : Value} {osl : Array (Option Value)} {params : Arguments} {sc : Scope} {msg : Str} {p0 p1 p2 p3 p4 p5 q1 q2 q3 q4 : Pos} {j : Nat} {ar : Arg}
    {ol2 ol3 : Value} {od2 od3 : Option Addr} {osl2 osl3 : Array (Option Value)} {vs : Array Value} {tf : Tok}
    (gC : PySem.W.nsIn K mainGlobals x = some (some (.ref C)))
    (lC : K.lookup C = some (excClassObj nm q C N bs bm true sn sub ab col dd k0 k1 k2 k3 k5 newId))
    (iC : PySem.W.findIn K (.ref C) "__init__" = some (some (.ref fI)))
    (lF : K.lookup fI = some ⟨oc, od, .func (PySem.W.ksFn "__init__" qual params (KErr.initBody fld par msg p0 p1 p2 p3 p4 p5 q1 q2 q3 q4 j) sc dV kV doc pm an (.ref cda) ct cc), osl⟩)
    (lX : K.lookup cc = some ⟨ol2, od2, .cell (some (.ref C)), osl2⟩) (lD : K.lookup cda = some ⟨ol3, od3, .fields vs, osl3⟩)
    (kC : PySem.W.keepIn K (.ref C) = true) (exC : PySem.W.subIn K (.ref C) (.type "BaseException") = some true) (tyC : PySem.W.typeIn K (.ref C) = some (.type "type")) (tC : PySem.W.typeIn K (.ref fI) = some (.type "function"))
    (sa : PySem.W.findIn K (.ref C) "__setattr__" = some (some (.builtin "object.__setattr__"))) (noN : PySem.W.findIn K (.ref C) fld = some none) (subB : PySem.W.subIn K (.ref C) (.type Bi) = some true) (op : PySem.W.nsIn K cStatics "thirdparty.any" = some none) (cd : PySem.W.codeIn K (.ref cda) qual = true) (sup : PySem.W.nsIn K mainGlobals "super" = some none)
    (ov : KErr.Over bm B0) (rl : ∀ self : Value, refuseLoop self "__setattr__" (.ref C :: bm) = pure ()) (ob : (Value.ref C :: bm).contains (.type "object") = true) (al : PySem.W.alongIn K "__init__" bm = some (some (.builtin i)))
    (SC : KErr.InitScope sc par) (har : (params.posonlyargs ++ params.args).head? = some ar) (hs : ar.arg = "self")
    (hb : ∀ u v : Value, bindArgs (PySem.W.ksFn "__init__" qual params (KErr.initBody fld par msg p0 p1 p2 p3 p4 p5 q1 q2 q3 q4 j) sc dV kV doc pm an (.ref cda) ct cc) ⟨[u, v], []⟩ = pure [(("self" : Str), u), (par, v)])
    (hpos : (p2.endLine == p4.line) = true) (hvs : vs[2]? = some (.str prog.main.file tf)) (top : (prog.main.scope.names.lookup ("super" : Str)).isSome = false) (e1 : (("self" : Str) == par) = false) (e2 : (par == ("__debug__" : Str)) = false) : XCls prog K mg x fld C where
  gC := PySem.W.mg_of X G gC
  kC := kC
  exC := exC
  tyC := tyC
  made := ⟨fI, par, Bi, i, newId, B0, initId, bmB, F,
    ⟨⟨nm, q, N, bs, bm, sn, sub, ab, col, dd, k0, k1, k2, k3, k5, lC, rl, ob, al⟩, sa, noN, subB, op, oc, od, qual, dV, kV, doc, pm, an, cda, cc, ct, osl, params, sc, msg, p0, p1, p2, p3, p4, p5, q1, q2, q3, q4, j, ar, hpos, lF, cd, SC, har, hs, hb, ⟨_, _, _, lX⟩, _, _, _, vs, tf, lD, hvs⟩,
    ⟨⟨nm, q, N, bs, bm, sn, sub, ab, col, dd, k0, k1, k2, k3, k5, lC, ov⟩, iC, tC⟩, KF, IF, e1, e2⟩
  top := top
  sup := PySem.W.mg_none_of X G sup
/-- an own error class whose fields are read and which isinstance asks -/
structure XOne (K : PySem.W.Frag) (C : Addr) (fld : Str) : Prop where
  exC : PySem.W.subIn K (.ref C) (.type "BaseException") = some true
  hd : PySem.W.hasDictIn K C = true
  ty : PySem.W.typeIn K (.ref C) = some (.type "type")
  ga : PySem.W.findIn K (.ref C) "__getattribute__" = some (some (.builtin "BaseException.__getattribute__"))
  gg : PySem.W.findIn K (.ref C) "__getattr__" = some none
  no : PySem.W.findIn K (.ref C) fld = some none
  ha : PySem.W.findIn K (.ref C) "__class__" = some (some (.builtin "object.__class__"))
  hm : PySem.W.mroIn K C (.type "object") = some true
  hn : PySem.W.specialIn K (.builtin "object.__class__") "__get__" = some (some (.builtin "getset_descriptor.__get__"))
  ht : PySem.W.takesIn K (.builtin "object.__class__") = some true
theorem XOne.f {K : PySem.W.Frag} {C : Addr} {fld : Str} (o : XOne K C fld) : XfC K C := ⟨o.ga, o.gg, o.exC, o.hd⟩
theorem XOne.e {K : PySem.W.Frag} {C : Addr} {fld : Str} (o : XOne K C fld) : ExcC K C := ⟨o.ga, o.gg, o.exC, o.hd, o.ha, o.hn, o.ht, o.hm⟩
theorem XOne.exm {K : PySem.W.Frag} {C D : Addr} {fld : Str} {b : Bool} (o : XOne K C fld) (h : PySem.W.subIn K (.ref D) (.ref C) = some b) : PySem.W.exmOne K (.ref D) (.ref C) = some b := PySem.W.exm_ref o.exC o.hd o.ty h
theorem kit_sub {K : PySem.W.Frag} {C B : Addr} (ne : C ≠ B) (hB : PySem.W.isClsIn K B = true) (ty : PySem.W.typeIn K (.ref B) = some (.type "type")) (h : PySem.W.subIn K (.ref C) (.ref B) = some true) : PySem.W.kitOne K (.ref C) (.ref B) = some true := by
  have e1 : ((PySem.W.clsIn K B).isSome && PySem.W.typeIn K (.ref B) == some (.type "type")) = true := by
    have hB' : (PySem.W.clsIn K B).isSome = true := hB
    rw [hB', ty] <;> rfl
  show (if (Value.ref C == Value.ref B) = true then some true else if ((PySem.W.clsIn K B).isSome && PySem.W.typeIn K (.ref B) == some (.type "type")) = true then PySem.W.subIn K (.ref C) (.ref B) else none) = some true
  split
  · rfl
  · first
      | exact h
      | (rw [if_pos e1]; exact h)
theorem kit_subT {K : PySem.W.Frag} {C : Addr} {n : String} (hm : PySem.W.kitMeta n = true) (h : PySem.W.subIn K (.ref C) (.type n) = some true) : PySem.W.kitOne K (.ref C) (.type n) = some true := by
  show (if (Value.ref C == Value.type n) = true then some true else if PySem.W.kitMeta n = true then PySem.W.subIn K (.ref C) (.type n) else none) = some true
  split
  · rfl
  · first
      | exact h
      | (rw [if_pos hm]; exact h)
theorem xtxt_mk {K : PySem.W.Frag} {h : Heap} {mg : Str → Option Value} {CR CT CN CB : Addr} (X : K.In h) (G : h.Ns mainGlobals mg) (gR : PySem.W.nsIn K mainGlobals "Refused" = some (some (.ref CR))) (gT : PySem.W.nsIn K mainGlobals "TooGreat" = some (some (.ref CT))) (gN : PySem.W.nsIn K mainGlobals "NoCheck" = some (some (.ref CN))) (gB : PySem.W.nsIn K mainGlobals "BatchError" = some (some (.ref CB))) (gK : PySem.W.nsIn K mainGlobals "KeyError" = some none)
    (oR : XOne K CR "at") (oT : XOne K CT "most") (oN : XOne K CN "check") (srr : PySem.W.subIn K (.ref CR) (.ref CR) = some true) (snr : PySem.W.subIn K (.ref CN) (.ref CR) = some false) (snt : PySem.W.subIn K (.ref CN) (.ref CT) = some false) (snn : PySem.W.subIn K (.ref CN) (.ref CN) = some true)
    (cB : PySem.W.isClsIn K CB = true) (tB : PySem.W.typeIn K (.ref CB) = some (.type "type")) (srb : PySem.W.subIn K (.ref CR) (.ref CB) = some true) (snk : PySem.W.subIn K (.ref CN) (.type "KeyError") = some true) (nRB : CR ≠ CB) : XTxt K mg CR CT CN CB where
  gR := PySem.W.mg_of X G gR
  gT := PySem.W.mg_of X G gT
  gN := PySem.W.mg_of X G gN
  gB := PySem.W.mg_of X G gB
  gK := PySem.W.mg_none_of X G gK
  rr := oR.exm srr
  nr := oR.exm snr
  nt := oT.exm snt
  nn := oN.exm snn
  fR := oR.f
  fT := oT.f
  fN := oN.f
  aR := oR.no
  aT := oT.no
  aN := oN.no
  eR := oR.e
  eT := oT.e
  eN := oN.e
  kR := kit_sub nRB cB tB srb
  kN := kit_subT (by decide +kernel) snk
theorem dfl_mk {K : PySem.W.Frag} {T x : Addr} {oc : Value} {od : Option Addr} {n : Nat} {osl : Array (Option Value)} (l : K.lookup T = some ⟨oc, od, .seq #[.ref x] n, osl⟩) : DflV K (.ref T) [.ref x] := .inr ⟨by simp, T, _, [.ref x], n, rfl, l, rfl, .cons rfl .nil⟩
theorem vals_nil {us : List Value} (r : Vals [] us) : us = [] := by cases r; rfl
theorem bkd_mk {K : PySem.W.Frag} {h : Heap} {mg : Str → Option Value} {C f : Addr} {oc dV kV doc pm : Value} {od an : Option Addr} {cdv ct : Value} {osl : Array (Option Value)} {dv : V} (X : K.In h) (G : h.Ns mainGlobals mg) (gC : PySem.W.nsIn K mainGlobals "Book" = some (some (.ref C)))
    (iC : PySem.W.findIn K (.ref C) "__init__" = some (some (.ref f))) (l : K.lookup f = some ⟨oc, od, .func (PySem.W.fnOf "__init__" "Book.__init__" (defArgs st_Book_init) (defBody st_Book_init) (defScope st_Book_init) dV kV doc pm an cdv ct), osl⟩) (c : PySem.W.codeIn K cdv "Book.__init__" = true) (k : PySem.W.keepIn K (.ref f) = true)
    (hd : DflV K dV [dv]) (mk : PySem.W.makesIn K C = true) (fn : PySem.W.isFn K (.ref f) = true) (kC : PySem.W.keepIn K (.ref C) = true) : BkD K mg C := by
  have F : FunD K "__init__" "Book.__init__" (defArgs st_Book_init) (defBody st_Book_init) (defScope st_Book_init) [dv] [] f _ := ⟨⟨_, _, _, _, _, _, _, _, _, _, rfl, l, c, hd, .inl rfl⟩, k⟩
  obtain ⟨ds, r, b⟩ := F.binds1 (ps := ["self", "columns", "checks"]) 3 1 (by simp) (by simp) fun T kV doc pm an cdv ct us its hu hi => match us, its, hu, hi with
    | [_, _, _], [_], _, _ => ⟨_, rfl, rfl⟩
  cases vals_nil r
  exact ⟨f, _, [dv], F, ⟨mk, iC, fn, kC⟩, PySem.W.mg_of X G gC, b⟩
theorem nm_mk {K : PySem.W.Frag} {h : Heap} {mg : Str → Option Value} {t1 t2 t3 t4 : Tok} (X : K.In h) (G : h.Ns mainGlobals mg) (h1 : PySem.W.nsIn K mainGlobals "isinstance" = some none) (h2 : PySem.W.nsIn K mainGlobals "int" = some none) (h3 : PySem.W.nsIn K mainGlobals "bool" = some none) (h4 : PySem.W.nsIn K mainGlobals "list" = some none) (h5 : PySem.W.nsIn K mainGlobals "tuple" = some none)
    (h6 : PySem.W.nsIn K mainGlobals "len" = some none) (h7 : PySem.W.nsIn K mainGlobals "all" = some none) (h8 : PySem.W.nsIn K mainGlobals "sum" = some none) (h9 : PySem.W.nsIn K mainGlobals "sorted" = some none) (h10 : PySem.W.nsIn K mainGlobals "set" = some none) (h11 : PySem.W.nsIn K mainGlobals "range" = some none)
    (h12 : PySem.W.nsIn K mainGlobals "zip" = some none) (h13 : PySem.W.nsIn K mainGlobals "enumerate" = some none) (h14 : PySem.W.nsIn K mainGlobals "repr" = some none) (h15 : PySem.W.nsIn K mainGlobals "abs" = some none) (c1 : PySem.W.nsIn K mainGlobals "MOST_COLUMNS" = some (some (.int 4 t1))) (c2 : PySem.W.nsIn K mainGlobals "MOST_VALUES" = some (some (.int 4 t2)))
    (c3 : PySem.W.nsIn K mainGlobals "MOST_CHECKS" = some (some (.int 6 t3))) (c4 : PySem.W.nsIn K mainGlobals "MOST_PLACES" = some (some (.int 3 t4))) : Nm mg :=
  ⟨PySem.W.mg_none_of X G h1, PySem.W.mg_none_of X G h2, PySem.W.mg_none_of X G h3, PySem.W.mg_none_of X G h4, PySem.W.mg_none_of X G h5, PySem.W.mg_none_of X G h6, PySem.W.mg_none_of X G h7, PySem.W.mg_none_of X G h8, PySem.W.mg_none_of X G h9, PySem.W.mg_none_of X G h10, PySem.W.mg_none_of X G h11, PySem.W.mg_none_of X G h12, PySem.W.mg_none_of X G h13, PySem.W.mg_none_of X G h14, PySem.W.mg_none_of X G h15,
    ⟨_, PySem.W.mg_of X G c1⟩, ⟨_, PySem.W.mg_of X G c2⟩, ⟨_, PySem.W.mg_of X G c3⟩, ⟨_, PySem.W.mg_of X G c4⟩⟩
/-- the classes of one name are one -/
theorem lawG_ex {l : PySem.W.OpenLaw} {w : World} {K : PySem.W.Frag} {mg : Str → Option Value} {fa : Addr} {h : Heap} {c Pt f : Addr} {n : Nat} {oc : Value} {od an : Option Addr} {osl : Array (Option Value)} {kV doc pm ct : Value} (KX : K.In h) (G : h.Ns mainGlobals mg) (hmg : mg "law" = some (.ref fa))
    (T : Nm mg) (X : ∃ CR CT CN CB, XTxt K mg CR CT CN CB) (D : Dns K mg) (BB : ∃ C, BkC K C ∧ BkD K mg C) (XN : ∃ CN, XCls l.prog K mg "NoCheck" "check" CN) (XR : ∃ CR, XCls l.prog K mg "Refused" "at" CR)
    (ha : PySem.W.nsIn K mainGlobals "law" = some (some (.ref f))) (lk : K.lookup f = some ⟨oc, od, .func (PySem.W.fnOf "law" "law" (defArgs st_law) (defBody st_law) (defScope st_law) .none kV doc pm an (.ref c) ct), osl⟩) (hcd : PySem.W.codeIn K (.ref c) "law" = true)
    (hT : h.get? Pt = some { cls := .none, data := .fields #[] }) (nT : K.lookup Pt = none) (hC : PySem.W.codeHdIn K c Pt = true) : LawG l w K n mg fa h := by
  obtain ⟨CR, CT, CN, CB, X⟩ := X
  obtain ⟨C, B, BD⟩ := BB
  obtain ⟨CN', XN⟩ := XN
  obtain ⟨CR', XR⟩ := XR
  have e1 := X.gN.symm.trans XN.gC
  have e2 := X.gR.symm.trans XR.gC
  cases e1
  cases e2
  exact lawG_of KX G hmg ha lk hcd hT nT hC T X D B BD XN XR
end DW

open PySem PySem.W PyProof.Rows
set_option maxRecDepth 100000 in
set_option maxHeartbeats 0 in
theorem PySem.Challenge.cw_makefirst_k21_whole_checks_that_suit_an_holds : PySem.Challenge.rw_makefirst_k21_whole_checks_that_suit_an.Holds := by
  w_on; o_law; k_head; (case hw => w_witness2)
  k_fill
  refine DW.walk_ofG (l := PySem.Challenge.rw_makefirst_k21_whole_checks_that_suit_an) (n := 63) rfl (by decide) rfl (fun w h Y => km_in_of Y) ?F
  case F =>
    intro w mg fa h Y KX G hmg
    have hTab := km_tabs_of Y
    refine' DW.lawG_ex KX G hmg ?T ?X ?D ?BB ?XN ?XR ?ha ?lk ?hcd ?hT ?nT ?hC
    case T =>
      refine' DW.nm_mk KX G ?h1 ?h2 ?h3 ?h4 ?h5 ?h6 ?h7 ?h8 ?h9 ?h10 ?h11 ?h12 ?h13 ?h14 ?h15 ?c1 ?c2 ?c3 ?c4
      (case h1 => k_is); (case h2 => k_is); (case h3 => k_is); (case h4 => k_is); (case h5 => k_is); (case h6 => k_is); (case h7 => k_is); (case h8 => k_is); (case h9 => k_is); (case h10 => k_is)
      (case h11 => k_is); (case h12 => k_is); (case h13 => k_is); (case h14 => k_is); (case h15 => k_is); (case c1 => k_is); (case c2 => k_is); (case c3 => k_is); (case c4 => k_is)
    case X =>
      refine' ⟨_, _, _, _, DW.xtxt_mk KX G ?gR ?gT ?gN ?gB ?gK ?oR ?oT ?oN ?srr ?snr ?snt ?snn ?cB ?tB ?srb ?snk ?nRB⟩
      (case gR => k_is); (case gT => k_is); (case gN => k_is); (case gB => k_is); (case gK => k_is)
      (case oR => refine' ⟨?_, ?_, ?_, ?_, ?_, ?_, ?_, ?_, ?_, ?_⟩ <;> k_is)
      (case oT => refine' ⟨?_, ?_, ?_, ?_, ?_, ?_, ?_, ?_, ?_, ?_⟩ <;> k_is)
      (case oN => refine' ⟨?_, ?_, ?_, ?_, ?_, ?_, ?_, ?_, ?_, ?_⟩ <;> k_is)
      (case srr => k_is); (case snr => k_is); (case snt => k_is); (case snn => k_is); (case cB => k_is); (case tB => k_is); (case srb => k_is); (case snk => k_is); (case nRB => decide)
    case D =>
      constructor
      · refine' DW.dn_mk KX G rfl (fun _ _ _ _ _ _ us hl => match us, hl with | [_], _ => rfl) ?a ?l ?c ?k; (case a => k_is); (case l => k_is); (case c => k_is); (case k => k_is)
      · refine' DW.dn_mk KX G rfl (fun _ _ _ _ _ _ us hl => match us, hl with | [_], _ => rfl) ?a ?l ?c ?k; (case a => k_is); (case l => k_is); (case c => k_is); (case k => k_is)
      · refine' DW.dn_mk KX G rfl (fun _ _ _ _ _ _ us hl => match us, hl with | [_, _], _ => rfl) ?a ?l ?c ?k; (case a => k_is); (case l => k_is); (case c => k_is); (case k => k_is)
      · refine' DW.dn_mk KX G rfl (fun _ _ _ _ _ _ us hl => match us, hl with | [_, _, _], _ => rfl) ?a ?l ?c ?k; (case a => k_is); (case l => k_is); (case c => k_is); (case k => k_is)
      · refine' DW.dn_mk KX G rfl (fun _ _ _ _ _ _ us hl => match us, hl with | [_], _ => rfl) ?a ?l ?c ?k; (case a => k_is); (case l => k_is); (case c => k_is); (case k => k_is)
      · refine' DW.dn_mk KX G rfl (fun _ _ _ _ _ _ us hl => match us, hl with | [_], _ => rfl) ?a ?l ?c ?k; (case a => k_is); (case l => k_is); (case c => k_is); (case k => k_is)
      · refine' DW.dn_mk KX G rfl (fun _ _ _ _ _ _ us hl => match us, hl with | [_, _], _ => rfl) ?a ?l ?c ?k; (case a => k_is); (case l => k_is); (case c => k_is); (case k => k_is)
      · refine' DW.dn_mk KX G rfl (fun _ _ _ _ _ _ us hl => match us, hl with | [_, _], _ => rfl) ?a ?l ?c ?k; (case a => k_is); (case l => k_is); (case c => k_is); (case k => k_is)
      · refine' DW.dn_mk KX G rfl (fun _ _ _ _ _ _ us hl => match us, hl with | [_], _ => rfl) ?a ?l ?c ?k; (case a => k_is); (case l => k_is); (case c => k_is); (case k => k_is)
      · refine' DW.dn_mk KX G rfl (fun _ _ _ _ _ _ us hl => match us, hl with | [_], _ => rfl) ?a ?l ?c ?k; (case a => k_is); (case l => k_is); (case c => k_is); (case k => k_is)
      · refine' DW.dn_mk KX G rfl (fun _ _ _ _ _ _ us hl => match us, hl with | [_], _ => rfl) ?a ?l ?c ?k; (case a => k_is); (case l => k_is); (case c => k_is); (case k => k_is)
      · refine' DW.dn_mk KX G rfl (fun _ _ _ _ _ _ us hl => match us, hl with | [_, _, _], _ => rfl) ?a ?l ?c ?k; (case a => k_is); (case l => k_is); (case c => k_is); (case k => k_is)
      · refine' DW.dn_mk KX G rfl (fun _ _ _ _ _ _ us hl => match us, hl with | [_, _, _, _], _ => rfl) ?a ?l ?c ?k; (case a => k_is); (case l => k_is); (case c => k_is); (case k => k_is)
      · refine' DW.dn_mk KX G rfl (fun _ _ _ _ _ _ us hl => match us, hl with | [_, _, _, _, _], _ => rfl) ?a ?l ?c ?k; (case a => k_is); (case l => k_is); (case c => k_is); (case k => k_is)
      · refine' DW.dn_mk KX G rfl (fun _ _ _ _ _ _ us hl => match us, hl with | [_, _, _], _ => rfl) ?a ?l ?c ?k; (case a => k_is); (case l => k_is); (case c => k_is); (case k => k_is)
      · refine' DW.dn_mk KX G rfl (fun _ _ _ _ _ _ us hl => match us, hl with | [_, _], _ => rfl) ?a ?l ?c ?k; (case a => k_is); (case l => k_is); (case c => k_is); (case k => k_is)
      · refine' DW.dn_mk KX G rfl (fun _ _ _ _ _ _ us hl => match us, hl with | [_, _, _], _ => rfl) ?a ?l ?c ?k; (case a => k_is); (case l => k_is); (case c => k_is); (case k => k_is)
      · refine' DW.dn_mk KX G rfl (fun _ _ _ _ _ _ us hl => match us, hl with | [_, _], _ => rfl) ?a ?l ?c ?k; (case a => k_is); (case l => k_is); (case c => k_is); (case k => k_is)
      · refine' DW.dn_mk KX G rfl (fun _ _ _ _ _ _ us hl => match us, hl with | [_], _ => rfl) ?a ?l ?c ?k; (case a => k_is); (case l => k_is); (case c => k_is); (case k => k_is)
      · refine' DW.dn_mk KX G rfl (fun _ _ _ _ _ _ us hl => match us, hl with | [_, _], _ => rfl) ?a ?l ?c ?k; (case a => k_is); (case l => k_is); (case c => k_is); (case k => k_is)
      · refine' DW.dn_mk KX G rfl (fun _ _ _ _ _ _ us hl => match us, hl with | [_, _], _ => rfl) ?a ?l ?c ?k; (case a => k_is); (case l => k_is); (case c => k_is); (case k => k_is)
      · refine' DW.dn_mk KX G rfl (fun _ _ _ _ _ _ us hl => match us, hl with | [_, _], _ => rfl) ?a ?l ?c ?k; (case a => k_is); (case l => k_is); (case c => k_is); (case k => k_is)
      · refine' DW.dn_mk KX G rfl (fun _ _ _ _ _ _ us hl => match us, hl with | [_, _, _, _], _ => rfl) ?a ?l ?c ?k; (case a => k_is); (case l => k_is); (case c => k_is); (case k => k_is)
      · refine' DW.dn_mk KX G rfl (fun _ _ _ _ _ _ us hl => match us, hl with | [_, _, _], _ => rfl) ?a ?l ?c ?k; (case a => k_is); (case l => k_is); (case c => k_is); (case k => k_is)
      · refine' DW.dn_mk KX G rfl (fun _ _ _ _ _ _ us hl => match us, hl with | [_, _], _ => rfl) ?a ?l ?c ?k; (case a => k_is); (case l => k_is); (case c => k_is); (case k => k_is)
      · refine' DW.dn_mk KX G rfl (fun _ _ _ _ _ _ us hl => match us, hl with | [_, _, _], _ => rfl) ?a ?l ?c ?k; (case a => k_is); (case l => k_is); (case c => k_is); (case k => k_is)
      · refine' DW.dn_mk KX G rfl (fun _ _ _ _ _ _ us hl => match us, hl with | [_, _, _], _ => rfl) ?a ?l ?c ?k; (case a => k_is); (case l => k_is); (case c => k_is); (case k => k_is)
      · refine' DW.dn_mk KX G rfl (fun _ _ _ _ _ _ us hl => match us, hl with | [_, _], _ => rfl) ?a ?l ?c ?k; (case a => k_is); (case l => k_is); (case c => k_is); (case k => k_is)
      · refine' DW.dn_mk KX G rfl (fun _ _ _ _ _ _ us hl => match us, hl with | [_, _], _ => rfl) ?a ?l ?c ?k; (case a => k_is); (case l => k_is); (case c => k_is); (case k => k_is)
      · refine' DW.dn_mk KX G rfl (fun _ _ _ _ _ _ us hl => match us, hl with | [_, _], _ => rfl) ?a ?l ?c ?k; (case a => k_is); (case l => k_is); (case c => k_is); (case k => k_is)
      · refine' DW.dn_mk KX G rfl (fun _ _ _ _ _ _ us hl => match us, hl with | [_, _], _ => rfl) ?a ?l ?c ?k; (case a => k_is); (case l => k_is); (case c => k_is); (case k => k_is)
      · refine' DW.dn_mk KX G rfl (fun _ _ _ _ _ _ us hl => match us, hl with | [_], _ => rfl) ?a ?l ?c ?k; (case a => k_is); (case l => k_is); (case c => k_is); (case k => k_is)
      · refine' DW.dn_mk KX G rfl (fun _ _ _ _ _ _ us hl => match us, hl with | [_, _, _], _ => rfl) ?a ?l ?c ?k; (case a => k_is); (case l => k_is); (case c => k_is); (case k => k_is)
      · refine' DW.dn_mk KX G rfl (fun _ _ _ _ _ _ us hl => match us, hl with | [_], _ => rfl) ?a ?l ?c ?k; (case a => k_is); (case l => k_is); (case c => k_is); (case k => k_is)
      · refine' DW.dn_mk KX G rfl (fun _ _ _ _ _ _ us hl => match us, hl with | [_, _, _, _], _ => rfl) ?a ?l ?c ?k; (case a => k_is); (case l => k_is); (case c => k_is); (case k => k_is)
      · refine' DW.dn_mk KX G rfl (fun _ _ _ _ _ _ us hl => match us, hl with | [_, _, _], _ => rfl) ?a ?l ?c ?k; (case a => k_is); (case l => k_is); (case c => k_is); (case k => k_is)
      · refine' DW.dn_mk KX G rfl (fun _ _ _ _ _ _ us hl => match us, hl with | [_, _, _], _ => rfl) ?a ?l ?c ?k; (case a => k_is); (case l => k_is); (case c => k_is); (case k => k_is)
      · refine' DW.dn_mk KX G rfl (fun _ _ _ _ _ _ us hl => match us, hl with | [_, _], _ => rfl) ?a ?l ?c ?k; (case a => k_is); (case l => k_is); (case c => k_is); (case k => k_is)
      · refine' DW.dn_mk KX G rfl (fun _ _ _ _ _ _ us hl => match us, hl with | [_, _, _, _], _ => rfl) ?a ?l ?c ?k; (case a => k_is); (case l => k_is); (case c => k_is); (case k => k_is)
      · refine' DW.dn_mk KX G rfl (fun _ _ _ _ _ _ us hl => match us, hl with | [_, _, _], _ => rfl) ?a ?l ?c ?k; (case a => k_is); (case l => k_is); (case c => k_is); (case k => k_is)
      · refine' DW.dn_mk KX G rfl (fun _ _ _ _ _ _ us hl => match us, hl with | [_, _, _], _ => rfl) ?a ?l ?c ?k; (case a => k_is); (case l => k_is); (case c => k_is); (case k => k_is)
      · refine' DW.dn_mk KX G rfl (fun _ _ _ _ _ _ us hl => match us, hl with | [_, _], _ => rfl) ?a ?l ?c ?k; (case a => k_is); (case l => k_is); (case c => k_is); (case k => k_is)
      · refine' DW.dn_mk KX G rfl (fun _ _ _ _ _ _ us hl => match us, hl with | [_, _, _], _ => rfl) ?a ?l ?c ?k; (case a => k_is); (case l => k_is); (case c => k_is); (case k => k_is)
      · refine' DW.dn_mk KX G rfl (fun _ _ _ _ _ _ us hl => match us, hl with | [_, _], _ => rfl) ?a ?l ?c ?k; (case a => k_is); (case l => k_is); (case c => k_is); (case k => k_is)
      · refine' DW.dn_mk KX G rfl (fun _ _ _ _ _ _ us hl => match us, hl with | [_], _ => rfl) ?a ?l ?c ?k; (case a => k_is); (case l => k_is); (case c => k_is); (case k => k_is)
    case BB =>
      refine' ⟨_, ⟨⟨?pg, ?hd, ?po, ?sa⟩, ?n1, ?n2⟩, DW.bkd_mk (dv := .ref _) KX G ?gC ?iC ?l ?c ?k ?df ?mk ?fn ?kC⟩
      (case gC => k_is); (case pg => k_is); (case hd => k_is); (case po => k_is); (case sa => k_is); (case n1 => unfold L2.NoAttr; k_is); (case n2 => unfold L2.NoAttr; k_is)
      (case iC => k_is); (case l => k_is); (case c => k_is); (case k => k_is)
      (case df => refine' DW.dfl_mk ?lt; (case lt => k_is))
      (case mk => k_is); (case fn => k_is); (case kC => k_is)
    case XN =>
      refine' ⟨_, DW.xcls_mk (par := "check") KX G F.excBase_LookupError KErr.kxs_KeyError KErr.initF_KeyError ?gC ?lC ?iC ?lF ?lX ?lD ?kC ?exC ?tyC ?tC ?sa ?noN ?subB ?op ?cd ?sup ?ov ?rl ?ob ?al ?SC ?har ?hs ?hb ?hpos ?hvs ?top (by decide) (by decide)⟩
      (case gC => k_is); (case lC => k_is); (case iC => k_is); (case lF => k_is); (case lX => k_is); (case lD => k_is)
      (case kC => k_is); (case exC => k_is); (case tyC => k_is); (case tC => k_is); (case sa => k_is); (case noN => k_is); (case subB => k_is); (case op => k_is); (case cd => k_is); (case sup => k_is)
      (case ov => exact ⟨rfl, rfl, rfl⟩)
      (case rl => intro _; kernel_rfl)
      (case ob => rfl)
      (case al => kernel_rfl)
      (case SC => exact ⟨rfl, rfl, rfl, by decide, rfl, rfl, rfl, rfl⟩)
      (case har => rfl); (case hs => rfl); (case hb => exact fun _ _ => rfl); (case hpos => rfl)
      (case hvs => rfl)
      (case top => rfl)
    case XR =>
      refine' ⟨_, DW.xcls_mk (par := "at") KX G F.excBase_ValueError kxs_ValueError KErr.initF_ValueError ?gC ?lC ?iC ?lF ?lX ?lD ?kC ?exC ?tyC ?tC ?sa ?noN ?subB ?op ?cd ?sup ?ov ?rl ?ob ?al ?SC ?har ?hs ?hb ?hpos ?hvs ?top (by decide) (by decide)⟩
      (case gC => k_is); (case lC => k_is); (case iC => k_is); (case lF => k_is); (case lX => k_is); (case lD => k_is)
      (case kC => k_is); (case exC => k_is); (case tyC => k_is); (case tC => k_is); (case sa => k_is); (case noN => k_is); (case subB => k_is); (case op => k_is); (case cd => k_is); (case sup => k_is)
      (case ov => exact ⟨rfl, rfl, rfl⟩)
      (case rl => intro _; kernel_rfl)
      (case ob => rfl)
      (case al => kernel_rfl)
      (case SC => exact ⟨rfl, rfl, rfl, by decide, rfl, rfl, rfl, rfl⟩)
      (case har => rfl); (case hs => rfl); (case hb => exact fun _ _ => rfl); (case hpos => rfl)
      (case hvs => rfl)
      (case top => rfl)
    case ha => k_is
    case lk => k_is
    case hcd => k_is
    case hT => exact hTab _ (List.mem_singleton.mpr rfl)
    case nT => kernel_rfl
    case hC => kernel_rfl
