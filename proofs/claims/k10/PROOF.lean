import PyProof.Rows.All
import Wide.All
import OpenK.AllK
import Wide.FinOn
import HandS.ForMost
import HandS.IsInst
import HandS.Exc
import HandS.ExcOwn
import HandS.TryOnly
import HandS.WordsExc
import HandS.WideBits
import HandS.Wide
import HandS.Style
import HandS.More
import HandS.TupAny
import HandS.TupMul
import HandS.Deep
import HandS.CallSlots
import HandS.MakeKwOnly
import HandS.SortInts
import HandS.Zip
import HandS.Rev
import HandS.RevRange
import KE.GoesMore
import KE.GoesEnum
import KE.GoesZip
import KE.BitLaws
import KE.IntBitsLaws
import PyProof.P3Eq
import HandS.Text
import PySem.Challenge.RW_carryworks_k10_words_of_counts
set_option Elab.async false
set_option linter.all false
set_option maxRecDepth 100000
set_option maxHeartbeats 4000000
section
/-! PPCore: pure values, pure denotations, and how they stand to the layer's heap. -/
namespace PP
open PySem PySem.Spec L2

/-- pure values -/
inductive PV where
  | non | bl (b : Bool) | int (i : Int) | str (x : Str)
  | tup (xs : List PV) | lst (xs : List PV)
  /-- a list that is only read: the script -/
  | scr (xs : List PV)
  | obj (c : Nat) (fs : List PV)
  | dct (kvs : List (PV × PV))
  | pset (xs : List PV)
instance : Inhabited PV := ⟨.non⟩

/-- an answer: a value, an exception (its class, its fields), or nothing is said -/
inductive R (α : Type) where
  | ok (a : α) | ex (c : Nat) (fs : List PV) | bad
namespace R
def bind {α β : Type} : R α → (α → R β) → R β
  | .ok a, f => f a
  | .ex c fs, _ => .ex c fs
  | .bad, _ => .bad
def ofOpt {α : Type} : Option α → R α
  | some a => .ok a
  | none => .bad
end R

/-- a slot: nothing, a value that stays as it is, an object of this def's own that nothing else knows -/
inductive Slot where
  | no | fr (d : PV) | ow (d : PV)
  /-- in an __init__: self, its class and what it has so far -/
  | sf (c : Nat) (ds : List PV)
abbrev PEnv := List Slot
/-- how a statement ends -/
inductive Out where
  | nx (ρ : PEnv) | rt (d : PV) | ro (d : PV) | bk (ρ : PEnv) | ct (ρ : PEnv) | ex (c : Nat) (fs : List PV) (ρ : PEnv) | bad

abbrev DE := PEnv → R PV
abbrev DT := PEnv → R Bool
abbrev DA := PEnv → R (List PV)
abbrev DS := PEnv → Out
abbrev DG := PV → PEnv → R PEnv
/-- what the defs answer, by number -/
abbrev Tab := Nat → List PV → R PV

/-! ### the layer's side -/
/-- what is fixed for a program: its written part, its classes (address, names of the attributes in order) -/
structure Cfg where
  K : PySem.W.Frag
  w : World
  /-- the classes' addresses, the names of their attributes in order -/
  cls : Nat → Option Addr
  names : Nat → List Str
  /-- the same of the exceptions -/
  exc : Nat → Option Addr
  exnames : Nat → List Str

/-- plain constants -/
inductive Cst : V → PV → Prop
  | non : Cst .non .non
  | bl (b : Bool) : Cst (.bl b) (.bl b)
  | int (i : Int) : Cst (.int i) (.int i)
  | str (x : Str) : Cst (.str x) (.str x)
def kget : List (PV × PV) → Str → Option PV
  | [], _ => none
  | (.str k, d) :: r, z => if k = z then some d else kget r z
  | _ :: r, z => kget r z
/-- a written dict of the module: text keys, plain constants -/
def KD (G : Cfg) (a : Addr) (kvs : List (PV × PV)) : Prop := ∃ es n, KDict G.K G.w a es n ∧ ∀ z : Str, (kget kvs z = none ∧ PySem.W.nsIn G.K a z = some none) ∨ ∃ d u v, kget kvs z = some d ∧ PySem.W.nsIn G.K a z = some (some u) ∧ RelV v u ∧ Cst v d
mutual
inductive Data (G : Cfg) (F : Hp) : V → PV → Prop
  | non : Data G F .non .non
  | bl (b : Bool) : Data G F (.bl b) (.bl b)
  | int (i : Int) : Data G F (.int i) (.int i)
  | str (x : Str) : Data G F (.str x) (.str x)
  | tup {a : Addr} {vs : List V} {ds : List PV} : SqT G.K F a vs → Datas G F vs ds → Data G F (.ref a) (.tup ds)
  | lst {a : Addr} {vs : List V} {ds : List PV} : F a = some (.lst vs) → Datas G F vs ds → Data G F (.ref a) (.lst ds)
  | scr {a : Addr} {vs : List V} {ds : List PV} : SqL G.K F a vs → Datas G F vs ds → Data G F (.ref a) (.scr ds)
  | dct {a : Addr} {kvs : List (PV × PV)} : KD G a kvs → Data G F (.ref a) (.dct kvs)
  | obj {a C dx : Addr} {c : Nat} {fs : List (Str × V)} {ds : List PV} : G.cls c = some C → F a = some (.ins C dx fs) → fs.map (·.1) = G.names c → Datas G F (fs.map (·.2)) ds → Data G F (.ref a) (.obj c ds)
inductive Datas (G : Cfg) (F : Hp) : List V → List PV → Prop
  | nil : Datas G F [] []
  | cons {v : V} {vs : List V} {d : PV} {ds : List PV} : Data G F v d → Datas G F vs ds → Datas G F (v :: vs) (d :: ds)
end

section
variable {G : Cfg} {F F' H H' : Hp}
theorem rd_same {a : Addr} {u : HO} (e : Same F F') (h : Rd F a u) : Rd F' a u := by
  rcases h with h | ⟨o, h⟩
  · exact .inl (e _ _ h)
  · exact .inr ⟨o, e _ _ h⟩
theorem sqL_same {a : Addr} {xs : List V} (e : Same F F') (h : SqL G.K F a xs) : SqL G.K F' a xs := h.imp (rd_same e) id
theorem sqT_same {a : Addr} {xs : List V} (e : Same F F') (h : SqT G.K F a xs) : SqT G.K F' a xs := h.imp (rd_same e) id
mutual
theorem Data.mono (e : Same F F') : ∀ {v : V} {d : PV}, Data G F v d → Data G F' v d
  | _, _, .non => .non
  | _, _, .bl b => .bl b
  | _, _, .int i => .int i
  | _, _, .str x => .str x
  | _, _, .tup h k => .tup (sqT_same e h) (Datas.mono e k)
  | _, _, .lst h k => .lst (e _ _ h) (Datas.mono e k)
  | _, _, .scr h k => .scr (sqL_same e h) (Datas.mono e k)
  | _, _, .dct h => .dct h
  | _, _, .obj c h n k => .obj c (e _ _ h) n (Datas.mono e k)
theorem Datas.mono (e : Same F F') : ∀ {vs : List V} {ds : List PV}, Datas G F vs ds → Datas G F' vs ds
  | _, _, .nil => .nil
  | _, _, .cons h k => .cons (Data.mono e h) (Datas.mono e k)
end
theorem Cst.data {v : V} {d : PV} (h : Cst v d) : Data G F v d := by
  cases h with
  | non => exact .non
  | bl b => exact .bl b
  | int i => exact .int i
  | str x => exact .str x
theorem Datas.length : ∀ {vs : List V} {ds : List PV}, Datas G F vs ds → vs.length = ds.length
  | _, _, .nil => rfl
  | _, _, .cons _ k => by rw [List.length_cons, List.length_cons, Datas.length k]
theorem Datas.get : ∀ {vs : List V} {ds : List PV} {i : Nat} {v : V}, Datas G F vs ds → vs[i]? = some v → ∃ d, ds[i]? = some d ∧ Data G F v d
  | _, _, _, _, .nil, e => by simp at e
  | _, _, 0, _, .cons h _, e => by simp at e; subst e; exact ⟨_, rfl, h⟩
  | _, _, i + 1, v, .cons _ k, e => by
    obtain ⟨d, h1, h2⟩ := Datas.get (i := i) (v := v) k (by simpa using e)
    exact ⟨d, by simpa using h1, h2⟩
theorem Datas.get' : ∀ {vs : List V} {ds : List PV} {i : Nat} {d : PV}, Datas G F vs ds → ds[i]? = some d → ∃ v, vs[i]? = some v ∧ Data G F v d
  | _, _, _, _, .nil, e => by simp at e
  | _, _, 0, _, .cons h _, e => by simp at e; subst e; exact ⟨_, rfl, h⟩
  | _, _, i + 1, d, .cons _ k, e => by
    obtain ⟨v, h1, h2⟩ := Datas.get' (i := i) (d := d) k (by simpa using e)
    exact ⟨v, by simpa using h1, h2⟩
theorem Datas.append : ∀ {vs ws : List V} {ds es : List PV}, Datas G F vs ds → Datas G F ws es → Datas G F (vs ++ ws) (ds ++ es)
  | _, _, _, _, .nil, k => k
  | _, _, _, _, .cons h k, l => .cons h (Datas.append k l)
theorem Datas.take : ∀ {vs : List V} {ds : List PV} (n : Nat), Datas G F vs ds → Datas G F (vs.take n) (ds.take n)
  | _, _, 0, _ => .nil
  | _, _, _ + 1, .nil => .nil
  | _, _, n + 1, .cons h k => .cons h (Datas.take n k)
theorem Datas.drop : ∀ {vs : List V} {ds : List PV} (n : Nat), Datas G F vs ds → Datas G F (vs.drop n) (ds.drop n)
  | _, _, 0, k => k
  | _, _, _ + 1, .nil => .nil
  | _, _, n + 1, .cons _ k => Datas.drop n k
theorem Datas.set {v : V} {d : PV} (h : Data G F v d) : ∀ {vs : List V} {ds : List PV} (i : Nat), Datas G F vs ds → Datas G F (vs.set i v) (ds.set i d)
  | _, _, _, .nil => .nil
  | _, _, 0, .cons _ k => .cons h k
  | _, _, i + 1, .cons q k => .cons q (Datas.set h i k)
theorem Datas.snoc {vs : List V} {ds : List PV} {v : V} {d : PV} (k : Datas G F vs ds) (h : Data G F v d) : Datas G F (vs ++ [v]) (ds ++ [d]) := k.append (.cons h .nil)
theorem Datas.reverse : ∀ {vs : List V} {ds : List PV}, Datas G F vs ds → Datas G F vs.reverse ds.reverse
  | _, _, .nil => .nil
  | _, _, .cons h k => by
    rw [List.reverse_cons, List.reverse_cons]
    exact (Datas.reverse k).snoc h
theorem Datas.dropLast {vs : List V} {ds : List PV} (k : Datas G F vs ds) : Datas G F vs.dropLast ds.dropLast := by
  rw [List.dropLast_eq_take, List.dropLast_eq_take, k.length]
  exact k.take _
theorem Datas.ints : ∀ (ns : List Int), Datas G F (ns.map V.int) (ns.map PV.int)
  | [] => .nil
  | n :: r => .cons (.int n) (Datas.ints r)
end

/-! ### growing, and the state of a def -/
/-- the stable part F and the heap H have grown: nothing that stood is changed, what is new in F was not in H -/
structure Grow (F H F' H' : Hp) : Prop where
  f : Same F F'
  h : Same H H'
  fh : Same F' H'
  new : ∀ a o, F' a = some o → F a = some o ∨ H a = none
/-- the entry of a def: its stable part, its heap -/
structure Wd where
  F0 : Hp
  H0 : Hp
  self : Option Addr := none
structure Base (w : Wd) (F H : Hp) : Prop where
  f : Same w.F0 F
  h : ∀ b o, w.self ≠ some b → w.H0 b = some o → H b = some o
  hp : ∀ p, w.self = some p → ∃ o, H p = some o
  fh : Same F H
  new : ∀ a o, F a = some o → w.F0 a = some o ∨ w.H0 a = none
section
variable {G : Cfg} {w : Wd} {F F' F'' H H' H'' : Hp}
theorem Grow.refl (e : Same F H) : Grow F H F H := ⟨.refl _, .refl _, e, fun _ _ h => .inl h⟩
theorem Grow.trans (a : Grow F H F' H') (b : Grow F' H' F'' H'') : Grow F H F'' H'' :=
  ⟨a.f.trans b.f, a.h.trans b.h, b.fh, fun x o e => by
    rcases b.new x o e with e | e
    · exact a.new x o e
    · exact .inr (a.h.free e)⟩
theorem Base.free {a : Addr} (b : Base w F H) (e : H a = none) : w.H0 a = none := by
  by_cases hs : w.self = some a
  · obtain ⟨o, h⟩ := b.hp a hs
    rw [e] at h
    cases h
  · cases q : w.H0 a with
    | none => rfl
    | some o =>
      rw [b.h a o hs q] at e
      cases e
theorem Base.grow (b : Base w F H) (g : Grow F H F' H') : Base w F' H' :=
  ⟨b.f.trans g.f, fun x o n q => g.h _ _ (b.h x o n q), fun p hp => by
    obtain ⟨o, h⟩ := b.hp p hp
    exact ⟨o, g.h _ _ h⟩, g.fh, fun a o e => by
    rcases g.new a o e with e | e
    · exact b.new a o e
    · exact .inr (b.free e)⟩
theorem Base.to (b : Base w F H) (hs : w.self = none) : Grow w.F0 w.H0 F H := ⟨b.f, fun x o q => b.h x o (by rw [hs]; exact fun z => nomatch z) q, b.fh, b.new⟩
/-- a new object goes to the stable part -/
theorem Grow.laid {p : Addr} {o : HO} (e : Same F H) (n : H p = none) : Grow F H (upd F p o) (upd H p o) := by
  have nf : F p = none := e.free n
  refine ⟨fun a u q => ?_, fun a u q => ?_, fun a u q => ?_, fun a u q => ?_⟩
  · rw [upd_ne (ne_of_none q nf)]; exact q
  · rw [upd_ne (ne_of_none q n)]; exact q
  · by_cases h : a = p
    · subst h; rw [upd_same] at q ⊢; exact q
    · rw [upd_ne h] at q ⊢; exact e _ _ q
  · by_cases h : a = p
    · subst h; exact .inr n
    · rw [upd_ne h] at q; exact .inl q
/-- a new object that stays apart -/
theorem Grow.apart {p : Addr} {o : HO} (e : Same F H) (n : H p = none) : Grow F H F (upd H p o) :=
  ⟨.refl _, fun a u q => by rw [upd_ne (ne_of_none q n)]; exact q, fun a u q => by rw [upd_ne (ne_of_none (e _ _ q) n)]; exact e _ _ q, fun _ _ q => .inl q⟩
theorem Grow.heap (e : Same F H) (g : Same H H') : Grow F H F H' := ⟨.refl _, g, e.trans g, fun _ _ q => .inl q⟩
end

/-- an own object at a, that the stable part does not know -/
def OwnAt (G : Cfg) (F H : Hp) (a : Addr) : PV → Prop
  | .lst ds => ∃ vs, H a = some (.lst vs) ∧ Datas G F vs ds
  | _ => False
def SlotOk (G : Cfg) (w : Wd) (F H : Hp) : Slot → Option V → Prop
  | .no, _ => True
  | .fr d, v => ∃ x, v = some x ∧ Data G F x d
  | .ow d, v => ∃ a, v = some (.ref a) ∧ F a = none ∧ w.H0 a = none ∧ OwnAt G F H a d
  | .sf c ds, v => ∃ p C dx fs, v = some (.ref p) ∧ w.self = some p ∧ F p = none ∧ (∃ o, w.H0 p = some o) ∧ G.cls c = some C ∧ H p = some (.ins C dx fs) ∧ fs.map (·.1) = (G.names c).take ds.length ∧ Datas G F (fs.map (·.2)) ds
structure Rel (G : Cfg) (w : Wd) (F H : Hp) (ρ : PEnv) (σ : St) : Prop where
  base : Base w F H
  len : ρ.length = σ.length
  ok : ∀ (i : Nat) (s : Slot), ρ[i]? = some s → ∃ v, σ[i]? = some v ∧ SlotOk G w F H s v
  sep : ∀ (i j : Nat) (a : Addr) (di dj : PV), i ≠ j → ρ[i]? = some (.ow di) → ρ[j]? = some (.ow dj) → σ[i]? = some (some (.ref a)) → σ[j]? = some (some (.ref a)) → False
section
variable {G : Cfg} {w : Wd} {F F' H H' : Hp} {ρ : PEnv} {σ : St}
theorem OwnAt.there {a : Addr} : ∀ {d : PV}, OwnAt G F H a d → ∃ o, H a = some o
  | .lst _, ⟨_, e, _⟩ => ⟨_, e⟩
theorem OwnAt.grow {a : Addr} (g : Grow F H F' H') : ∀ {d : PV}, OwnAt G F H a d → OwnAt G F' H' a d
  | .lst _, ⟨vs, e, k⟩ => ⟨vs, g.h _ _ e, k.mono g.f⟩
theorem SlotOk.grow (g : Grow F H F' H') : ∀ {s : Slot} {v : Option V}, SlotOk G w F H s v → SlotOk G w F' H' s v
  | .no, _, _ => trivial
  | .fr d, _, ⟨x, e, h⟩ => ⟨x, e, h.mono g.f⟩
  | .ow d, _, ⟨a, e, n, n0, o⟩ => by
    have z : F' a = none := by
      obtain ⟨u, hu⟩ := o.there
      cases q : F' a with
      | none => rfl
      | some z =>
        rcases g.new a z q with q | q
        · rw [n] at q; cases q
        · rw [hu] at q; cases q
    exact ⟨a, e, z, n0, o.grow g⟩
  | .sf c ds, _, ⟨p, C, dx, fs, e, es, n, hp, ec, eh, en, k⟩ => by
    have z : F' p = none := by
      cases q : F' p with
      | none => rfl
      | some z =>
        rcases g.new p z q with q | q
        · rw [n] at q; cases q
        · rw [eh] at q; cases q
    exact ⟨p, C, dx, fs, e, es, z, hp, ec, g.h _ _ eh, en, k.mono g.f⟩
theorem Rel.grow (r : Rel G w F H ρ σ) (g : Grow F H F' H') : Rel G w F' H' ρ σ :=
  ⟨r.base.grow g, r.len, fun i s e => by
    obtain ⟨v, h1, h2⟩ := r.ok i s e
    exact ⟨v, h1, h2.grow g⟩, r.sep⟩
theorem Rel.fr (r : Rel G w F H ρ σ) {i : Nat} {d : PV} (e : ρ[i]? = some (.fr d)) : ∃ x, σ[i]? = some (some x) ∧ Data G F x d := by
  obtain ⟨v, h1, x, rfl, h2⟩ := r.ok i _ e
  exact ⟨x, h1, h2⟩
/-- a slot is given a stable value -/
theorem Rel.put (r : Rel G w F H ρ σ) {i : Nat} {x : V} {d : PV} (h : Data G F x d) : Rel G w F H (ρ.set i (.fr d)) (σ.set i (some x)) := by
  refine ⟨r.base, by simp [r.len], fun j s e => ?_, fun j k a dj dk hne e1 e2 e3 e4 => ?_⟩
  · by_cases hj : i = j
    · subst hj
      by_cases hl : i < ρ.length
      · rw [List.getElem?_set_self hl] at e
        cases e
        exact ⟨some x, List.getElem?_set_self (by rw [← r.len]; exact hl), x, rfl, h⟩
      · rw [List.getElem?_eq_none (by simpa using hl)] at e; cases e
    · rw [List.getElem?_set_ne hj] at e
      obtain ⟨v, h1, h2⟩ := r.ok j s e
      exact ⟨v, by rw [List.getElem?_set_ne hj]; exact h1, h2⟩
  · have f : ∀ {j : Nat} {dj : PV}, (ρ.set i (.fr d))[j]? = some (.ow dj) → i ≠ j ∧ ρ[j]? = some (.ow dj) := fun {j dj} e => by
      by_cases hj : i = j
      · subst hj
        by_cases hl : i < ρ.length
        · rw [List.getElem?_set_self hl] at e; cases e
        · rw [List.getElem?_eq_none (by simpa using hl)] at e; cases e
      · rw [List.getElem?_set_ne hj] at e
        exact ⟨hj, e⟩
    obtain ⟨n1, q1⟩ := f e1
    obtain ⟨n2, q2⟩ := f e2
    rw [List.getElem?_set_ne n1] at e3
    rw [List.getElem?_set_ne n2] at e4
    exact r.sep j k a dj dk hne q1 q2 e3 e4
/-- a slot is given an own object -/
theorem Rel.putO (r : Rel G w F H ρ σ) {i : Nat} {a : Addr} {d : PV} (hf : F a = none) (h0 : w.H0 a = none) (h : OwnAt G F H a d) (hn : ∀ (j : Nat) (dj : PV), i ≠ j → ρ[j]? = some (.ow dj) → σ[j]? ≠ some (some (.ref a))) :
    Rel G w F H (ρ.set i (.ow d)) (σ.set i (some (.ref a))) := by
  refine ⟨r.base, by simp [r.len], fun j s e => ?_, fun j k b dj dk hne e1 e2 e3 e4 => ?_⟩
  · by_cases hj : i = j
    · subst hj
      by_cases hl : i < ρ.length
      · rw [List.getElem?_set_self hl] at e
        cases e
        exact ⟨some (.ref a), List.getElem?_set_self (by rw [← r.len]; exact hl), a, rfl, hf, h0, h⟩
      · rw [List.getElem?_eq_none (by simpa using hl)] at e; cases e
    · rw [List.getElem?_set_ne hj] at e
      obtain ⟨v, h1, h2⟩ := r.ok j s e
      exact ⟨v, by rw [List.getElem?_set_ne hj]; exact h1, h2⟩
  · have lt : ∀ {j : Nat} {s : Slot}, (ρ.set i (.ow d))[j]? = some s → j < σ.length := fun {j s} e => by
      have := (List.getElem?_eq_some_iff.mp e).1
      rw [List.length_set, r.len] at this
      exact this
    by_cases hj : i = j
    · subst hj
      have hk : i ≠ k := hne
      rw [List.getElem?_set_ne hk] at e2 e4
      rw [List.getElem?_set_self (lt e1)] at e3
      cases e3
      exact hn k dk hk e2 e4
    · rw [List.getElem?_set_ne hj] at e1 e3
      by_cases hk : i = k
      · subst hk
        rw [List.getElem?_set_self (lt e2)] at e4
        cases e4
        exact hn j dj hj e1 e3
      · rw [List.getElem?_set_ne hk] at e2 e4
        exact r.sep j k b dj dk hne e1 e2 e3 e4
/-- the own objects are other than one that is new -/
theorem Rel.fresh (r : Rel G w F H ρ σ) {p : Addr} (n : H p = none) : ∀ (j : Nat) (dj : PV), ρ[j]? = some (.ow dj) → σ[j]? ≠ some (some (.ref p)) := fun j dj e q => by
  obtain ⟨v, h1, a, rfl, _, _, o⟩ := r.ok j _ e
  rw [h1] at q
  cases q
  obtain ⟨u, hu⟩ := o.there
  rw [n] at hu
  cases hu
/-- the object of slot i is changed -/
theorem Rel.change (r : Rel G w F H ρ σ) {i : Nat} {a : Addr} {d d' : PV} {o : HO} (e : ρ[i]? = some (.ow d)) (es : σ[i]? = some (some (.ref a))) (h : OwnAt G F (upd H a o) a d') :
    Rel G w F (upd H a o) (ρ.set i (.ow d')) σ := by
  obtain ⟨v, h1, b, rfl, hf, h0, ho⟩ := r.ok i _ e
  rw [es] at h1
  cases h1
  have base' : Base w F (upd H a o) := ⟨r.base.f, fun b u hn q => by rw [upd_ne (fun z => by rw [z, h0] at q; cases q)]; exact r.base.h _ _ hn q, fun p hp => by
    by_cases hb : p = a
    · exact ⟨o, by rw [hb, upd_same]⟩
    · rw [upd_ne hb]; exact r.base.hp p hp, fun b u q => by rw [upd_ne (fun z => by rw [z, hf] at q; cases q)]; exact r.base.fh _ _ q, r.base.new⟩
  have hl : i < ρ.length := (List.getElem?_eq_some_iff.mp e).1
  refine ⟨base', by simp [r.len], fun j s e1 => ?_, fun j k b dj dk hne e1 e2 e3 e4 => ?_⟩
  · by_cases hj : i = j
    · subst hj
      rw [List.getElem?_set_self hl] at e1
      cases e1
      exact ⟨_, es, a, rfl, hf, h0, h⟩
    · rw [List.getElem?_set_ne hj] at e1
      obtain ⟨v, h1, h2⟩ := r.ok j s e1
      refine ⟨v, h1, ?_⟩
      cases s with
      | no => trivial
      | fr d => exact h2
      | ow dd =>
        obtain ⟨b, rfl, q1, q2, q3⟩ := h2
        refine ⟨b, rfl, q1, q2, ?_⟩
        have nb : b ≠ a := fun z => r.sep i j a d dd hj e e1 es (by rw [h1, z])
        cases dd with
        | lst ds =>
          obtain ⟨vs, q4, q5⟩ := q3
          exact ⟨vs, by rw [upd_ne nb]; exact q4, q5⟩
        | _ => exact q3.elim
      | sf c ds =>
        obtain ⟨p, C, dx, fs, rfl, q1, q2, q3, q4, q5, q6, q7⟩ := h2
        have nb : p ≠ a := fun z => by
          obtain ⟨u, q3⟩ := q3
          rw [z, h0] at q3; cases q3
        exact ⟨p, C, dx, fs, rfl, q1, q2, q3, q4, by rw [upd_ne nb]; exact q5, q6, q7⟩
  · have f : ∀ {j : Nat} {dj : PV}, (ρ.set i (.ow d'))[j]? = some (.ow dj) → ∃ dj', ρ[j]? = some (.ow dj') := fun {j dj} e1 => by
      by_cases hj : i = j
      · subst hj; exact ⟨d, e⟩
      · rw [List.getElem?_set_ne hj] at e1
        exact ⟨_, e1⟩
    obtain ⟨d1, q1⟩ := f e1
    obtain ⟨d2, q2⟩ := f e2
    exact r.sep j k b d1 d2 hne q1 q2 e3 e4
/-- the object of slot i goes to the stable part -/
theorem Rel.freeze (r : Rel G w F H ρ σ) {i : Nat} {d : PV} (e : ρ[i]? = some (.ow d)) : ∃ F', Same F F' ∧ Rel G w F' H (ρ.set i (.fr d)) σ := by
  obtain ⟨v, h1, a, rfl, hf, h0, ho⟩ := r.ok i _ e
  cases d with
  | lst ds =>
    obtain ⟨vs, q4, q5⟩ := ho
    have sf : Same F (upd F a (.lst vs)) := fun b u q => by rw [upd_ne (ne_of_none q hf)]; exact q
    have sh : Same (upd F a (.lst vs)) H := fun b u q => by
      by_cases hb : b = a
      · subst hb; rw [upd_same] at q; cases q; exact q4
      · rw [upd_ne hb] at q; exact r.base.fh _ _ q
    have nw : ∀ b u, upd F a (.lst vs) b = some u → F b = some u ∨ w.H0 b = none := fun b u q => by
      by_cases hb : b = a
      · subst hb; exact .inr h0
      · rw [upd_ne hb] at q; exact .inl q
    have hl : i < ρ.length := (List.getElem?_eq_some_iff.mp e).1
    refine ⟨upd F a (.lst vs), sf, ⟨⟨r.base.f.trans sf, r.base.h, r.base.hp, sh, fun b u q => ?_⟩, by simp [r.len], fun j s e1 => ?_, fun j k b dj dk hne e1 e2 e3 e4 => ?_⟩⟩
    · rcases nw b u q with q | q
      · exact r.base.new b u q
      · exact .inr q
    · by_cases hj : i = j
      · subst hj
        rw [List.getElem?_set_self hl] at e1
        cases e1
        exact ⟨_, h1, _, rfl, .lst upd_same (q5.mono sf)⟩
      · rw [List.getElem?_set_ne hj] at e1
        obtain ⟨v, h2, h3⟩ := r.ok j s e1
        refine ⟨v, h2, ?_⟩
        cases s with
        | no => trivial
        | fr d =>
          obtain ⟨x, q6, q7⟩ := h3
          exact ⟨x, q6, q7.mono sf⟩
        | ow dd =>
          obtain ⟨b, rfl, q6, q7, q8⟩ := h3
          have nb : b ≠ a := fun z => r.sep i j a _ dd hj e e1 h1 (by rw [h2, z])
          refine ⟨b, rfl, by rw [upd_ne nb]; exact q6, q7, ?_⟩
          cases dd with
          | lst es =>
            obtain ⟨us, z4, z5⟩ := q8
            exact ⟨us, z4, z5.mono sf⟩
          | _ => exact q8.elim
        | sf c ds' =>
          obtain ⟨p, C, dx, fs, rfl, q1, q2, q3, q4', q5', q6, q7⟩ := h3
          have nb : p ≠ a := fun z => by
            obtain ⟨u, q3⟩ := q3
            rw [z, h0] at q3; cases q3
          exact ⟨p, C, dx, fs, rfl, q1, by rw [upd_ne nb]; exact q2, q3, q4', q5', q6, q7.mono sf⟩
    · have f : ∀ {j : Nat} {dj : PV}, (ρ.set i (.fr (.lst ds)))[j]? = some (.ow dj) → ρ[j]? = some (.ow dj) := fun {j dj} e1 => by
        by_cases hj : i = j
        · subst hj
          rw [List.getElem?_set_self hl] at e1
          cases e1
        · rw [List.getElem?_set_ne hj] at e1
          exact e1
      exact r.sep j k b dj dk hne (f e1) (f e2) e3 e4
  | _ => exact ho.elim
/-- self is given one more attribute -/
theorem Rel.setF (r : Rel G w F H ρ σ) {i : Nat} {c : Nat} {ds : List PV} {p C : Addr} {dx : Addr} {fs : List (Str × V)} {f : Str} {x : V} {d : PV} (e : ρ[i]? = some (.sf c ds)) (es : w.self = some p) (ec : G.cls c = some C) (eh : H p = some (.ins C dx fs)) (np : F p = none) (hp0 : ∃ o, w.H0 p = some o) (ev : σ[i]? = some (some (.ref p)))
    (en : fs.map (·.1) = (G.names c).take ds.length) (hf : (G.names c)[ds.length]? = some f) (k : Datas G F (fs.map (·.2)) ds) (h : Data G F x d) (one : ∀ j, j ≠ i → ∀ c' ds', ρ[j]? ≠ some (.sf c' ds')) : Rel G w F (upd H p (.ins C dx (fs ++ [(f, x)]))) (ρ.set i (.sf c (ds ++ [d]))) σ := by
  have hl : i < ρ.length := (List.getElem?_eq_some_iff.mp e).1
  refine ⟨⟨r.base.f, fun b u hn q => ?_, fun p' hp => ?_, fun b u q => ?_, r.base.new⟩, by simp [r.len], fun j s e1 => ?_, fun j k b dj dk hne e1 e2 e3 e4 => ?_⟩
  · rw [upd_ne (fun z => hn (by rw [z]; exact es))]; exact r.base.h _ _ hn q
  · by_cases hb : p' = p
    · exact ⟨_, by rw [hb, upd_same]⟩
    · rw [upd_ne hb]; exact r.base.hp p' hp
  · rw [upd_ne (fun z => by rw [z, np] at q; cases q)]; exact r.base.fh _ _ q
  · by_cases hj : i = j
    · subst hj
      rw [List.getElem?_set_self hl] at e1
      cases e1
      refine ⟨_, ev, p, C, dx, fs ++ [(f, x)], rfl, es, np, hp0, ec, upd_same, ?_, ?_⟩
      · rw [List.map_append, en, List.length_append, List.length_singleton, List.take_add_one, hf]
        rfl
      · rw [List.map_append]
        exact k.snoc h
    · rw [List.getElem?_set_ne hj] at e1
      obtain ⟨v, h1, h2⟩ := r.ok j s e1
      refine ⟨v, h1, ?_⟩
      cases s with
      | no => trivial
      | fr d => exact h2
      | ow dd =>
        obtain ⟨b, rfl, q1, q2, q3⟩ := h2
        obtain ⟨o, hp0⟩ := hp0
        have nb : b ≠ p := fun z => by rw [z, hp0] at q2; cases q2
        refine ⟨b, rfl, q1, q2, ?_⟩
        cases dd with
        | lst ds =>
          obtain ⟨vs, q4, q5⟩ := q3
          exact ⟨vs, by rw [upd_ne nb]; exact q4, q5⟩
        | _ => exact q3.elim
      | sf c' ds' => exact absurd e1 (one j (Ne.symm hj) c' ds')
  · have f : ∀ {j : Nat} {dj : PV}, (ρ.set i (.sf c (ds ++ [d])))[j]? = some (.ow dj) → ρ[j]? = some (.ow dj) := fun {j dj} e1 => by
      by_cases hj : i = j
      · subst hj
        rw [List.getElem?_set_self hl] at e1
        cases e1
      · rw [List.getElem?_set_ne hj] at e1
        exact e1
    exact r.sep j k b dj dk hne (f e1) (f e2) e3 e4
end
end PP

/-! PPRules: for each construct, that the denotation is what the layer's reading asks. -/
namespace PP
open PySem PySem.Spec L2

/-- borrowed: stable, or an own object that is only looked at -/
def DataB (G : Cfg) (F H : Hp) (v : V) (d : PV) : Prop := Data G F v d ∨ ∃ a, v = .ref a ∧ OwnAt G F H a d
inductive Kd where
  | s | b | n
/-- what an expression leaves: a stable value, a borrowed one, a new object (H0: the heap ahead of it) -/
def DataX (G : Cfg) : Kd → Hp → Hp → Hp → V → PV → Prop
  | .s, _, F, _, v, d => Data G F v d
  | .b, _, F, H, v, d => DataB G F H v d
  | .n, H0, F, H, v, d => ∃ a, v = .ref a ∧ H0 a = none ∧ F a = none ∧ OwnAt G F H a d
def ExD (G : Cfg) (F H : Hp) (c : Nat) (fs : List PV) (cls : Value) (dd : Option Addr) : Prop :=
  ∃ C gs a vs, G.exc c = some C ∧ cls = .ref C ∧ dd = some a ∧ H a = some (.xd gs) ∧ (G.exnames c).map (fun n => gs.lookup n) = vs.map some ∧ Datas G F vs fs

section
variable {G : Cfg} {w : Wd} {F F' F'' H H' H'' : Hp} {k : Kd} {v : V} {d : PV} {ρ : PEnv} {σ : L2.St}
theorem DataB.grow (g : Grow F H F' H') (h : DataB G F H v d) : DataB G F' H' v d := by
  rcases h with h | ⟨a, e, h⟩
  · exact .inl (h.mono g.f)
  · exact .inr ⟨a, e, h.grow g⟩
theorem DataX.toB (h : DataX G k H F' H' v d) : DataB G F' H' v d := by
  cases k with
  | s => exact .inl h
  | b => exact h
  | n =>
    obtain ⟨a, e, _, _, h⟩ := h
    exact .inr ⟨a, e, h⟩
def Kd.st : Kd → Bool
  | .b => false
  | _ => true
/-- what is new or stable can be made stable -/
theorem DataX.stable (hk : k.st = true) (g : Grow F H F' H') (h : DataX G k H F' H' v d) : ∃ F'', Grow F H F'' H' ∧ Data G F'' v d := by
  cases k with
  | s => exact ⟨F', g, h⟩
  | b => cases hk
  | n =>
    obtain ⟨a, rfl, n0, nf, h⟩ := h
    cases d with
    | lst ds =>
      obtain ⟨vs, e, k⟩ := h
      have sf : Same F' (upd F' a (.lst vs)) := fun b u q => by rw [upd_ne (ne_of_none q nf)]; exact q
      refine ⟨upd F' a (.lst vs), ⟨g.f.trans sf, g.h, fun b u q => ?_, fun b u q => ?_⟩, .lst upd_same (k.mono sf)⟩
      · by_cases hb : b = a
        · subst hb; rw [upd_same] at q; cases q; exact e
        · rw [upd_ne hb] at q; exact g.fh _ _ q
      · by_cases hb : b = a
        · subst hb; exact .inr n0
        · rw [upd_ne hb] at q; exact g.new b u q
    | _ => exact h.elim

/-! ### the readings -/
def ARes (G : Cfg) (W : WX) (k : Kd) (F H : Hp) (σ : L2.St) (Q : VK) : R PV → Prop
  | .ok d => ∀ v F' H', Grow F H F' H' → DataX G k H F' H' v d → Q v H'
  | .ex c fs => ∀ cls dd F' H', Grow F H F' H' → ExD G F' H' c fs cls dd → W cls dd σ H'
  | .bad => False
def tE (G : Cfg) (W : WX) (k : Kd) (f : DE) : TE := fun σ H Q => ∃ w F ρ, Rel G w F H ρ σ ∧ ARes G W k F H σ Q (f ρ)
def BRes (G : Cfg) (W : WX) (F H : Hp) (σ : L2.St) (Q : Bool → Hp → Prop) : R Bool → Prop
  | .ok b => ∀ F' H', Grow F H F' H' → Q b H'
  | .ex c fs => ∀ cls dd F' H', Grow F H F' H' → ExD G F' H' c fs cls dd → W cls dd σ H'
  | .bad => False
def tT (G : Cfg) (W : WX) (f : DT) : TT := fun σ H Q => ∃ w F ρ, Rel G w F H ρ σ ∧ BRes G W F H σ Q (f ρ)
inductive DatasB (G : Cfg) (F H : Hp) : List V → List PV → Prop
  | nil : DatasB G F H [] []
  | cons {v : V} {vs : List V} {d : PV} {ds : List PV} : DataB G F H v d → DatasB G F H vs ds → DatasB G F H (v :: vs) (d :: ds)
theorem DatasB.grow (g : Grow F H F' H') : ∀ {vs : List V} {ds : List PV}, DatasB G F H vs ds → DatasB G F' H' vs ds
  | _, _, .nil => .nil
  | _, _, .cons h k => .cons (h.grow g) (DatasB.grow g k)
def DatasX (G : Cfg) : Bool → Hp → Hp → List V → List PV → Prop
  | true, F, _, vs, ds => Datas G F vs ds
  | false, F, H, vs, ds => DatasB G F H vs ds
/-- st: all arguments stable; else borrowed -/
def LRes (G : Cfg) (W : WX) (st : Bool) (F H : Hp) (σ : L2.St) (Q : List V → Hp → Prop) : R (List PV) → Prop
  | .ok ds => ∀ vs F' H', Grow F H F' H' → DatasX G st F' H' vs ds → Q vs H'
  | .ex c fs => ∀ cls dd F' H', Grow F H F' H' → ExD G F' H' c fs cls dd → W cls dd σ H'
  | .bad => False
def tA (G : Cfg) (W : WX) (st : Bool) (f : DA) : TA := fun σ H Q => ∃ w F ρ, Rel G w F H ρ σ ∧ LRes G W st F H σ Q (f ρ)
def SRes (G : Cfg) (W : WX) (w : Wd) (F : Hp) (D : Ends) : Out → Prop
  | .nx ρ' => ∀ σ' F' H', Same F F' → Rel G w F' H' ρ' σ' → D.nx σ' H'
  | .rt d => ∀ v F' H', Base w F' H' → Data G F' v d → D.rt v H'
  | .ro d => ∀ v F' H', Base w F' H' → (∃ a, v = .ref a ∧ w.H0 a = none ∧ F' a = none ∧ OwnAt G F' H' a d) → D.rt v H'
  | .bk ρ' => ∀ σ' F' H', Same F F' → Rel G w F' H' ρ' σ' → D.bk σ' H'
  | .ct ρ' => ∀ σ' F' H', Same F F' → Rel G w F' H' ρ' σ' → D.ct σ' H'
  | .ex c fs ρ' => ∀ cls dd σ' F' H', Same F F' → Rel G w F' H' ρ' σ' → ExD G F' H' c fs cls dd → W cls dd σ' H'
  | .bad => False
def tS (G : Cfg) (W : WX) (s : DS) : TS := fun D σ H => ∃ w F ρ, Rel G w F H ρ σ ∧ SRes G W w F D (s ρ)
/-- what a for walks: ds from F on -/
structure Walks (G : Cfg) (J : It) (F : Hp) (ds : List PV) : Prop where
  go : ∀ (i : Nat) (H : Hp), Same F H → i < ds.length → J.go i H
  stop : ∀ (i : Nat) (H : Hp), Same F H → i = ds.length → J.stop i H
  yld : ∀ (i : Nat) (F1 H : Hp) (x : V) (H' : Hp), Same F F1 → Same F1 H → i < ds.length → J.yld i H x H' → ∃ d F2, ds[i]? = some d ∧ Grow F1 H F2 H' ∧ Data G F2 x d
def IRes (G : Cfg) (W : WX) (F H : Hp) (σ : L2.St) (R' : It → Hp → Prop) : R (List PV) → Prop
  | .ok ds => ∀ J F' H', Grow F H F' H' → Walks G J F' ds → R' J H'
  | .ex c fs => ∀ cls dd F' H', Grow F H F' H' → ExD G F' H' c fs cls dd → W cls dd σ H'
  | .bad => False
def tI (G : Cfg) (W : WX) (f : DA) : TI := fun σ H Q => ∃ w F ρ, Rel G w F H ρ σ ∧ IRes G W F H σ Q (f ρ)
/-- ts: the slots that the target stores -/
def GRes (G : Cfg) (w : Wd) (F H : Hp) (ts : List Nat) (σ : L2.St) (Q : L2.St → Hp → Prop) : R PEnv → Prop
  | .ok ρ' => ∀ σ', Rel G w F H ρ' σ' → (∀ vs : List Nat, (∀ i ∈ ts, i ∈ vs) → wipe σ' vs = wipe σ vs) → Q σ' H
  | _ => False
def tG (G : Cfg) (ts : List Nat) (g : DG) : TG := fun v σ H Q => ∃ w F ρ d, Rel G w F H ρ σ ∧ Data G F v d ∧ GRes G w F H ts σ Q (g d ρ)
def tGs (G : Cfg) (ts : List Nat) (g : List PV → PEnv → R PEnv) : TGs := fun vs σ H Q => ∃ w F ρ ds, Rel G w F H ρ σ ∧ Datas G F vs ds ∧ GRes G w F H ts σ Q (g ds ρ)
end

/-! ### the judgements -/
/-- the context is of this program -/
class CK (G : Cfg) (X : Cx) : Prop where
  k : G.K = X.K
  w : G.w = X.w
  cl : ∀ c C, G.cls c = some C → Cls X.K C ∧ ∀ f ∈ G.names c, NoAttr X.K C f
instance {G : Cfg} {X : Cx} [c : CK G X] {s : Shared} {H : Hp} {sc : Scope} {env : Env} {fp : List Addr} : CK G (X.blk s H sc env fp) := ⟨c.k, c.w, c.cl⟩
instance {G : Cfg} {X : Cx} [c : CK G X] {E : Value → Shared → Prop} : CK G (X.wish E) := ⟨c.k, c.w, c.cl⟩
instance {G : Cfg} {X : Cx} [c : CK G X] {pn : List (Addr × Obj)} {xe : Value → Shared → Prop} : CK G (X.tr pn xe) := ⟨c.k, c.w, c.cl⟩
instance {G : Cfg} {X : Cx} [c : CK G X] {a : Addr} {pn : List (Addr × Obj)} : CK G (X.suite a pn) := ⟨c.k, c.w, c.cl⟩
theorem sqTX {G : Cfg} {X : Cx} [c : CK G X] {H : Hp} {a : Addr} {xs : List V} (h : SqT G.K H a xs) : SqT X.K H a xs := c.k ▸ h
theorem sqLX {G : Cfg} {X : Cx} [c : CK G X] {H : Hp} {a : Addr} {xs : List V} (h : SqL G.K H a xs) : SqL X.K H a xs := c.k ▸ h
theorem sqXT {G : Cfg} {X : Cx} [c : CK G X] {H : Hp} {a : Addr} {xs : List V} (h : SqT X.K H a xs) : SqT G.K H a xs := c.k.symm ▸ h
theorem sqXL {G : Cfg} {X : Cx} [c : CK G X] {H : Hp} {a : Addr} {xs : List V} (h : SqL X.K H a xs) : SqL G.K H a xs := c.k.symm ▸ h
section
variable (G : Cfg) (X : Cx) (W : WX)
abbrev EOk (k : Kd) (e : Expr) (f : DE) : Prop := PE X e (tE G W k f)
abbrev TOk (e : Expr) (f : DT) : Prop := PT X e (tT G W f)
abbrev WOk (e : Expr) (f : DT) : Prop := PW X e (tT G W f)
abbrev AOk (st : Bool) (es : List Expr) (f : DA) : Prop := PA X es (tA G W st f)
abbrev SOk (st : Stmt) (s : DS) : Prop := PS X st (tS G W s)
abbrev SsOk (sts : List Stmt) (s : DS) : Prop := PSs X sts (tS G W s)
abbrev IOk (tg iter : Expr) (f : DA) : Prop := PI X tg iter (tI G W f)
abbrev GOk (ts : List Nat) (tg : Expr) (g : DG) : Prop := PG X tg (tG G ts g)
abbrev GsOk (ts : List Nat) (tgs : List Expr) (g : List PV → PEnv → R PEnv) : Prop := PGs X tgs (tGs G ts g)
end

section
variable {G : Cfg} {X : Cx} {W : WX} {k k1 k2 : Kd} {e a b c : Expr} {f fa fb fc : DE} {pos : Pos}
theorem _root_.L2.PE.wk {t t' : TE} (h : PE X e t') (i : ∀ σ H Q, t σ H Q → t' σ H Q) : PE X e t := ⟨fun pins s σ H Q I q => h.run pins s σ H Q I (i σ H Q q)⟩
theorem _root_.L2.PT.wk {t t' : TT} (h : PT X e t') (i : ∀ σ H Q, t σ H Q → t' σ H Q) : PT X e t := ⟨fun pins s σ H Q I q => h.run pins s σ H Q I (i σ H Q q)⟩
theorem _root_.L2.PW.wk {t t' : TT} (h : PW X e t') (i : ∀ σ H Q, t σ H Q → t' σ H Q) : PW X e t := ⟨fun wh pins s σ H Q I q => h.run wh pins s σ H Q I (i σ H Q q)⟩
theorem _root_.L2.PA.wk {es : List Expr} {t t' : TA} (h : PA X es t') (i : ∀ σ H Q, t σ H Q → t' σ H Q) : PA X es t := ⟨fun p pins s σ H Q I q => h.run p pins s σ H Q I (i σ H Q q)⟩
theorem _root_.L2.PS.wk {st : Stmt} {t t' : TS} (h : PS X st t') (i : ∀ D σ H, t D σ H → t' D σ H) : PS X st t := ⟨fun pins s σ H D I q => h.run pins s σ H D I (i D σ H q)⟩
theorem _root_.L2.PSs.wk {st : List Stmt} {t t' : TS} (h : PSs X st t') (i : ∀ D σ H, t D σ H → t' D σ H) : PSs X st t := ⟨fun pins s σ H D I q => h.run pins s σ H D I (i D σ H q)⟩
theorem _root_.L2.PI.wk {tg it : Expr} {t t' : TI} (h : PI X tg it t') (i : ∀ σ H Q, t σ H Q → t' σ H Q) : PI X tg it t := ⟨fun pins s σ H Q I q => h.run pins s σ H Q I (i σ H Q q)⟩
theorem _root_.L2.PG.wk {tg : Expr} {t t' : TG} (h : PG X tg t') (i : ∀ v σ H Q, t v σ H Q → t' v σ H Q) : PG X tg t := ⟨fun pins s σ H v u Q I r q => h.run pins s σ H v u Q I r (i v σ H Q q)⟩
theorem _root_.L2.PGs.wk {tg : List Expr} {t t' : TGs} (h : PGs X tg t') (i : ∀ v σ H Q, t v σ H Q → t' v σ H Q) : PGs X tg t := ⟨fun pins s σ H v u Q I r q => h.run pins s σ H v u Q I r (i v σ H Q q)⟩

/-! ### kinds -/
theorem EOk.stab (h : EOk G X W k e f) (hk : k.st = true := by rfl) : EOk G X W .s e f := h.wk fun σ H Q ⟨w, F, ρ, r, q⟩ => ⟨w, F, ρ, r, by
  cases hf : f ρ with
  | ok d =>
    rw [hf] at q
    intro v F' H' g x
    obtain ⟨F'', g', x'⟩ := x.stable hk g
    exact q v F'' H' g' x'
  | ex c fs => rw [hf] at q; exact q
  | bad => rw [hf] at q; exact q⟩

/-! ### names, constants -/
def dVar (i : Nat) : DE := fun ρ => match ρ[i]? with
  | some (.fr d) => .ok d
  | _ => .bad
/-- only looked at -/
def dBVar (i : Nat) : DE := fun ρ => match ρ[i]? with
  | some (.fr d) => .ok d
  | some (.ow d) => .ok d
  | _ => .bad
def dC (d : PV) : DE := fun _ => .ok d
theorem e_var {i : Nat} {x : Str} {pos : Pos} (hN : X.N[i]? = some x) (hv : Vis X.env.scope x) (hd : (x == ("__debug__" : Str)) = false := by decide) (hcd : (x == ("__classdict__" : Str)) = false := by decide) : EOk G X W .s (.Name x pos) (dVar i) :=
  (pe_var hN hv hd hcd).wk fun σ H Q ⟨w, F, ρ, r, q⟩ => by
    unfold dVar at q
    cases h : ρ[i]? with
    | none => rw [h] at q; exact q.elim
    | some s =>
      rw [h] at q
      cases s with
      | fr d =>
        obtain ⟨v, hv, hd⟩ := r.fr h
        exact ⟨v, hv, q v F H (.refl r.base.fh) hd⟩
      | _ => exact q.elim
theorem e_bvar {i : Nat} {x : Str} {pos : Pos} (hN : X.N[i]? = some x) (hv : Vis X.env.scope x) (hd : (x == ("__debug__" : Str)) = false := by decide) (hcd : (x == ("__classdict__" : Str)) = false := by decide) : EOk G X W .b (.Name x pos) (dBVar i) :=
  (pe_var hN hv hd hcd).wk fun σ H Q ⟨w, F, ρ, r, q⟩ => by
    unfold dBVar at q
    cases h : ρ[i]? with
    | none => rw [h] at q; exact q.elim
    | some s =>
      rw [h] at q
      cases s with
      | fr d =>
        obtain ⟨v, hv, hd⟩ := r.fr h
        exact ⟨v, hv, q v F H (.refl r.base.fh) (.inl hd)⟩
      | ow d =>
        obtain ⟨v, hv, a, rfl, _, _, ho⟩ := r.ok i _ h
        exact ⟨_, hv, q _ F H (.refl r.base.fh) (.inr ⟨a, rfl, ho⟩)⟩
      | no => exact q.elim
      | sf c ds => exact q.elim
theorem e_const {v : V} {d : PV} (h : PE X e (tC v)) (hd : ∀ F, Data G F v d) : EOk G X W .s e (dC d) :=
  h.wk fun σ H Q ⟨w, F, ρ, r, q⟩ => q v F H (.refl r.base.fh) (hd F)
theorem e_int {i j pos} : EOk G X W .s (.Constant (.int i) j pos) (dC (.int i)) := e_const pe_int fun _ => .int i
theorem e_bl {b j pos} : EOk G X W .s (.Constant (.bool b) j pos) (dC (.bl b)) := e_const pe_bl fun _ => .bl b
theorem e_non {j pos} : EOk G X W .s (.Constant .none j pos) (dC .non) := e_const pe_non fun _ => .non
theorem e_str {x j pos} : EOk G X W .s (.Constant (.str x) j pos) (dC (.str x)) := e_const pe_str fun _ => .str x
theorem e_glob {x : Str} {v : V} {d : PV} {u : Value} {pos : Pos} (hg : Gl X x) (hm : X.mg x = some u) (r : RelV v u) (hd : ∀ F, Data G F v d) (hdb : (x == ("__debug__" : Str)) = false := by decide) : EOk G X W .s (.Name x pos) (dC d) := e_const (pe_glob hg hm r hdb) hd

/-! ### operators of two places -/
/-- g is what the operation does to stable or borrowed operands -/
structure BinOk (G : Cfg) (X : Cx) (k : Kd) (op : Value → Value → Sem Value) (g : PV → PV → R PV) : Prop where
  ex : ∃ r : R2, OpR X op r ∧ ∀ (F H : Hp) (v u : V) (x y : PV) (Q : VK) (d : PV), Same F H → DataB G F H v x → DataB G F H u y → g x y = .ok d → (∀ v' F' H', Grow F H F' H' → DataX G k H F' H' v' d → Q v' H') → r v u H Q
  ok : ∀ x y c fs, g x y ≠ .ex c fs
def dBin (g : PV → PV → R PV) (fa fb : DE) : DE := fun ρ => (fa ρ).bind fun x => (fb ρ).bind fun y => g x y
theorem DataX.grow2 {F H F' H' F'' H'' : Hp} {v : V} {d : PV} (g1 : Grow F H F' H') (h : ∀ v' F'' H'', Grow F H F'' H'' → DataX G k H F'' H'' v' d → True) : True := trivial
theorem DataX.from {F H F' H' F'' H'' : Hp} {v : V} {d : PV} (g : Grow F H F' H') (h : DataX G k H' F'' H'' v d) : DataX G k H F'' H'' v d := by
  cases k with
  | s => exact h
  | b => exact h
  | n =>
    obtain ⟨a, e, n, nf, o⟩ := h
    exact ⟨a, e, g.h.free n, nf, o⟩
theorem ARes.from {F H F' H' : Hp} {σ : L2.St} {Q : VK} {x : R PV} (g : Grow F H F' H') (h : ARes G W k F H σ Q x) : ARes G W k F' H' σ Q x := by
  cases x with
  | ok d => exact fun v F2 H2 g2 x => h v F2 H2 (g.trans g2) (x.from g)
  | ex c fs => exact fun cls dd F2 H2 g2 x => h cls dd F2 H2 (g.trans g2) x
  | bad => exact h
/-- two operands, one behind the other, by values -/
theorem bin_reads {F H : Hp} {w : Wd} {ρ : PEnv} {σ : L2.St} {Q : VK} {g : PV → PV → R PV} {R' : V → V → Hp → Prop} (r : Rel G w F H ρ σ) (q : ARes G W k F H σ Q (dBin g fa fb ρ))
    (step : ∀ v u x y F2 H2, Grow F H F2 H2 → DataB G F2 H2 v x → DataB G F2 H2 u y → ARes G W k F2 H2 σ Q (g x y) → R' v u H2) : tE G W k1 fa σ H fun v H1 => tE G W k2 fb σ H1 fun u H2 => R' v u H2 := by
  refine ⟨w, F, ρ, r, ?_⟩
  unfold dBin at q
  cases ha : fa ρ with
  | bad => rw [ha] at q; exact q
  | ex c fs => rw [ha] at q; exact q
  | ok x =>
    rw [ha] at q
    intro v F1 H1 g1 d1
    refine ⟨w, F1, ρ, r.grow g1, ?_⟩
    cases hb : fb ρ with
    | bad => rw [hb] at q; exact q
    | ex c fs => rw [hb] at q; exact fun cls dd F2 H2 g2 x => q cls dd F2 H2 (g1.trans g2) x
    | ok y =>
      rw [hb] at q
      intro u F2 H2 g2 d2
      exact step v u x y F2 H2 (g1.trans g2) (d1.toB.grow g2) d2.toB (ARes.from (g1.trans g2) q)
theorem e_bin {op : Operator} {g : PV → PV → R PV} (ha : EOk G X W k1 a fa) (hb : EOk G X W k2 b fb) (ho : BinOk G X k (binaryOp op) g) : EOk G X W k (.BinOp a op b pos) (dBin g fa fb) := by
  obtain ⟨r, h1, h2⟩ := ho.ex
  refine (pe_op h1 ha hb).wk fun σ H Q ⟨w, F, ρ, rl, q⟩ => bin_reads rl q fun v u x y F2 H2 g12 d1 d2 q' => ?_
  cases hg : g x y with
  | ok d => rw [hg] at q'; exact h2 F2 H2 v u x y Q d g12.fh d1 d2 hg fun v' F' H' => q' v' F' H'
  | ex c fs => exact absurd hg (ho.ok _ _ _ _)
  | bad => rw [hg] at q'; exact q'.elim
theorem e_cmp {op : CmpOp} {g : PV → PV → R PV} (ha : EOk G X W k1 a fa) (hb : EOk G X W k2 b fb) (ho : BinOk G X k (compareOp op) g) (hm : behindInMarks op b = false) : EOk G X W k (.Compare a [op] [b] pos) (dBin g fa fb) := by
  obtain ⟨r, h1, h2⟩ := ho.ex
  refine (pe_cmpR h1 ha hb hm).wk fun σ H Q ⟨w, F, ρ, rl, q⟩ => bin_reads rl q fun v u x y F2 H2 g12 d1 d2 q' => ?_
  cases hg : g x y with
  | ok d => rw [hg] at q'; exact h2 F2 H2 v u x y Q d g12.fh d1 d2 hg fun v' F' H' => q' v' F' H'
  | ex c fs => exact absurd hg (ho.ok _ _ _ _)
  | bad => rw [hg] at q'; exact q'.elim
end
end PP

/-! PPOps: operators by pure values. -/
namespace PP
open PySem PySem.Spec L2

section
variable {G : Cfg} {F H : Hp} {v : V}
theorem DataB.int {i : Int} (h : DataB G F H v (.int i)) : v = .int i := by
  rcases h with h | ⟨a, e, h⟩
  · cases h; rfl
  · exact h.elim
theorem DataB.bl {b : Bool} (h : DataB G F H v (.bl b)) : v = .bl b := by
  rcases h with h | ⟨a, e, h⟩
  · cases h; rfl
  · exact h.elim
theorem DataB.str {x : Str} (h : DataB G F H v (.str x)) : v = .str x := by
  rcases h with h | ⟨a, e, h⟩
  · cases h; rfl
  · exact h.elim
theorem DataB.non (h : DataB G F H v .non) : v = .non := by
  rcases h with h | ⟨a, e, h⟩
  · cases h; rfl
  · exact h.elim
theorem DataB.tup {ds : List PV} (h : DataB G F H v (.tup ds)) : ∃ a vs, v = .ref a ∧ SqT G.K F a vs ∧ Datas G F vs ds := by
  rcases h with h | ⟨a, e, h⟩
  · cases h with | tup h k => exact ⟨_, _, rfl, h, k⟩
  · exact h.elim
theorem DataB.lst {ds : List PV} (e : Same F H) (h : DataB G F H v (.lst ds)) : ∃ a vs, v = .ref a ∧ H a = some (.lst vs) ∧ Datas G F vs ds := by
  rcases h with h | ⟨a, e2, h⟩
  · cases h with | lst h k => exact ⟨_, _, rfl, e _ _ h, k⟩
  · obtain ⟨vs, h, k⟩ := h
    exact ⟨a, vs, e2, h, k⟩
theorem DataB.scr {ds : List PV} (h : DataB G F H v (.scr ds)) : ∃ a vs, v = .ref a ∧ SqL G.K F a vs ∧ Datas G F vs ds := by
  rcases h with h | ⟨a, e, h⟩
  · cases h with | scr h k => exact ⟨_, _, rfl, h, k⟩
  · exact h.elim
/-- a sequence: lists and tuples -/
def _root_.PP.PV.seq : PV → Option (List PV)
  | .tup ds => some ds
  | .lst ds => some ds
  | .scr ds => some ds
  | _ => none
theorem DataB.seq {d : PV} {ds : List PV} (e : Same F H) (hs : d.seq = some ds) (h : DataB G F H v d) : ∃ a vs, v = .ref a ∧ (SqL G.K H a vs ∨ SqT G.K H a vs) ∧ Datas G F vs ds := by
  cases d with
  | tup es =>
    cases hs
    obtain ⟨a, vs, rfl, h, k⟩ := h.tup
    exact ⟨a, vs, rfl, .inr (sqT_same e h), k⟩
  | lst es =>
    cases hs
    obtain ⟨a, vs, rfl, h, k⟩ := h.lst e
    exact ⟨a, vs, rfl, .inl (.of h), k⟩
  | scr es =>
    cases hs
    obtain ⟨a, vs, rfl, h, k⟩ := h.scr
    exact ⟨a, vs, rfl, .inl (sqL_same e h), k⟩
  | _ => cases hs
end

section
variable {G : Cfg} {X : Cx} [CK G X]
theorem opr_or {f : Value → Value → Sem Value} {r r' : R2} (h : OpR X f r) (h' : OpR X f r') : OpR X f (fun x y H Q => r x y H Q ∨ r' x y H Q) := by
  intro pins s σ H x y v u Q I rx ry q
  rcases q with q | q
  · exact h pins s σ H x y v u Q I rx ry q
  · exact h' pins s σ H x y v u Q I rx ry q
/-- two ints under a condition that is decided -/
def oI (C : Int → Int → Bool) (g : Int → Int → PV) : PV → PV → R PV
  | .int i, .int j => if C i j = true then .ok (g i j) else .bad
  | _, _ => .bad
theorem oI_ok {C : Int → Int → Bool} {g : Int → Int → PV} {x y : PV} {c : Nat} {fs : List PV} : oI C g x y ≠ .ex c fs := by
  unfold oI
  split
  · split <;> exact fun z => nomatch z
  · exact fun z => nomatch z
theorem oI_inv {C : Int → Int → Bool} {g : Int → Int → PV} {x y d : PV} (h : oI C g x y = .ok d) : ∃ i j, x = .int i ∧ y = .int j ∧ C i j = true ∧ d = g i j := by
  unfold oI at h
  split at h
  · split at h
    · rename_i h2
      cases h
      exact ⟨_, _, rfl, rfl, h2, rfl⟩
    · cases h
  · cases h
theorem bin_int {op : Value → Value → Sem Value} {C' : Int → Int → Prop} {C : Int → Int → Bool} {g : Int → Int → V} {g' : Int → Int → PV} (h : OpR X op (rI C' g)) (hc : ∀ i j, C i j = true → C' i j) (hg : ∀ F i j, Data G F (g i j) (g' i j)) : BinOk G X .s op (oI C g') where
  ex := ⟨_, h, fun F H v u x y Q d e dx dy q k => by
    obtain ⟨i, j, rfl, rfl, c, rfl⟩ := oI_inv q
    exact ⟨i, j, dx.int, dy.int, hc i j c, k _ F H (.refl e) (hg F i j)⟩⟩
  ok := fun _ _ _ _ => oI_ok
theorem rI_of0 {op : Value → Value → Sem Value} {g : Int → Int → V} (h : OpR X op (rI0 g)) : OpR X op (rI (fun _ _ => True) g) := fun pins s σ H x y v u Q I rx ry q => by
  obtain ⟨i, j, e1, e2, _, q⟩ := q
  exact h pins s σ H x y v u Q I rx ry ⟨i, j, e1, e2, q⟩
theorem bin_int0 {op : Value → Value → Sem Value} {g : Int → Int → V} {g' : Int → Int → PV} (h : OpR X op (rI0 g)) (hg : ∀ F i j, Data G F (g i j) (g' i j)) : BinOk G X .s op (oI (fun _ _ => true) g') := bin_int (rI_of0 h) (fun _ _ _ => trivial) hg

/-! ### ints alone -/
def oSub : PV → PV → R PV := oI (fun _ _ => true) fun i j => .int (i - j)
def oLt : PV → PV → R PV := oI (fun _ _ => true) fun i j => .bl (decide (i < j))
def oLe : PV → PV → R PV := oI (fun _ _ => true) fun i j => .bl (decide (i ≤ j))
def oGt : PV → PV → R PV := oI (fun _ _ => true) fun i j => .bl (decide (j < i))
def oGe : PV → PV → R PV := oI (fun _ _ => true) fun i j => .bl (decide (j ≤ i))
def oAnd : PV → PV → R PV := oI (fun _ _ => true) fun i j => .int (Builtin.bitAnd i j)
def oOr : PV → PV → R PV := oI (fun _ _ => true) fun i j => .int (Builtin.bitOr i j)
def oXor : PV → PV → R PV := oI (fun _ _ => true) fun i j => .int (Builtin.bitXor i j)
theorem b_sub : BinOk G X .s (binaryOp .Sub) oSub := bin_int0 op_sub fun _ _ _ => .int _
theorem b_and : BinOk G X .s (binaryOp .BitAnd) oAnd := bin_int0 op_and fun _ _ _ => .int _
theorem b_or : BinOk G X .s (binaryOp .BitOr) oOr := bin_int0 op_or fun _ _ _ => .int _
theorem b_xor : BinOk G X .s (binaryOp .BitXor) oXor := bin_int0 op_xor fun _ _ _ => .int _
theorem b_lt : BinOk G X .s (compareOp .Lt) oLt := bin_int0 op_lt fun _ _ _ => .bl _
theorem b_le : BinOk G X .s (compareOp .LtE) oLe := bin_int0 op_le fun _ _ _ => .bl _
theorem b_gt : BinOk G X .s (compareOp .Gt) oGt := bin_int0 op_gt fun _ _ _ => .bl _
theorem b_ge : BinOk G X .s (compareOp .GtE) oGe := bin_int0 op_ge fun _ _ _ => .bl _
/-- % and // : the divisor not 0; // wants it below 2^30 (or positive and below 2^9000) -/
def oMod : PV → PV → R PV := oI (fun _ j => decide (j ≠ 0)) fun i j => .int (i.fmod j)
theorem b_mod : BinOk G X .s (binaryOp .Mod) oMod := bin_int op_modN (fun _ _ h => of_decide_eq_true h) fun _ _ _ => .int _
def oFdiv : PV → PV → R PV := oI (fun _ j => decide (j ≠ 0 ∧ j.natAbs < 1073741824)) fun i j => .int (i.fdiv j)
theorem b_fdiv : BinOk G X .s (binaryOp .FloorDiv) oFdiv := bin_int op_fdivN (fun i j h => (of_decide_eq_true h : j ≠ 0 ∧ j.natAbs < 1073741824)) fun _ _ _ => .int _
def oPow : PV → PV → R PV := oI (fun i j => decide (0 ≤ j ∧ j ≤ 1000000 ∧ i.natAbs < 2 ^ 64)) fun i j => .int (i ^ j.toNat)
theorem b_pow : BinOk G X .s (binaryOp .Pow) oPow := bin_int op_pow (fun i j h => (of_decide_eq_true h : 0 ≤ j ∧ j ≤ 1000000 ∧ i.natAbs < 2 ^ 64)) fun _ _ _ => .int _
def oShl : PV → PV → R PV := oI (fun i j => decide (0 ≤ j ∧ (Builtin.Int.intBits i : Int) + j ≤ 134217728)) fun i j => .int (i * 2 ^ j.toNat)
theorem b_shl : BinOk G X .s (binaryOp .LShift) oShl := bin_int op_shlW (fun _ _ h => by
  have h := of_decide_eq_true h
  exact ⟨h.1, by show _ ≤ (134217728 : Int); exact h.2⟩) fun _ _ _ => .int _
def oShr : PV → PV → R PV := oI (fun _ j => decide (0 ≤ j)) fun i j => .int (i / 2 ^ j.toNat)
theorem b_shr : BinOk G X .s (binaryOp .RShift) oShr := bin_int op_shr (fun _ _ h => of_decide_eq_true h) fun _ _ _ => .int _
/-- a product: one factor below 2^64, or both together at most 2^27 bits -/
def mulC (i j : Int) : Bool := decide ((-(2 ^ 64) < i ∧ i < 2 ^ 64) ∨ (-(2 ^ 64) < j ∧ j < 2 ^ 64)) || decide ((Builtin.Int.intBits i : Int) + (Builtin.Int.intBits j : Int) ≤ 134217728)
theorem op_mulA : OpR X (binaryOp .Mult) (rI (fun i j => mulC i j = true) fun i j => .int (i * j)) := opI fun i j _ _ _ _ _ hc q => PyProof.Rows.mul_int q (by
  unfold mulC at hc
  rw [Bool.or_eq_true] at hc
  rcases hc with h | h
  · exact CMul.ok (of_decide_eq_true h : (-(2 ^ 64) < i ∧ i < 2 ^ 64) ∨ (-(2 ^ 64) < j ∧ j < 2 ^ 64))
  · exact CMulX.ok (of_decide_eq_true h : (Builtin.Int.intBits i : Int) + (Builtin.Int.intBits j : Int) ≤ 134217728))

/-! ### + -/
def cap : Nat := 16777216
theorem cap_eq : cap = sizeLine := by decide
def oAdd : PV → PV → R PV
  | .int i, .int j => .ok (.int (i + j))
  | .int i, .bl k => .ok (.int (i + PyProof.Rows.b2i k))
  | .str x, .str y => if x.length + y.length ≤ cap then .ok (.str (x ++ y)) else .bad
  | .lst xs, .lst ys => if xs.length + ys.length ≤ cap then .ok (.lst (xs ++ ys)) else .bad
  | .tup xs, .tup ys => if xs.length + ys.length ≤ cap then .ok (.tup (xs ++ ys)) else .bad
  | _, _ => .bad
theorem b_add : BinOk G X .s (binaryOp .Add) oAdd where
  ex := ⟨_, opr_or op_add (opr_or op_add_ib (opr_or op_add_str (opr_or op_cat op_catA))), fun F H v u x y Q d e dx dy q k => by
    cases x with
    | int i =>
      cases y with
      | int j => cases q; exact .inl ⟨i, j, dx.int, dy.int, k _ F H (.refl e) (.int _)⟩
      | bl b => cases q; exact .inr (.inl ⟨i, b, dx.int, dy.bl, k _ F H (.refl e) (.int _)⟩)
      | _ => cases q
    | str i =>
      cases y with
      | str j =>
        simp only [oAdd] at q
        split at q
        · rename_i hc
          cases q
          exact .inr (.inr (.inl ⟨i, j, dx.str, dy.str, by rw [← cap_eq]; exact hc, k _ F H (.refl e) (.str _)⟩))
        · cases q
      | _ => cases q
    | lst xs =>
      cases y with
      | lst ys =>
        simp only [oAdd] at q
        split at q
        · rename_i hc
          cases q
          obtain ⟨a, vs, rfl, h1, k1⟩ := dx.lst e
          obtain ⟨b, us, rfl, h2, k2⟩ := dy.lst e
          refine .inr (.inr (.inr (.inl ⟨a, b, vs, us, rfl, rfl, h1, h2, by rw [← cap_eq, k1.length, k2.length]; exact hc, fun p np => ?_⟩)))
          have g := Grow.laid (o := .lst (vs ++ us)) e np
          exact k _ _ _ g (.lst upd_same ((k1.append k2).mono g.f))
        · cases q
      | _ => cases q
    | tup xs =>
      cases y with
      | tup ys =>
        simp only [oAdd] at q
        split at q
        · rename_i hc
          cases q
          obtain ⟨a, vs, rfl, h1, k1⟩ := dx.tup
          obtain ⟨b, us, rfl, h2, k2⟩ := dy.tup
          refine .inr (.inr (.inr (.inr ⟨a, b, vs, us, rfl, rfl, sqTX (sqT_same e h1), sqTX (sqT_same e h2), by rw [← cap_eq, k1.length, k2.length]; exact hc, fun z => ?_, fun z1 z2 => ?_, fun z1 z2 p np => ?_⟩)))
          · subst z
            cases k1
            exact k _ F H (.refl e) (.tup h2 k2)
          · subst z2
            cases k2
            rw [List.append_nil] at k
            exact k _ F H (.refl e) (.tup h1 k1)
          · have g := Grow.laid (o := .tup (vs ++ us)) e np
            exact k _ _ _ g (.tup (.of upd_same) ((k1.append k2).mono g.f))
        · cases q
      | _ => cases q
    | _ => cases q⟩
  ok := fun x y c fs h => by
    cases x <;> cases y <;> simp only [oAdd] at h <;> first | (split at h <;> cases h) | cases h
/-- a list + a list, as an own object -/
def oCat : PV → PV → R PV
  | .lst xs, .lst ys => if xs.length + ys.length ≤ cap then .ok (.lst (xs ++ ys)) else .bad
  | _, _ => .bad
theorem b_cat : BinOk G X .n (binaryOp .Add) oCat where
  ex := ⟨_, op_cat, fun F H v u x y Q d e dx dy q k => by
    cases x with
    | lst xs =>
      cases y with
      | lst ys =>
        simp only [oCat] at q
        split at q
        · rename_i hc
          cases q
          obtain ⟨a, vs, rfl, h1, k1⟩ := dx.lst e
          obtain ⟨b, us, rfl, h2, k2⟩ := dy.lst e
          refine ⟨a, b, vs, us, rfl, rfl, h1, h2, by rw [← cap_eq, k1.length, k2.length]; exact hc, fun p np => ?_⟩
          exact k _ F _ (.apart e np) ⟨p, rfl, np, e.free np, _, upd_same, k1.append k2⟩
        · cases q
      | _ => cases q
    | _ => cases q⟩
  ok := fun x y c fs h => by
    cases x <;> cases y <;> simp only [oCat] at h <;> first | (split at h <;> cases h) | cases h

/-! ### * -/
def rep (xs : List PV) (k : Nat) : List PV := (List.replicate k xs).flatten
theorem Datas.rep {F : Hp} {vs : List V} {ds : List PV} (h : Datas G F vs ds) : ∀ k : Nat, Datas G F (List.replicate k vs).flatten (rep ds k)
  | 0 => .nil
  | k + 1 => by
    unfold PP.rep
    rw [List.replicate_succ, List.replicate_succ, List.flatten_cons, List.flatten_cons]
    exact h.append (Datas.rep h k)
def oMul : PV → PV → R PV
  | .int i, .int j => if mulC i j = true then .ok (.int (i * j)) else .bad
  | .lst xs, .int k => if -(2 ^ 63) ≤ k ∧ k < 2 ^ 63 ∧ xs.length * k.toNat ≤ cap then .ok (.lst (rep xs k.toNat)) else .bad
  | .tup xs, .int k => if xs ≠ [] ∧ 2 ≤ k ∧ k ≤ 1000 ∧ xs.length ≤ 1000 then .ok (.tup (rep xs k.toNat)) else .bad
  | _, _ => .bad
theorem b_mul : BinOk G X .s (binaryOp .Mult) oMul where
  ex := ⟨_, opr_or op_mulA (opr_or op_rep op_repT), fun F H v u x y Q d e dx dy q k => by
    cases x with
    | int i =>
      cases y with
      | int j =>
        simp only [oMul] at q
        split at q
        · rename_i hc
          cases q
          exact .inl ⟨i, j, dx.int, dy.int, hc, k _ F H (.refl e) (.int _)⟩
        · cases q
      | _ => cases q
    | lst xs =>
      cases y with
      | int j =>
        simp only [oMul] at q
        split at q
        · rename_i hc
          cases q
          obtain ⟨a, vs, rfl, h1, k1⟩ := dx.lst e
          refine .inr (.inl ⟨a, j, vs, rfl, dy.int, h1, hc.1, hc.2.1, by rw [← cap_eq, k1.length]; exact hc.2.2, fun p np => ?_⟩)
          have g := Grow.laid (o := .lst (List.replicate j.toNat vs).flatten) e np
          exact k _ _ _ g (.lst upd_same ((k1.rep _).mono g.f))
        · cases q
      | _ => cases q
    | tup xs =>
      cases y with
      | int j =>
        simp only [oMul] at q
        split at q
        · rename_i hc
          cases q
          obtain ⟨a, vs, rfl, h1, k1⟩ := dx.tup
          refine .inr (.inr ⟨a, j, vs, rfl, dy.int, sqTX (sqT_same e h1), fun z => ?_, hc.2.1, hc.2.2.1, by rw [k1.length]; exact hc.2.2.2, fun p np => ?_⟩)
          · subst z
            cases k1
            exact hc.1 rfl
          · have g := Grow.laid (o := .tup (List.replicate j.toNat vs).flatten) e np
            exact k _ _ _ g (.tup (.of upd_same) ((k1.rep _).mono g.f))
        · cases q
      | _ => cases q
    | _ => cases q⟩
  ok := fun x y c fs h => by
    cases x <;> cases y <;> simp only [oMul] at h <;> first | (split at h <;> cases h) | cases h
/-- a list * a number, as an own object -/
def oRep : PV → PV → R PV
  | .lst xs, .int k => if -(2 ^ 63) ≤ k ∧ k < 2 ^ 63 ∧ xs.length * k.toNat ≤ cap then .ok (.lst (rep xs k.toNat)) else .bad
  | _, _ => .bad
theorem b_rep : BinOk G X .n (binaryOp .Mult) oRep where
  ex := ⟨_, op_rep, fun F H v u x y Q d e dx dy q k => by
    cases x with
    | lst xs =>
      cases y with
      | int j =>
        simp only [oRep] at q
        split at q
        · rename_i hc
          cases q
          obtain ⟨a, vs, rfl, h1, k1⟩ := dx.lst e
          refine ⟨a, j, vs, rfl, dy.int, h1, hc.1, hc.2.1, by rw [← cap_eq, k1.length]; exact hc.2.2, fun p np => ?_⟩
          exact k _ F _ (.apart e np) ⟨p, rfl, np, e.free np, _, upd_same, k1.rep _⟩
        · cases q
      | _ => cases q
    | _ => cases q⟩
  ok := fun x y c fs h => by
    cases x <;> cases y <;> simp only [oRep] at h <;> first | (split at h <;> cases h) | cases h
end
end PP

/-! PPOps2: ==, in, is, order; unary; and, or, not; truth. -/
namespace PP
open PySem PySem.Spec L2

mutual
def PV.py : PV → Option PyData
  | .non => some .none
  | .bl b => some (.bool b)
  | .int i => some (.int i)
  | .str x => some (.str x)
  | .tup xs => (PV.pys xs).map .tuple
  | .lst xs => (PV.pys xs).map .list
  | .scr xs => (PV.pys xs).map .list
  | .obj _ _ => none
  | .dct _ => none
  | .pset _ => none
def PV.pys : List PV → Option (List PyData)
  | [] => some []
  | x :: r => match PV.py x, PV.pys r with
    | some a, some b => some (a :: b)
    | _, _ => none
end
section
variable {G : Cfg} {F H : Hp} {v : V}
theorem pys_cons {x : PV} {r : List PV} {p : List PyData} (h : PV.pys (x :: r) = some p) : ∃ a b, PV.py x = some a ∧ PV.pys r = some b ∧ p = a :: b := by
  unfold PV.pys at h
  split at h
  · rename_i h1 h2; cases h; exact ⟨_, _, h1, h2, rfl⟩
  · cases h
mutual
theorem Data.dp : ∀ {v : V} {d : PV} {p : PyData}, Data G F v d → PV.py d = some p → Dp G.K F v p
  | _, _, _, .non, e => by unfold PV.py at e; cases e; exact .non
  | _, _, _, .bl b, e => by unfold PV.py at e; cases e; exact .bl b
  | _, _, _, .int i, e => by unfold PV.py at e; cases e; exact .int i
  | _, _, _, .str x, e => by unfold PV.py at e; cases e; exact .str x
  | _, _, _, .tup h k, e => by
    unfold PV.py at e
    obtain ⟨q, e1, rfl⟩ := Option.map_eq_some_iff.mp e
    exact .tup h (Datas.dp k e1)
  | _, _, _, .lst h k, e => by
    unfold PV.py at e
    obtain ⟨q, e1, rfl⟩ := Option.map_eq_some_iff.mp e
    exact .lst (.of h) (Datas.dp k e1)
  | _, _, _, .scr h k, e => by
    unfold PV.py at e
    obtain ⟨q, e1, rfl⟩ := Option.map_eq_some_iff.mp e
    exact .lst h (Datas.dp k e1)
  | _, _, _, .obj _ _ _ _, e => by unfold PV.py at e; cases e
theorem Datas.dp : ∀ {vs : List V} {ds : List PV} {p : List PyData}, Datas G F vs ds → PV.pys ds = some p → DpAll G.K F vs p
  | _, _, _, .nil, e => by unfold PV.pys at e; cases e; exact .nil
  | _, _, _, .cons h k, e => by
    obtain ⟨a, b, h1, h2, rfl⟩ := pys_cons e
    exact .cons (Data.dp h h1) (Datas.dp k h2)
end
mutual
theorem dp_same {K : PySem.W.Frag} (e : Same F H) : ∀ {v : V} {p : PyData}, Dp K F v p → Dp K H v p
  | _, _, .non => .non
  | _, _, .bl b => .bl b
  | _, _, .int i => .int i
  | _, _, .str x => .str x
  | _, _, .lst h k => .lst (h.imp (rd_same e) id) (dps_same e k)
  | _, _, .tup h k => .tup (h.imp (rd_same e) id) (dps_same e k)
theorem dps_same {K : PySem.W.Frag} (e : Same F H) : ∀ {vs : List V} {p : List PyData}, DpAll K F vs p → DpAll K H vs p
  | _, _, .nil => .nil
  | _, _, .cons h k => .cons (dp_same e h) (dps_same e k)
end
theorem DataB.dp {d : PV} {p : PyData} (e : Same F H) (h : DataB G F H v d) (hp : PV.py d = some p) : Dp G.K H v p := by
  rcases h with h | ⟨a, rfl, h⟩
  · exact dp_same e (h.dp hp)
  · cases d with
    | lst ds =>
      obtain ⟨vs, h, k⟩ := h
      unfold PV.py at hp
      obtain ⟨q, e1, rfl⟩ := Option.map_eq_some_iff.mp hp
      exact .lst (.of h) (dps_same e (k.dp e1))
    | _ => exact h.elim
end

/-! ### ==, != -/
/-- scalars that == tells apart by what they are -/
def scalP : PV → PV → Option Bool
  | .non, .non => some true | .non, .int _ => some false | .int _, .non => some false | .non, .bl _ => some false | .bl _, .non => some false
  | .non, .str _ => some false | .str _, .non => some false | .int i, .int j => some (decide (i = j)) | .bl a, .bl b => some (decide (a = b))
  | .str x, .str y => some (decide (x = y)) | .int _, .str _ => some false | .str _, .int _ => some false | .bl _, .str _ => some false | .str _, .bl _ => some false
  | _, _ => none
def deepP (x y : PV) : Option Bool := match PV.py x, PV.py y with
  | some a, some b => if SeqAt.shaped a && SeqAt.shaped b then some (PyData.eqv a b) else none
  | _, _ => none
def eqP (x y : PV) : Option Bool := match scalP x y with
  | some b => some b
  | none => deepP x y
def oEq (x y : PV) : R PV := match eqP x y with
  | some b => .ok (.bl b)
  | none => .bad
def oNe (x y : PV) : R PV := match eqP x y with
  | some b => .ok (.bl (!b))
  | none => .bad
section
variable {G : Cfg} {X : Cx} [CK G X]
theorem dpX {H : Hp} {v : V} {p : PyData} (h : Dp G.K H v p) : Dp X.K H v p := (CK.k (G := G) (X := X)) ▸ h
theorem scal_of {F H : Hp} {v u : V} {x y : PV} {b : Bool} (dx : DataB G F H v x) (dy : DataB G F H u y) (h : scalP x y = some b) : scal v u = true ∧ decide (v = u) = b := by
  cases x <;> cases y <;> simp only [scalP] at h <;> first
    | (cases h; done)
    | (first | cases dx.non | cases dx.int | cases dx.bl | cases dx.str
       first | cases dy.non | cases dy.int | cases dy.bl | cases dy.str
       cases h
       refine ⟨rfl, ?_⟩
       first | rfl | exact decide_eq_false (fun z => nomatch z) | (rw [decide_eq_decide]; exact ⟨fun z => by injection z, fun z => by rw [z]⟩))
theorem b_eq (hu : X.A.units + 64 < cLine) : BinOk G X .s (compareOp .Eq) oEq where
  ex := ⟨_, opr_or op_eq (op_eqD hu), fun F H v u x y Q d e dx dy q k => by
    unfold oEq eqP at q
    cases hs : scalP x y with
    | some b =>
      rw [hs] at q
      cases q
      obtain ⟨h1, h2⟩ := scal_of dx dy hs
      exact .inl ⟨h1, by rw [h2]; exact k _ F H (.refl e) (.bl b)⟩
    | none =>
      rw [hs] at q
      unfold deepP at q
      cases h1 : PV.py x with
      | none => rw [h1] at q; cases q
      | some a =>
        cases h2 : PV.py y with
        | none => rw [h1, h2] at q; cases q
        | some c =>
          rw [h1, h2] at q
          by_cases hc : (SeqAt.shaped a && SeqAt.shaped c) = true
          · simp only [if_pos hc] at q
            cases q
            rw [Bool.and_eq_true] at hc
            exact .inr ⟨a, c, dpX (dx.dp e h1), dpX (dy.dp e h2), hc.1, hc.2, k _ F H (.refl e) (.bl _)⟩
          · simp only [if_neg hc] at q
            cases q⟩
  ok := fun x y c fs h => by
    unfold oEq at h
    split at h <;> cases h
theorem b_ne (hu : X.A.units + 64 < cLine) : BinOk G X .s (compareOp .NotEq) oNe where
  ex := ⟨_, opr_or op_ne (op_neD hu), fun F H v u x y Q d e dx dy q k => by
    unfold oNe eqP at q
    cases hs : scalP x y with
    | some b =>
      rw [hs] at q
      cases q
      obtain ⟨h1, h2⟩ := scal_of dx dy hs
      exact .inl ⟨h1, by rw [h2]; exact k _ F H (.refl e) (.bl _)⟩
    | none =>
      rw [hs] at q
      unfold deepP at q
      cases h1 : PV.py x with
      | none => rw [h1] at q; cases q
      | some a =>
        cases h2 : PV.py y with
        | none => rw [h1, h2] at q; cases q
        | some c =>
          rw [h1, h2] at q
          by_cases hc : (SeqAt.shaped a && SeqAt.shaped c) = true
          · simp only [if_pos hc] at q
            cases q
            rw [Bool.and_eq_true] at hc
            exact .inr ⟨a, c, dpX (dx.dp e h1), dpX (dy.dp e h2), hc.1, hc.2, k _ F H (.refl e) (.bl _)⟩
          · simp only [if_neg hc] at q
            cases q⟩
  ok := fun x y c fs h => by
    unfold oNe at h
    split at h <;> cases h

/-! ### in, not in: lists of data, tuples of flat things -/
def flatP : PV → Bool
  | .non | .bl _ | .int _ | .str _ => true
  | _ => false
def eqF : PV → PV → Bool
  | .non, .non => true
  | .bl a, .bl b => a == b
  | .bl a, .int b => (if a then 1 else 0) == b
  | .int a, .bl b => a == (if b then 1 else 0)
  | .int a, .int b => a == b
  | .str a, .str b => a == b
  | _, _ => false
/-- x in ds: flat things -/
def inF (x : PV) (ds : List PV) : Option Bool := if flatP x && ds.all flatP then some (ds.any fun y => eqF y x) else none
def inD (x : PV) (ds : List PV) : Option Bool := match PV.py x, PV.pys ds with
  | some a, some b => if SeqAt.shaped a && SeqAt.shaped (.list b) then some (b.any fun z => PyData.eqv z a) else none
  | _, _ => none
def inP (x y : PV) : Option Bool := match y with
  | .tup ds => inF x ds
  | .lst ds => (inF x ds).or (inD x ds)
  | .scr ds => inF x ds
  | _ => none
def oIn (x y : PV) : R PV := match inP x y with
  | some b => .ok (.bl b)
  | none => .bad
def oNotIn (x y : PV) : R PV := match inP x y with
  | some b => .ok (.bl (!b))
  | none => .bad
theorem flat_of {F H : Hp} {v : V} {x : PV} (h : DataB G F H v x) (f : flatP x = true) : flatV v = true := by
  cases x with
  | non => rw [h.non]; rfl
  | bl b => rw [h.bl]; rfl
  | int i => rw [h.int]; rfl
  | str y => rw [h.str]; rfl
  | _ => cases f
theorem flats_of {F : Hp} : ∀ {vs : List V} {ds : List PV}, Datas G F vs ds → ds.all flatP = true → vs.all flatV = true
  | _, _, .nil, _ => rfl
  | _, _, .cons h k, f => by
    simp only [List.all_cons, Bool.and_eq_true] at f ⊢
    exact ⟨flat_of (H := F) (.inl h) f.1, flats_of k f.2⟩
theorem eqF_of {F H : Hp} {v u : V} {x y : PV} (dx : DataB G F H v x) (dy : DataB G F H u y) (fx : flatP x = true) (fy : flatP y = true) : eqV v u = eqF x y := by
  cases x <;> (first | cases fx | skip) <;> cases y <;> (first | cases fy | skip) <;> (first | rw [dx.non] | rw [dx.int] | rw [dx.bl] | rw [dx.str]) <;> (first | rw [dy.non] | rw [dy.int] | rw [dy.bl] | rw [dy.str]) <;> rfl
theorem inV_of {F H : Hp} {v : V} {x : PV} (dx : DataB G F H v x) (fx : flatP x = true) (e : Same F H) : ∀ {vs : List V} {ds : List PV}, Datas G F vs ds → ds.all flatP = true → inV v vs = ds.any fun y => eqF y x
  | _, _, .nil, _ => rfl
  | _, _, .cons h k, f => by
    simp only [List.all_cons, Bool.and_eq_true] at f
    unfold inV
    rw [List.any_cons, List.any_cons, eqF_of (H := H) (.inl h) dx f.1 fx]
    exact congrArg _ (inV_of dx fx e k f.2)
theorem in_core {F H : Hp} {v u : V} {x y : PV} {b neg : Bool} {Q : VK} (e : Same F H) (dx : DataB G F H v x) (dy : DataB G F H u y) (h : inP x y = some b) (k : Q (.bl (if neg then !b else b)) H) :
    rIn X.K neg v u H Q ∨ ∃ d ds, Dp X.K H v d ∧ Dp X.K H u (.list ds) ∧ SeqAt.shaped d = true ∧ SeqAt.shaped (.list ds) = true ∧ b = (ds.any fun z => PyData.eqv z d) := by
  have fl : ∀ ds, inF x ds = some b → y.seq = some ds → rIn X.K neg v u H Q := fun ds hf hs => by
    unfold inF at hf
    split at hf
    · rename_i hc
      rw [Bool.and_eq_true] at hc
      cases hf
      obtain ⟨a, vs, rfl, h1, k1⟩ := dy.seq e hs
      refine ⟨a, vs, rfl, h1.imp sqLX sqTX, flat_of dx hc.1, flats_of k1 hc.2, ?_⟩
      rw [inV_of dx hc.1 e k1 hc.2]
      exact k
    · cases hf
  cases y with
  | tup ds => exact .inl (fl ds h rfl)
  | scr ds => exact .inl (fl ds h rfl)
  | lst ds =>
    simp only [inP] at h
    cases hf : inF x ds with
    | some c =>
      rw [hf] at h
      cases h
      exact .inl (fl ds hf rfl)
    | none =>
      rw [hf] at h
      replace h : inD x ds = some b := h
      unfold inD at h
      cases h1 : PV.py x with
      | none => rw [h1] at h; cases h
      | some p =>
        cases h2 : PV.pys ds with
        | none => rw [h1, h2] at h; cases h
        | some q =>
          rw [h1, h2] at h
          by_cases hc : (SeqAt.shaped p && SeqAt.shaped (.list q)) = true
          · simp only [if_pos hc] at h
            cases h
            rw [Bool.and_eq_true] at hc
            refine .inr ⟨p, q, dpX (dx.dp e h1), dpX (dy.dp e ?_), hc.1, hc.2, rfl⟩
            unfold PV.py
            rw [h2]
            rfl
          · simp only [if_neg hc] at h
            cases h
  | _ => cases h
theorem b_in (hu : X.A.units + 65 < cLine) : BinOk G X .s (compareOp .In) oIn where
  ex := ⟨_, opr_or op_in_seq (op_inD hu), fun F H v u x y Q d e dx dy q k => by
    unfold oIn at q
    cases hb : inP x y with
    | none => rw [hb] at q; cases q
    | some b =>
      rw [hb] at q
      cases q
      rcases in_core (X := X) (neg := false) (Q := Q) e dx dy hb (k _ F H (.refl e) (.bl b)) with z | ⟨p, ds, h1, h2, h3, h4, rfl⟩
      · exact .inl z
      · exact .inr ⟨p, ds, h1, h2, h3, h4, k _ F H (.refl e) (.bl _)⟩⟩
  ok := fun x y c fs h => by
    unfold oIn at h
    split at h <;> cases h
theorem b_notIn (hu : X.A.units + 65 < cLine) : BinOk G X .s (compareOp .NotIn) oNotIn where
  ex := ⟨_, opr_or op_notIn_seq (op_notInD hu), fun F H v u x y Q d e dx dy q k => by
    unfold oNotIn at q
    cases hb : inP x y with
    | none => rw [hb] at q; cases q
    | some b =>
      rw [hb] at q
      cases q
      rcases in_core (X := X) (neg := true) (Q := Q) e dx dy hb (k _ F H (.refl e) (.bl _)) with z | ⟨p, ds, h1, h2, h3, h4, rfl⟩
      · exact .inl z
      · exact .inr ⟨p, ds, h1, h2, h3, h4, k _ F H (.refl e) (.bl _)⟩⟩
  ok := fun x y c fs h => by
    unfold oNotIn at h
    split at h <;> cases h

/-! ### is: None and bools -/
def isP : PV → PV → Option Bool
  | .non, .non => some true
  | _, .non => some false
  | .bl a, .bl b => some (decide (a = b))
  | _, _ => none
def oIs (x y : PV) : R PV := match isP x y with
  | some b => .ok (.bl b)
  | none => .bad
def oIsNot (x y : PV) : R PV := match isP x y with
  | some b => .ok (.bl (!b))
  | none => .bad
theorem is_core {F H : Hp} {v u : V} {x y : PV} {b : Bool} (dx : DataB G F H v x) (dy : DataB G F H u y) (h : isP x y = some b) : (u = .non ∧ decide (v = .non) = b) ∨ ∃ i j, v = .bl i ∧ u = .bl j ∧ decide (i = j) = b := by
  cases y with
  | non =>
    refine .inl ⟨dy.non, ?_⟩
    cases x with
    | non => cases h; rw [dx.non]; rfl
    | bl i => cases h; rw [dx.bl]; rfl
    | int i => cases h; rw [dx.int]; rfl
    | str i => cases h; rw [dx.str]; rfl
    | _ =>
      cases h
      rcases dx with dx | ⟨a, rfl, _⟩
      · cases dx <;> rfl
      · rfl
  | bl j =>
    cases x with
    | bl i => cases h; exact .inr ⟨i, j, dx.bl, dy.bl, rfl⟩
    | _ => cases h
  | _ => cases x <;> cases h
theorem b_is : BinOk G X .s (compareOp .Is) oIs where
  ex := ⟨_, opr_or op_isN op_isBl, fun F H v u x y Q d e dx dy q k => by
    unfold oIs at q
    cases hb : isP x y with
    | none => rw [hb] at q; cases q
    | some b =>
      rw [hb] at q
      cases q
      have kk := k (.bl b) F H (.refl e) (.bl b)
      rcases is_core dx dy hb with ⟨rfl, h⟩ | ⟨i, j, rfl, rfl, h⟩
      · exact .inl ⟨rfl, by rw [h]; exact kk⟩
      · exact .inr ⟨i, j, rfl, rfl, by rw [h]; exact kk⟩⟩
  ok := fun x y c fs h => by
    unfold oIs at h
    split at h <;> cases h
theorem b_isNot : BinOk G X .s (compareOp .IsNot) oIsNot where
  ex := ⟨_, opr_or op_notN op_notBl, fun F H v u x y Q d e dx dy q k => by
    unfold oIsNot at q
    cases hb : isP x y with
    | none => rw [hb] at q; cases q
    | some b =>
      rw [hb] at q
      cases q
      have kk := k (.bl (!b)) F H (.refl e) (.bl (!b))
      rcases is_core dx dy hb with ⟨rfl, h⟩ | ⟨i, j, rfl, rfl, h⟩
      · exact .inl ⟨rfl, by rw [h]; exact kk⟩
      · exact .inr ⟨i, j, rfl, rfl, by rw [h]; exact kk⟩⟩
  ok := fun x y c fs h => by
    unfold oIsNot at h
    split at h <;> cases h
end
end PP

/-! PPExpr: unary, tests, and, or, not; attributes, subscripts, slices; tuples, lists; arguments and calls. -/
namespace PP
open PySem PySem.Spec L2

section
variable {G : Cfg} {X : Cx} [CK G X] {W : WX} {k k1 k2 k3 : Kd} {e a b c : Expr} {f fa fb fc : DE} {pos : Pos}

/-! ### one place -/
/-- one value, then something by values -/
theorem un_reads {F H : Hp} {w : Wd} {ρ : PEnv} {σ : L2.St} {Q : VK} {g : PV → R PV} {R' : V → Hp → Prop} (r : Rel G w F H ρ σ) (q : ARes G W k F H σ Q ((fa ρ).bind g))
    (step : ∀ v x F2 H2, Grow F H F2 H2 → DataX G k1 H F2 H2 v x → ARes G W k F2 H2 σ Q (g x) → R' v H2) : tE G W k1 fa σ H fun v H1 => R' v H1 := by
  refine ⟨w, F, ρ, r, ?_⟩
  cases ha : fa ρ with
  | bad => rw [ha] at q; exact q
  | ex c fs => rw [ha] at q; exact q
  | ok x =>
    rw [ha] at q
    intro v F1 H1 g1 d1
    exact step v x F1 H1 g1 d1 (ARes.from g1 q)
def dUn (g : PV → R PV) (fa : DE) : DE := fun ρ => (fa ρ).bind g
def oNeg : PV → R PV
  | .int i => .ok (.int (-i))
  | _ => .bad
def oInv : PV → R PV
  | .int i => .ok (.int (Builtin.bitNot i))
  | _ => .bad
theorem e_neg (ha : EOk G X W k1 a fa) : EOk G X W .s (.UnaryOp .USub a pos) (dUn oNeg fa) :=
  (pe_un un_neg ha).wk fun σ H Q ⟨w, F, ρ, r, q⟩ => un_reads r q fun v x F2 H2 g d q' => by
    cases x with
    | int i => exact ⟨i, d.toB.int, q' _ F2 H2 (.refl g.fh) (.int _)⟩
    | _ => exact q'.elim
theorem e_inv (ha : EOk G X W k1 a fa) : EOk G X W .s (.UnaryOp .Invert a pos) (dUn oInv fa) :=
  (pe_un un_inv ha).wk fun σ H Q ⟨w, F, ρ, r, q⟩ => un_reads r q fun v x F2 H2 g d q' => by
    cases x with
    | int i => exact ⟨i, d.toB.int, q' _ F2 H2 (.refl g.fh) (.int _)⟩
    | _ => exact q'.elim

/-! ### tests -/
theorem BRes.from {F H F' H' : Hp} {σ : L2.St} {Q : Bool → Hp → Prop} {x : R Bool} (g : Grow F H F' H') (h : BRes G W F H σ Q x) : BRes G W F' H' σ Q x := by
  cases x with
  | ok d => exact fun F2 H2 g2 => h F2 H2 (g.trans g2)
  | ex c fs => exact fun cls dd F2 H2 g2 x => h cls dd F2 H2 (g.trans g2) x
  | bad => exact h
theorem un_readsB {F H : Hp} {w : Wd} {ρ : PEnv} {σ : L2.St} {Q : Bool → Hp → Prop} {g : PV → R Bool} {R' : V → Hp → Prop} (r : Rel G w F H ρ σ) (q : BRes G W F H σ Q ((fa ρ).bind g))
    (step : ∀ v x F2 H2, Grow F H F2 H2 → DataX G k1 H F2 H2 v x → BRes G W F2 H2 σ Q (g x) → R' v H2) : tE G W k1 fa σ H fun v H1 => R' v H1 := by
  refine ⟨w, F, ρ, r, ?_⟩
  cases ha : fa ρ with
  | bad => rw [ha] at q; exact q
  | ex c fs => rw [ha] at q; exact q
  | ok x =>
    rw [ha] at q
    intro v F1 H1 g1 d1
    exact step v x F1 H1 g1 d1 (BRes.from g1 q)
def asBl : PV → R Bool
  | .bl b => .ok b
  | _ => .bad
/-- a truth, as a test -/
def dTst (fa : DE) : DT := fun ρ => (fa ρ).bind asBl
theorem t_reads {F H : Hp} {w : Wd} {ρ : PEnv} {σ : L2.St} {Q : Bool → Hp → Prop} (r : Rel G w F H ρ σ) (q : BRes G W F H σ Q (dTst fa ρ)) : tE G W k1 fa σ H fun v H1 => ∃ c, v = .bl c ∧ Q c H1 :=
  un_readsB r q fun v x F2 H2 g d q' => by
    cases x with
    | bl b => exact ⟨b, d.toB.bl, q' F2 H2 (.refl g.fh)⟩
    | _ => exact q'.elim
theorem t_val (h : EOk G X W k1 e fa) (he : ∀ whole, isTrue e X.env whole = (do let v ← whole; standAt e.pos; holding [v] (truthy v)) := by intro _; rfl) : TOk G X W e (dTst fa) :=
  (pt_val h he).wk fun σ H Q ⟨w, F, ρ, r, q⟩ => t_reads r q
theorem t_cmp {op : CmpOp} {g : PV → PV → R PV} (ha : EOk G X W k1 a fa) (hb : EOk G X W k2 b fb) (ho : BinOk G X .s (compareOp op) g) (hm : behindInMarks op b = false) : TOk G X W (.Compare a [op] [b] pos) (dTst (dBin g fa fb)) := by
  obtain ⟨r, h1, h2⟩ := ho.ex
  refine (pt_cmpR h1 ha hb hm).wk fun σ H Q ⟨w, F, ρ, rl, q⟩ => ?_
  have z : tE G W .s (dBin g fa fb) σ H fun v H1 => ∃ c, v = .bl c ∧ Q c H1 := t_reads rl q
  obtain ⟨w', F', ρ', rl', q'⟩ := z
  refine bin_reads rl' q' fun v u x y F2 H2 g12 d1 d2 q2 => ?_
  cases hg : g x y with
  | ok d =>
    rw [hg] at q2
    exact h2 F2 H2 v u x y _ d g12.fh d1 d2 hg fun v' F3 H3 g3 d3 => q2 v' F3 H3 g3 d3
  | ex c fs => exact absurd hg (ho.ok _ _ _ _)
  | bad => rw [hg] at q2; exact q2.elim
/-- the truth of any value -/
def truthP : PV → R Bool
  | .non => .ok false
  | .bl b => .ok b
  | .int i => .ok (i != 0)
  | .str x => if x.length ≤ cap then .ok ((x.length : Int) != 0) else .bad
  | .tup xs => .ok (!xs.isEmpty)
  | .lst xs => .ok (!xs.isEmpty)
  | .scr xs => .ok (!xs.isEmpty)
  | _ => .bad
def dTru (fa : DE) : DT := fun ρ => (fa ρ).bind truthP
theorem isEmpty_of {F : Hp} {vs : List V} {ds : List PV} (k : Datas G F vs ds) : vs.isEmpty = ds.isEmpty := by
  cases k <;> rfl
theorem tru_of {F H : Hp} {v : V} {x : PV} {t : Bool} (e : Same F H) (d : DataB G F H v x) (h : truthP x = .ok t) : TruV X.K v H t := by
  cases x with
  | non => cases h; rw [d.non]; rfl
  | bl b => cases h; rw [d.bl]; rfl
  | int i => cases h; rw [d.int]; rfl
  | str y =>
    simp only [truthP] at h
    split at h
    · rename_i hc
      cases h
      rw [d.str]
      exact ⟨by rw [← cap_eq]; exact hc, rfl⟩
    · cases h
  | tup xs =>
    cases h
    obtain ⟨p, vs, rfl, h1, k1⟩ := d.tup
    exact .inr (.inl ⟨vs, sqTX (sqT_same e h1), by rw [isEmpty_of k1]⟩)
  | lst xs =>
    cases h
    obtain ⟨p, vs, rfl, h1, k1⟩ := d.lst e
    exact .inl ⟨vs, .of h1, by rw [isEmpty_of k1]⟩
  | scr xs =>
    cases h
    obtain ⟨p, vs, rfl, h1, k1⟩ := d.scr
    exact .inl ⟨vs, sqLX (sqL_same e h1), by rw [isEmpty_of k1]⟩
  | _ => cases h
theorem truthP_ok {x : PV} {c : Nat} {fs : List PV} : truthP x ≠ .ex c fs := fun h => by
  cases x <;> simp only [truthP] at h <;> first | (split at h <;> cases h) | cases h
theorem t_tru (h : EOk G X W k1 e fa) (he : ∀ whole, isTrue e X.env whole = (do let v ← whole; standAt e.pos; holding [v] (truthy v)) := by intro _; rfl) : TOk G X W e (dTru fa) :=
  (pt_truth h he).wk fun σ H Q ⟨w, F, ρ, r, q⟩ => un_readsB r q fun v x F2 H2 g d q' => by
    cases ht : truthP x with
    | ok t => rw [ht] at q'; exact ⟨t, tru_of g.fh d.toB ht, q' F2 H2 (.refl g.fh)⟩
    | ex c fs => exact absurd ht truthP_ok
    | bad => rw [ht] at q'; exact q'.elim

/-! ### and, or, not -/
section
variable {t u : DT} {rest : List Expr}
/-- a test, then by its answer -/
theorem test_reads {F H : Hp} {w : Wd} {ρ : PEnv} {σ : L2.St} {Q : Bool → Hp → Prop} {g : Bool → R Bool} {R' : Bool → Hp → Prop} (r : Rel G w F H ρ σ) (q : BRes G W F H σ Q ((t ρ).bind g))
    (step : ∀ b F2 H2, Rel G w F2 H2 ρ σ → Grow F H F2 H2 → BRes G W F2 H2 σ Q (g b) → R' b H2) : tT G W t σ H fun b H1 => R' b H1 := by
  refine ⟨w, F, ρ, r, ?_⟩
  cases ha : t ρ with
  | bad => rw [ha] at q; exact q
  | ex c fs => rw [ha] at q; exact q
  | ok x =>
    rw [ha] at q
    intro F1 H1 g1
    exact step x F1 H1 (r.grow g1) g1 (BRes.from g1 q)
def dAndT (t u : DT) : DT := fun ρ => (t ρ).bind fun b => if b then u ρ else .ok false
def dOrT (t u : DT) : DT := fun ρ => (t ρ).bind fun b => if b then .ok true else u ρ
def dNotT (t : DT) : DT := fun ρ => (t ρ).bind fun b => .ok (!b)
theorem t_not (ha : TOk G X W a t) : TOk G X W (.UnaryOp .Not a pos) (dNotT t) :=
  (pt_not ha).wk fun σ H Q ⟨w, F, ρ, r, q⟩ => test_reads r q fun b F2 H2 _ g q' => q' F2 H2 (.refl g.fh)
theorem w_and1 (ha : TOk G X W a t) : WOk G X W (.BoolOp .And [a] pos) t := pw_and1 ha
theorem w_or1 (ha : TOk G X W a t) : WOk G X W (.BoolOp .Or [a] pos) t := pw_or1 ha
theorem w_and (ha : TOk G X W a t) (hb : WOk G X W (.BoolOp .And (b :: rest) pos) u) : WOk G X W (.BoolOp .And (a :: b :: rest) pos) (dAndT t u) :=
  (pw_and ha hb).wk fun σ H Q ⟨w, F, ρ, r, q⟩ => test_reads r q fun b F2 H2 r2 g q' => by
    cases b with
    | true => exact ⟨w, F2, ρ, r2, q'⟩
    | false => exact q' F2 H2 (.refl g.fh)
theorem w_or (ha : TOk G X W a t) (hb : WOk G X W (.BoolOp .Or (b :: rest) pos) u) : WOk G X W (.BoolOp .Or (a :: b :: rest) pos) (dOrT t u) :=
  (pw_or ha hb).wk fun σ H Q ⟨w, F, ρ, r, q⟩ => test_reads r q fun b F2 H2 r2 g q' => by
    cases b with
    | true => exact q' F2 H2 (.refl g.fh)
    | false => exact ⟨w, F2, ρ, r2, q'⟩
theorem w_t (h : WOk G X W e t) : TOk G X W e t := PW.pt h
end
/-- .. as values: truths -/
def dAndV (fa fb : DE) : DE := fun ρ => (fa ρ).bind fun x => match x with
  | .bl true => fb ρ
  | .bl false => .ok (.bl false)
  | _ => .bad
def dOrV (fa fb : DE) : DE := fun ρ => (fa ρ).bind fun x => match x with
  | .bl true => .ok (.bl true)
  | .bl false => fb ρ
  | _ => .bad
def oNot : PV → R PV
  | .bl b => .ok (.bl (!b))
  | _ => .bad
theorem e_one {op} (h : EOk G X W k e f) : EOk G X W k (.BoolOp op [e] pos) f := pe_one h
theorem e_and {rest : List Expr} (ha : EOk G X W k1 a fa) (hb : EOk G X W .s (.BoolOp .And (b :: rest) pos) fb) : EOk G X W .s (.BoolOp .And (a :: b :: rest) pos) (dAndV fa fb) :=
  (pe_and ha hb).wk fun σ H Q ⟨w, F, ρ, r, q⟩ => by
    refine ⟨w, F, ρ, r, ?_⟩
    unfold dAndV at q
    cases ha : fa ρ with
    | bad => rw [ha] at q; exact q
    | ex c fs => rw [ha] at q; exact q
    | ok x =>
      rw [ha] at q
      intro v F1 H1 g1 d1
      cases x with
      | bl b =>
        refine ⟨b, d1.toB.bl, ?_⟩
        cases b with
        | true => exact ⟨w, F1, ρ, r.grow g1, ARes.from (x := fb ρ) g1 q⟩
        | false => exact q _ F1 H1 g1 (.bl false)
      | _ => exact q.elim
theorem e_or {rest : List Expr} (ha : EOk G X W k1 a fa) (hb : EOk G X W .s (.BoolOp .Or (b :: rest) pos) fb) : EOk G X W .s (.BoolOp .Or (a :: b :: rest) pos) (dOrV fa fb) :=
  (pe_or ha hb).wk fun σ H Q ⟨w, F, ρ, r, q⟩ => by
    refine ⟨w, F, ρ, r, ?_⟩
    unfold dOrV at q
    cases ha : fa ρ with
    | bad => rw [ha] at q; exact q
    | ex c fs => rw [ha] at q; exact q
    | ok x =>
      rw [ha] at q
      intro v F1 H1 g1 d1
      cases x with
      | bl b =>
        refine ⟨b, d1.toB.bl, ?_⟩
        cases b with
        | false => exact ⟨w, F1, ρ, r.grow g1, ARes.from (x := fb ρ) g1 q⟩
        | true => exact q _ F1 H1 g1 (.bl true)
      | _ => exact q.elim
theorem e_not (ha : EOk G X W k1 a fa) : EOk G X W .s (.UnaryOp .Not a pos) (dUn oNot fa) :=
  (pe_not ha).wk fun σ H Q ⟨w, F, ρ, r, q⟩ => un_reads r q fun v x F2 H2 g d q' => by
    cases x with
    | bl b => exact ⟨b, d.toB.bl, q' _ F2 H2 (.refl g.fh) (.bl _)⟩
    | _ => exact q'.elim
/-- a test as a value: and, or whose parts are truths of any kind are told apart above -/
def dIf (t : DT) (fa fb : DE) : DE := fun ρ => (t ρ).bind fun b => if b then fa ρ else fb ρ
theorem e_if {t : DT} {c : Expr} (hc : TOk G X W c t) (ha : EOk G X W k a fa) (hb : EOk G X W k b fb) : EOk G X W k (.IfExp c a b pos) (dIf t fa fb) :=
  (pe_ifExp hc ha hb).wk fun σ H Q ⟨w, F, ρ, r, q⟩ => by
    refine ⟨w, F, ρ, r, ?_⟩
    unfold dIf at q
    cases ha : t ρ with
    | bad => rw [ha] at q; exact q
    | ex c fs => rw [ha] at q; exact q
    | ok x =>
      rw [ha] at q
      intro F1 H1 g1
      cases x with
      | true => exact ⟨w, F1, ρ, r.grow g1, ARes.from (x := fa ρ) g1 q⟩
      | false => exact ⟨w, F1, ρ, r.grow g1, ARes.from (x := fb ρ) g1 q⟩

/-! ### a < b < c -/
def dChain (g g' : PV → PV → R PV) (fa fb fc : DE) : DE := fun ρ => (fa ρ).bind fun x => (fb ρ).bind fun y => (g x y).bind fun z => match z with
  | .bl true => (fc ρ).bind fun u => g' y u
  | .bl false => .ok (.bl false)
  | _ => .bad
theorem chain_reads {F H : Hp} {w : Wd} {ρ : PEnv} {σ : L2.St} {Q : VK} {op op' : CmpOp} {g g' : PV → PV → R PV} {r r' : R2} (rl : Rel G w F H ρ σ) (ho : BinOk G X .s (compareOp op) g) (ho' : BinOk G X .s (compareOp op') g')
    (h2 : ∀ (F H : Hp) (v u : V) (x y : PV) (Q : VK) (d : PV), Same F H → DataB G F H v x → DataB G F H u y → g x y = .ok d → (∀ v' F' H', Grow F H F' H' → DataX G .s H F' H' v' d → Q v' H') → r v u H Q)
    (h2' : ∀ (F H : Hp) (v u : V) (x y : PV) (Q : VK) (d : PV), Same F H → DataB G F H v x → DataB G F H u y → g' x y = .ok d → (∀ v' F' H', Grow F H F' H' → DataX G .s H F' H' v' d → Q v' H') → r' v u H Q)
    (q : ARes G W .s F H σ Q (dChain g g' fa fb fc ρ)) : tChain r r' (tE G W k1 fa) (tE G W k2 fb) (tE G W k3 fc) σ H Q := by
  refine ⟨w, F, ρ, rl, ?_⟩
  unfold dChain at q
  cases ha : fa ρ with
  | bad => rw [ha] at q; exact q
  | ex c fs => rw [ha] at q; exact q
  | ok x =>
    rw [ha] at q
    intro v F1 H1 g1 d1
    refine ⟨w, F1, ρ, rl.grow g1, ?_⟩
    cases hb : fb ρ with
    | bad => rw [hb] at q; exact q
    | ex c fs => rw [hb] at q; exact fun cls dd F2 H2 g2 x => q cls dd F2 H2 (g1.trans g2) x
    | ok y =>
      rw [hb] at q
      intro u F2 H2 g2 d2
      have g12 := g1.trans g2
      cases hg : g x y with
      | bad => simp only [R.bind, hg] at q; exact q.elim
      | ex c fs => exact absurd hg (ho.ok _ _ _ _)
      | ok z =>
        simp only [R.bind, hg] at q
        refine h2 F2 H2 v u x y _ z g12.fh (d1.toB.grow g2) d2.toB hg fun v' F3 H3 g3 d3 => ?_
        cases z with
        | bl bb =>
          refine ⟨bb, DataB.bl (H := H3) (.inl d3), ?_⟩
          cases bb with
          | false => exact q _ F3 H3 (g12.trans g3) (.bl false)
          | true =>
            show tE G W k3 fc σ H3 _
            refine ⟨w, F3, ρ, rl.grow (g12.trans g3), ?_⟩
            simp only at q
            cases hc : fc ρ with
            | bad => rw [hc] at q; exact q
            | ex c fs => rw [hc] at q; exact fun cls dd F4 H4 g4 x => q cls dd F4 H4 ((g12.trans g3).trans g4) x
            | ok uu =>
              rw [hc] at q
              intro v4 F4 H4 g4 d4
              have g14 := (g12.trans g3).trans g4
              replace q : ARes G W .s F H σ Q (g' y uu) := q
              cases hg' : g' y uu with
              | bad => rw [hg'] at q; exact q.elim
              | ex c fs => exact absurd hg' (ho'.ok _ _ _ _)
              | ok z' =>
                rw [hg'] at q
                exact h2' F4 H4 u v4 y uu _ z' g14.fh ((d2.toB.grow g3).grow g4) d4.toB hg' fun v5 F5 H5 g5 d5 => q v5 F5 H5 (g14.trans g5) d5
        | _ => exact q.elim
theorem e_chain {op op' : CmpOp} {g g' : PV → PV → R PV} (ha : EOk G X W k1 a fa) (hb : EOk G X W k2 b fb) (hc : EOk G X W k3 c fc) (ho : BinOk G X .s (compareOp op) g) (ho' : BinOk G X .s (compareOp op') g') (hm : lastMarks [op, op'] [b, c] = false := by rfl) :
    EOk G X W .s (.Compare a [op, op'] [b, c] pos) (dChain g g' fa fb fc) := by
  obtain ⟨r, h1, h2⟩ := ho.ex
  obtain ⟨r', h1', h2'⟩ := ho'.ex
  exact (pe_chain h1 h1' ha hb hc (hm := hm)).wk fun σ H Q ⟨w, F, ρ, rl, q⟩ => chain_reads rl ho ho' h2 h2' q
theorem t_chain {op op' : CmpOp} {g g' : PV → PV → R PV} (ha : EOk G X W k1 a fa) (hb : EOk G X W k2 b fb) (hc : EOk G X W k3 c fc) (ho : BinOk G X .s (compareOp op) g) (ho' : BinOk G X .s (compareOp op') g') (hm : lastMarks [op, op'] [b, c] = false := by rfl) :
    TOk G X W (.Compare a [op, op'] [b, c] pos) (dTst (dChain g g' fa fb fc)) := by
  obtain ⟨r, h1, h2⟩ := ho.ex
  obtain ⟨r', h1', h2'⟩ := ho'.ex
  refine (pt_chain h1 h1' ha hb hc (hm := hm)).wk fun σ H Q ⟨w, F, ρ, rl, q⟩ => ?_
  have z : tE G W .s (dChain g g' fa fb fc) σ H fun v H1 => ∃ c, v = .bl c ∧ Q c H1 := t_reads rl q
  obtain ⟨w', F', ρ', rl', q'⟩ := z
  exact chain_reads rl' ho ho' h2 h2' q'
end
end PP

/-! PPCall: the program's facts in a context; names of the module; calls. -/
namespace PP
open PySem PySem.Spec L2

/-- a def of the text -/
structure FnI where
  f : Addr
  fd : FuncData
  ps : List Str
/-- what stands in the module: defs, constants and classes by name, __init__s and methods by class; how calls with keywords are put in order -/
structure PrgD where
  gfn : Str → Option Nat
  con : Str → Option PV
  gcls : Str → Option Nat
  ini : Nat → Option Nat
  mth : Nat → Str → Option Nat
  kw : Nat → List (Nat × List Str × List Nat)
  /-- defs that hand out a list of their own -/
  own : Nat → Bool := fun _ => false
/-- the values at the places ix -/
def pick {α : Type} (ix : List Nat) (xs : List α) : List α := ix.filterMap (xs[·]?)
def bltNames : List Str := ["len", "range", "isinstance", "int", "bool", "str", "list", "tuple", "sum", "all", "any", "min", "max", "abs", "sorted", "enumerate", "zip", "set", "dict", "reversed", "super", "ValueError"]
/-- a def's promise: it answers what S answers, and changes nothing that stood -/
def PRes (G : Cfg) (F H : Hp) (Q : VK) (E : XK) : R PV → Prop
  | .ok d => ∀ v F' H', Grow F H F' H' → Data G F' v d → Q v H'
  | .ex c fs => ∀ cls dd F' H', Grow F H F' H' → ExD G F' H' c fs cls dd → E cls dd H'
  | .bad => False
def spP (G : Cfg) (n : Nat) (S : List PV → R PV) : Sp := fun vs H Q E => ∃ F ds, Same F H ∧ Datas G F vs ds ∧ ds.length = n ∧ PRes G F H Q E (S ds)
/-- a def that hands out a list of its own -/
def ORes' (G : Cfg) (F H : Hp) (Q : VK) (E : XK) : R PV → Prop
  | .ok d => ∀ v F' H', Grow F H F' H' → DataX G .n H F' H' v d → Q v H'
  | .ex c fs => ∀ cls dd F' H', Grow F H F' H' → ExD G F' H' c fs cls dd → E cls dd H'
  | .bad => False
def spO (G : Cfg) (n : Nat) (S : List PV → R PV) : Sp := fun vs H Q E => ∃ F ds, Same F H ∧ Datas G F vs ds ∧ ds.length = n ∧ ORes' G F H Q E (S ds)
/-- the promise of an __init__: self is new, the attributes are those of G's class c, in order -/
def IRes' (G : Cfg) (c : Nat) (C : Addr) (p : Addr) (F H : Hp) (Q : VK) (E : XK) : R PV → Prop
  | .ok d => ∀ dx fs ds F' H', d = .obj c ds → Same F F' → Same F' H' → (∀ b o, b ≠ p → H b = some o → H' b = some o) → (∀ a o, F' a = some o → F a = some o ∨ H a = none) → F' p = none →
      H' p = some (.ins C dx fs) → fs.map (·.1) = G.names c → Datas G F' (fs.map (·.2)) ds → Q .non H'
  | .ex c fs => ∀ cls dd F' H', Same F F' → Same F' H' → (∀ b o, b ≠ p → H b = some o → H' b = some o) → (∀ a o, F' a = some o → F a = some o ∨ H a = none) → F' p = none → ExD G F' H' c fs cls dd → E cls dd H'
  | .bad => False
def spI (G : Cfg) (n c : Nat) (S : List PV → R PV) : Sp := fun vs H Q E => ∃ F ds p dx C us, vs = .ref p :: us ∧ G.cls c = some C ∧ Same F H ∧ F p = none ∧ H p = some (.ins C dx []) ∧ Datas G F us ds ∧ ds.length + 1 = n ∧ IRes' G c C p F H Q E (S ds)

/-- the program's facts in a context: defs keep Γ's answers (__init__s by Γ too) -/
class Prg (G : Cfg) (X : Cx) (n : outParam Nat) (Γ : outParam Tab) (D : outParam PrgD) (fn : outParam (Nat → Option FnI)) : Prop where
  room : Room (n + 1) X.A
  ok : ∀ i I, fn i = some I → PySem.W.keepIn X.K (.ref I.f) = true ∧ Binds X.K I.fd I.ps []
  fnn : ∀ i I, fn i = some I → (∀ c, D.ini c ≠ some i) → FnOk X.prog X.w X.K X.mg X.base (L2.CX X.prog X.w) n I.f I.fd I.ps (spP G I.ps.length (Γ i))
  fno : ∀ i I, fn i = some I → D.own i = true → FnOk X.prog X.w X.K X.mg X.base (L2.CX X.prog X.w) n I.f I.fd I.ps (spO G I.ps.length (Γ i))
  fni : ∀ c i I, D.ini c = some i → fn i = some I → FnOk X.prog X.w X.K X.mg X.base (L2.CX X.prog X.w) n I.f I.fd I.ps (spI G I.ps.length c (Γ i))
  len : ∀ i I ds, fn i = some I → (∀ c, D.ini c ≠ some i) → Γ i ds ≠ .bad → ds.length = I.ps.length
  leni : ∀ c i I ds, D.ini c = some i → fn i = some I → Γ i ds ≠ .bad → ds.length + 1 = I.ps.length
  gfn : ∀ x i, D.gfn x = some i → (∀ c, D.ini c ≠ some i) ∧ ∃ I, fn i = some I ∧ X.mg x = some (.ref I.f)
  blt : ∀ x ∈ bltNames, X.mg x = none
  con : ∀ x d, D.con x = some d → ∃ v u, X.mg x = some u ∧ RelV v u ∧ ∀ F, Data G F v d
  gcls : ∀ x c, D.gcls x = some c → ∃ C, G.cls c = some C ∧ X.mg x = some (.ref C)
  ini : ∀ c i, D.ini c = some i → ∃ C I, G.cls c = some C ∧ fn i = some I ∧ Mk X.K C I.f
  mth : ∀ c m i, D.mth c m = some i → (∀ c, D.ini c ≠ some i) ∧ ∃ C I, G.cls c = some C ∧ fn i = some I ∧ Meth X.K C m I.f
  kw : ∀ i I t, fn i = some I → t ∈ D.kw i → KBn X.K I.fd I.ps t.1 t.2.1 (fun us ws => pick t.2.2 (us ++ ws)) (fun vs zs => pick t.2.2 (vs ++ zs))
section
variable {G : Cfg} {X : Cx} {n : Nat} {Γ : Tab} {D : PrgD} {fn : Nat → Option FnI}
instance [c : Prg G X n Γ D fn] {s : Shared} {H : Hp} {sc : Scope} {env : Env} {fp : List Addr} : Prg G (X.blk s H sc env fp) n Γ D fn := ⟨c.room, c.ok, c.fnn, c.fno, c.fni, c.len, c.leni, c.gfn, c.blt, c.con, c.gcls, c.ini, c.mth, c.kw⟩
instance [c : Prg G X n Γ D fn] {E : Value → Shared → Prop} : Prg G (X.wish E) n Γ D fn := ⟨c.room, c.ok, c.fnn, c.fno, c.fni, c.len, c.leni, c.gfn, c.blt, c.con, c.gcls, c.ini, c.mth, c.kw⟩
instance [c : Prg G X n Γ D fn] {pn : List (Addr × Obj)} {xe : Value → Shared → Prop} : Prg G (X.tr pn xe) n Γ D fn := ⟨c.room, c.ok, c.fnn, c.fno, c.fni, c.len, c.leni, c.gfn, c.blt, c.con, c.gcls, c.ini, c.mth, c.kw⟩
end

section
variable {G : Cfg} {X : Cx} [CK G X] {W : WX} {k k1 k2 k3 : Kd} {e a b c : Expr} {es : List Expr} {f fa fb fc : DE} {fl : DA} {pos : Pos} {n : Nat} {Γ : Tab} {D : PrgD} {fn : Nat → Option FnI}

/-! ### arguments -/
def dNil : DA := fun _ => .ok []
def dCons (fa : DE) (fl : DA) : DA := fun ρ => (fa ρ).bind fun x => (fl ρ).bind fun r => .ok (x :: r)
theorem a_nil {st : Bool} : AOk G X W st [] dNil := pa_nil.wk fun σ H Q ⟨w, F, ρ, r, q⟩ => q [] F H (.refl r.base.fh) (by cases st; exact .nil; exact .nil)
theorem Grow.datasB {F H F' H' : Hp} (g : Grow F H F' H') {v : V} {d : PV} (h : DataB G F H v d) : DataB G F' H' v d := h.grow g
theorem a_cons {st : Bool} (ha : EOk G X W k a fa) (hr : AOk G X W st es fl) (hk : (st = true → k.st = true) := by intro _; rfl) (hs : starEach (a :: es) X.env = (false, eval a X.env) :: starEach es X.env := by rfl) : AOk G X W st (a :: es) (dCons fa fl) := by
  refine (pa_cons ha hr hs).wk fun σ H Q ⟨w, F, ρ, r, q⟩ => ⟨w, F, ρ, r, ?_⟩
  unfold dCons at q
  cases hx : fa ρ with
  | bad => rw [hx] at q; exact q
  | ex c fs => rw [hx] at q; exact q
  | ok x =>
    rw [hx] at q
    intro v F1 H1 g1 d1
    have go : ∀ F1', Grow F H F1' H1 → (match st with | true => Data G F1' v x | false => DataB G F1' H1 v x) → tA G W st fl σ H1 fun xs H2 => Q (v :: xs) H2 := fun F1' g1' d1' => by
      refine ⟨w, F1', ρ, r.grow g1', ?_⟩
      cases hl : fl ρ with
      | bad => rw [hl] at q; exact q
      | ex c fs => rw [hl] at q; exact fun cls dd F2 H2 g2 x => q cls dd F2 H2 (g1'.trans g2) x
      | ok ds =>
        rw [hl] at q
        intro vs F2 H2 g2 d2
        refine q (v :: vs) F2 H2 (g1'.trans g2) ?_
        cases st with
        | true => exact Datas.cons (Data.mono g2.f d1') d2
        | false => exact DatasB.cons (DataB.grow g2 d1') d2
    cases st with
    | false => exact go F1 g1 d1.toB
    | true =>
      obtain ⟨F1', g1', d1'⟩ := d1.stable (hk rfl) g1
      exact go F1' g1' d1'

/-! ### tuples, lists -/
def dTup (fl : DA) : DE := fun ρ => (fl ρ).bind fun ds => if ds.length ≤ cap then .ok (.tup ds) else .bad
def dLst (fl : DA) : DE := fun ρ => (fl ρ).bind fun ds => if ds.length ≤ cap then .ok (.lst ds) else .bad
theorem args_reads {st : Bool} {F H : Hp} {w : Wd} {ρ : PEnv} {σ : L2.St} {Q : VK} {g : List PV → R PV} {R' : List V → Hp → Prop} (r : Rel G w F H ρ σ) (q : ARes G W k F H σ Q ((fl ρ).bind g))
    (step : ∀ vs ds F2 H2, Grow F H F2 H2 → DatasX G st F2 H2 vs ds → ARes G W k F2 H2 σ Q (g ds) → R' vs H2) : tA G W st fl σ H fun vs H1 => R' vs H1 := by
  refine ⟨w, F, ρ, r, ?_⟩
  cases ha : fl ρ with
  | bad => rw [ha] at q; exact q
  | ex c fs => rw [ha] at q; exact q
  | ok x =>
    rw [ha] at q
    intro vs F1 H1 g1 d1
    exact step vs x F1 H1 g1 d1 (ARes.from g1 q)
theorem e_tup {x1} (h : AOk G X W true es fl) : EOk G X W .s (.Tuple es x1 pos) (dTup fl) :=
  (pe_tup h).wk fun σ H Q ⟨w, F, ρ, r, q⟩ => args_reads (st := true) r q fun vs ds F2 H2 g d q' => by
    have d : Datas G F2 vs ds := d
    by_cases hc : ds.length ≤ cap
    · rw [if_pos hc] at q'
      refine ⟨by rw [← cap_eq, d.length]; exact hc, fun p np => ?_⟩
      have gl := Grow.laid (o := .tup vs) g.fh np
      exact q' _ _ _ gl (.tup (.of upd_same) (d.mono gl.f))
    · rw [if_neg hc] at q'; exact q'.elim
theorem e_lst (h : AOk G X W true es fl) : EOk G X W .n (.List es pos) (dLst fl) :=
  (pe_lst h).wk fun σ H Q ⟨w, F, ρ, r, q⟩ => args_reads (st := true) r q fun vs ds F2 H2 g d q' => by
    have d : Datas G F2 vs ds := d
    by_cases hc : ds.length ≤ cap
    · rw [if_pos hc] at q'
      refine ⟨by rw [← cap_eq, d.length]; exact hc, fun p np => ?_⟩
      exact q' _ F2 _ (.apart g.fh np) ⟨p, rfl, np, g.fh.free np, vs, upd_same, d⟩
    · rw [if_neg hc] at q'; exact q'.elim

/-! ### built-ins by values -/
structure CallOk (G : Cfg) (X : Cx) (k : Kd) (f : Value) (st : Bool) (g : List PV → R PV) : Prop where
  ex : ∃ r, CallR X f r ∧ ∀ (F H : Hp) (vs : List V) (ds : List PV) (Q : VK) (d : PV), Same F H → DatasX G st F H vs ds → g ds = .ok d → (∀ v' F' H', Grow F H F' H' → DataX G k H F' H' v' d → Q v' H') → r vs H Q
  ok : ∀ ds c fs, g ds ≠ .ex c fs
def dFn (g : List PV → R PV) (fl : DA) : DE := fun ρ => (fl ρ).bind g
theorem e_callB {x : Str} {id : String} {g : List PV → R PV} {p : Pos} {st : Bool} [c : Prg G X n Γ D fn] (hc : CallOk G X k (.builtin id) st g) (hx : x ∈ bltNames) (hg : Gl X x) (hv : bootBuiltins x = some (.builtin id)) (ha : AOk G X W st (e :: es) fl)
    (hn : x ≠ "__name__" := by decide) (hdb : (x == ("__debug__" : Str)) = false := by decide)
    (he : starEach (e :: es) X.env = (false, eval e X.env) :: starEach es X.env := by rfl) (hpl : (backTo pos (starEach es X.env)).any (·.1) = false := by rfl) : EOk G X W k (.Call (.Name x p) (e :: es) [] pos) (dFn g fl) := by
  obtain ⟨r, h1, h2⟩ := hc.ex
  exact (pe_callB h1 hg (c.blt x hx) hv ha hn hdb he hpl).wk fun σ H Q ⟨w, F, ρ, rl, q⟩ => args_reads (st := st) rl q fun vs ds F2 H2 g2 d q' => by
    cases hd : g ds with
    | ok d' => rw [hd] at q'; exact h2 F2 H2 vs ds Q d' g2.fh d hd fun v' F' H' => q' v' F' H'
    | ex c fs => exact absurd hd (hc.ok _ _ _)
    | bad => rw [hd] at q'; exact q'.elim
theorem e_callTy {x : Str} {T : String} {g : List PV → R PV} {p : Pos} {st : Bool} [c : Prg G X n Γ D fn] (hc : CallOk G X k (.type T) st g) (hx : x ∈ bltNames) (hg : Gl X x) (hv : bootBuiltins x = some (.type T)) (ha : AOk G X W st (e :: es) fl)
    (hn : x ≠ "__name__" := by decide) (hdb : (x == ("__debug__" : Str)) = false := by decide)
    (he : starEach (e :: es) X.env = (false, eval e X.env) :: starEach es X.env := by rfl) (hpl : (backTo pos (starEach es X.env)).any (·.1) = false := by rfl) : EOk G X W k (.Call (.Name x p) (e :: es) [] pos) (dFn g fl) := by
  obtain ⟨r, h1, h2⟩ := hc.ex
  exact (pe_callTy h1 hg (c.blt x hx) hv ha hn hdb he hpl).wk fun σ H Q ⟨w, F, ρ, rl, q⟩ => args_reads (st := st) rl q fun vs ds F2 H2 g2 d q' => by
    cases hd : g ds with
    | ok d' => rw [hd] at q'; exact h2 F2 H2 vs ds Q d' g2.fh d hd fun v' F' H' => q' v' F' H'
    | ex c fs => exact absurd hd (hc.ok _ _ _)
    | bad => rw [hd] at q'; exact q'.elim

/-! ### the program's own defs -/
def dCall (Γ : Tab) (i : Nat) (fl : DA) : DE := fun ρ => (fl ρ).bind (Γ i)
theorem PRes.of {F H : Hp} {σ : L2.St} {Q : VK} {x : R PV} (h : ARes G W .s F H σ Q x) : PRes G F H Q (fun cls dd H' => W cls dd σ H') x := by
  cases x with
  | ok d => exact h
  | ex c fs => exact h
  | bad => exact h
theorem PRes.ne {F H : Hp} {Q : VK} {E : XK} {x : R PV} (h : PRes G F H Q E x) : x ≠ .bad := fun e => by rw [e] at h; exact h
theorem e_call {x : Str} {i : Nat} {p : Pos} [c : Prg G X n Γ D fn] (tk : Takes X W) (hi : D.gfn x = some i) (hg : Gl X x) (ha : AOk G X W true (e :: es) fl) (hdb : (x == ("__debug__" : Str)) = false := by decide)
    (he : starEach (e :: es) X.env = (false, eval e X.env) :: starEach es X.env := by rfl) (hpl : (backTo pos (starEach es X.env)).any (·.1) = false := by rfl) :
    EOk G X W .s (.Call (.Name x p) (e :: es) [] pos) (dCall Γ i fl) := by
  obtain ⟨hni, I, hI, hmg⟩ := c.gfn x i hi
  obtain ⟨hk, hb⟩ := c.ok i I hI
  refine (pe_callSD (E := fun σ => WE W σ) (c.fnn i I hI hni) (c.room.mono (Nat.le_succ _)) hg hmg hk hb .nil (fun σ => passAt tk σ) ha hdb he hpl).wk fun σ H Q ⟨w, F, ρ, rl, q⟩ => ?_
  refine ⟨w, F, ρ, rl, ?_⟩
  unfold dCall at q
  cases hd : fl ρ with
  | bad => rw [hd] at q; exact q
  | ex c fs => rw [hd] at q; exact q
  | ok ds =>
    rw [hd] at q
    intro vs F2 H2 g2 d
    have d : Datas G F2 vs ds := d
    rw [List.append_nil]
    have pr := PRes.of (ARes.from (x := Γ i ds) g2 q)
    exact ⟨F2, ds, g2.fh, d, c.len i I ds hI hni pr.ne, pr⟩
theorem ORes'.of {F H : Hp} {σ : L2.St} {Q : VK} {x : R PV} (h : ARes G W .n F H σ Q x) : ORes' G F H Q (fun cls dd H' => W cls dd σ H') x := by
  cases x with
  | ok d => exact h
  | ex c fs => exact h
  | bad => exact h
theorem ORes'.ne {F H : Hp} {Q : VK} {E : XK} {x : R PV} (h : ORes' G F H Q E x) : x ≠ .bad := fun e => by rw [e] at h; exact h
theorem e_callO {x : Str} {i : Nat} {p : Pos} [c : Prg G X n Γ D fn] (tk : Takes X W) (hi : D.gfn x = some i) (ho : D.own i = true) (hg : Gl X x) (ha : AOk G X W true (e :: es) fl) (hdb : (x == ("__debug__" : Str)) = false := by decide)
    (he : starEach (e :: es) X.env = (false, eval e X.env) :: starEach es X.env := by rfl) (hpl : (backTo pos (starEach es X.env)).any (·.1) = false := by rfl) :
    EOk G X W .n (.Call (.Name x p) (e :: es) [] pos) (dCall Γ i fl) := by
  obtain ⟨hni, I, hI, hmg⟩ := c.gfn x i hi
  obtain ⟨hk, hb⟩ := c.ok i I hI
  refine (pe_callSD (E := fun σ => WE W σ) (c.fno i I hI ho) (c.room.mono (Nat.le_succ _)) hg hmg hk hb .nil (fun σ => passAt tk σ) ha hdb he hpl).wk fun σ H Q ⟨w, F, ρ, rl, q⟩ => ?_
  refine ⟨w, F, ρ, rl, ?_⟩
  unfold dCall at q
  cases hd : fl ρ with
  | bad => rw [hd] at q; exact q
  | ex c fs => rw [hd] at q; exact q
  | ok ds =>
    rw [hd] at q
    intro vs F2 H2 g2 d
    have d : Datas G F2 vs ds := d
    rw [List.append_nil]
    have q2 : ARes G W .n F2 H2 σ Q (Γ i ds) := by
      replace q : ARes G W .n F H σ Q (Γ i ds) := q
      cases hx : Γ i ds with
      | bad => rw [hx] at q; exact q
      | ex c fs => rw [hx] at q; exact fun cls dd F' H' gr x => q cls dd F' H' (g2.trans gr) x
      | ok y =>
        rw [hx] at q
        intro v F' H' gr dx
        obtain ⟨a, e1, e2, e3, e4⟩ := dx
        exact q v F' H' (g2.trans gr) ⟨a, e1, g2.h.free e2, e3, e4⟩
    have pr := ORes'.of q2
    exact ⟨F2, ds, g2.fh, d, c.len i I ds hI hni pr.ne, pr⟩
/-- f() -/
theorem e_call0 {x : Str} {i : Nat} {p : Pos} [c : Prg G X n Γ D fn] (tk : Takes X W) (hi : D.gfn x = some i) (hg : Gl X x) (hdb : (x == ("__debug__" : Str)) = false := by decide) :
    EOk G X W .s (.Call (.Name x p) [] [] pos) (dCall Γ i dNil) := by
  obtain ⟨hni, I, hI, hmg⟩ := c.gfn x i hi
  obtain ⟨hk, hb⟩ := c.ok i I hI
  refine ⟨fun pins s σ H Q I1 ⟨w, F, ρ, rl, q⟩ => ?_⟩
  refine wpAny_Call_Name_kw (ld_glob I1 hg hmg ?_ hdb)
  have pr := PRes.of (show ARes G W .s F H σ Q (Γ i []) from q)
  exact PySem.W.callWith_K0 I1.kIn hk (run_fnSD (us := []) (c.fnn i I hI hni) (c.room.mono (Nat.le_succ _)) hb .nil (passAt tk σ) I1 .nil ⟨F, [], rl.base.fh, .nil, c.len i I [] hI hni pr.ne, pr⟩)

/-! ### keywords: positional values first, then the keywords' values, put in the parameters' order by sh -/
structure KOk (G : Cfg) (X : Cx) (W : WX) (kws : List Keyword) (fl : DA) : Prop where
  run : PK X kws (tA G W true fl)
theorem k_nil : KOk G X W [] dNil := ⟨⟨fun pos pins s σ H Q I ⟨w, F, ρ, r, q⟩ => pk_nil.run pos pins s σ H Q I (q [] F H (.refl r.base.fh) .nil)⟩⟩
theorem k_cons {nm : Option Str} {kpos : Pos} {kws : List Keyword} (ha : EOk G X W k a fa) (hr : KOk G X W kws fl) (hk : k.st = true := by rfl) (nm' : Str) (hnm : nm = some nm' := by rfl) : KOk G X W (⟨nm, a, kpos⟩ :: kws) (dCons fa fl) := by
  refine ⟨⟨fun pos pins s σ H Q I ⟨w, F, ρ, r, q⟩ => (pk_cons ha hr.run).run pos pins s σ H Q I ?_⟩⟩
  refine ⟨w, F, ρ, r, ?_⟩
  unfold dCons at q
  cases hx : fa ρ with
  | bad => rw [hx] at q; exact q
  | ex c fs => rw [hx] at q; exact q
  | ok x =>
    rw [hx] at q
    intro v F1 H1 g1 d1
    obtain ⟨F1', g1', d1'⟩ := d1.stable hk g1
    refine ⟨w, F1', ρ, r.grow g1', ?_⟩
    cases hl : fl ρ with
    | bad => rw [hl] at q; exact q
    | ex c fs => rw [hl] at q; exact fun cls dd F2 H2 g2 x => q cls dd F2 H2 (g1'.trans g2) x
    | ok ds =>
      rw [hl] at q
      intro vs F2 H2 g2 d2
      exact q (v :: vs) F2 H2 (g1'.trans g2) (Datas.cons (Data.mono g2.f d1') d2)

/-! ### classes: making, methods, attributes -/
section
theorem run_makeS {CX : CXT} {j : Nat} {f C : Addr} {fd : FuncData} {ps : List Str} {sp : Sp} {E : XK} {pins : List (Addr × Obj)} {σ : L2.St} {H : Hp} {s : Shared} {Q : VK} {us : List Value} {vs : List V} (M : Mk X.K C f) (F : FnOk X.prog X.w X.K X.mg X.base CX j f fd ps sp) (hr : Room (j + 1) X.A) (hb : Binds X.K fd ps [])
    (hx : PassesAt CX X σ E) (I : Inv X pins σ H s) (r : Vals vs us)
    (h : ∀ x dx, H x = none → H dx = none → dx ≠ x → sp (.ref x :: vs) (upd (upd H dx (.own x)) x (.ins C dx [])) (fun v H2 => v = .non ∧ Q (.ref x) H2) E) :
    wpAny (model X.prog X.w) X.A (call (.ref C) us) (EP X pins σ Q) X.xe s := by
  have hq := h (s.heap.objs.size + 1) s.heap.objs.size (I.hok.fresh (Nat.le_succ _)) (I.hok.fresh (Nat.le_refl _)) (Nat.ne_of_lt (Nat.lt_succ_self _))
  have I2 := Inv.made (C := C) I
  have r2 : Vals (V.ref (s.heap.objs.size + 1) :: vs) (Value.ref (s.heap.objs.size + 1) :: us) := .cons rfl r
  have hl : ((Value.ref (s.heap.objs.size + 1) :: us) ++ []).length = ps.length := by
    rw [List.append_nil]
    have e := r2.length
    rw [F.len _ _ _ _ hq] at e
    exact e.symm
  have hb2 := hb _ (Value.ref (s.heap.objs.size + 1) :: us) I2.kIn hl
  rw [List.append_nil] at hb2
  refine wpAny_call (make_map (f := f) I.kIn M.makes M.init (beq_iff_eq.mp M.fn) (codeAny_mono (F.run _ X.stack _ _ ⟨Value.ref (s.heap.objs.size + 1) :: us, []⟩ (Value.ref (s.heap.objs.size + 1) :: us) _ _ E (hr.make C us [])
    (I2.env0.make C us []) hb2 r2 hq) fun r s' hq' => ?_))
  cases r with
  | error e => exact hx pins _ _ e s' I2 hq'
  | ok fl =>
    cases fl with
    | ret u =>
      obtain ⟨v, H', I3, rv, ev, q3⟩ := I2.after hq'
      subst ev
      exact ⟨rv, ⟨V.ref (s.heap.objs.size + 1), H', I3, rfl, q3⟩⟩
    | next => exact False.elim hq'
    | brk => exact False.elim hq'
    | cont => exact False.elim hq'
/-- from what an __init__ leaves: the instance stable -/
theorem IRes'.of {F H : Hp} {σ : L2.St} {Q : VK} {x dx C : Addr} {cc : Nat} {r : R PV} (hC : G.cls cc = some C) (e : Same F H) (nx : H x = none) (ndx : H dx = none) (ne : dx ≠ x) (h : ARes G W .s F H σ Q r) :
    IRes' G cc C x F (upd (upd H dx (.own x)) x (.ins C dx [])) (fun v H2 => v = .non ∧ Q (.ref x) H2) (WE W σ) r := by
  have same : ∀ {H' : Hp}, (∀ b o, b ≠ x → upd (upd H dx (.own x)) x (.ins C dx []) b = some o → H' b = some o) → Same H H' := fun {H'} k b o q => by
    have n1 : b ≠ x := ne_of_none q nx
    exact k b o n1 (by rw [upd_ne n1, upd_ne (ne_of_none q ndx)]; exact q)
  have back : ∀ {a : Addr}, upd (upd H dx (.own x)) x (.ins C dx []) a = none → H a = none := fun {a} q => by
    by_cases h1 : a = x
    · subst h1; exact nx
    · rw [upd_ne h1] at q
      by_cases h2 : a = dx
      · subst h2; exact ndx
      · rw [upd_ne h2] at q; exact q
  cases r with
  | ok d =>
    intro dx' fs ds F' H' ed f1 f2 f3 f4 f5 f6 f7 f8
    have nf := f5
    have sf : Same F' (upd F' x (.ins C dx' fs)) := fun b o q => by rw [upd_ne (ne_of_none q nf)]; exact q
    refine ⟨rfl, h _ (upd F' x (.ins C dx' fs)) H' ⟨f1.trans sf, same f3, fun b o q => ?_, fun b o q => ?_⟩ ?_⟩
    · by_cases hb : b = x
      · subst hb; rw [upd_same] at q; cases q; exact f6
      · rw [upd_ne hb] at q; exact f2 _ _ q
    · by_cases hb : b = x
      · subst hb; exact .inr nx
      · rw [upd_ne hb] at q
        rcases f4 b o q with z | z
        · exact .inl z
        · exact .inr (back z)
    · subst ed
      exact .obj hC upd_same f7 (f8.mono sf)
  | ex c fs =>
    intro cls dd F' H' f1 f2 f3 f4 f5 f6
    exact h cls dd F' H' ⟨f1, same f3, f2, fun b o q => (f4 b o q).imp _root_.id back⟩ f6
  | bad => exact h

theorem IRes'.ne {c : Nat} {C p : Addr} {F H : Hp} {Q : VK} {E : XK} {x : R PV} (h : IRes' G c C p F H Q E x) : x ≠ .bad := fun e => by rw [e] at h; exact h
/-- C(e, ..) -/
theorem e_make {x : Str} {i cc : Nat} {p : Pos} [c : Prg G X n Γ D fn] (tk : Takes X W) (hx : D.gcls x = some cc) (hi : D.ini cc = some i) (hg : Gl X x) (ha : AOk G X W true (e :: es) fl) (hdb : (x == ("__debug__" : Str)) = false := by decide)
    (he : starEach (e :: es) X.env = (false, eval e X.env) :: starEach es X.env := by rfl) (hpl : (backTo pos (starEach es X.env)).any (·.1) = false := by rfl) :
    EOk G X W .s (.Call (.Name x p) (e :: es) [] pos) (dCall Γ i fl) := by
  obtain ⟨C, hC, hmg⟩ := c.gcls x cc hx
  obtain ⟨C', I, hC', hI, M⟩ := c.ini cc i hi
  rw [hC] at hC'
  cases hC'
  obtain ⟨hk, hb⟩ := c.ok i I hI
  refine ⟨fun pins s σ H Q I0 ⟨w, F, ρ, rl, q⟩ => ?_⟩
  refine wpAny_Call_Name_kw (ld_glob I0 hg hmg ?_ hdb)
  refine PySem.W.callWith_K (h₀ := X.base) I0.ok.mod.kin M.kp (thn (ha.run pos pins s σ H (fun vs H1 => ∃ F1 ds, Grow F H F1 H1 ∧ Datas G F1 vs ds ∧ fl ρ = .ok ds) I0 ⟨w, F, ρ, rl, ?_⟩) fun us s1 ⟨vs, H1, I1, r, F1, ds, g1, dd, hd⟩ => ⟨I1.kIn, ?_⟩) he hpl
  · unfold dCall at q
    cases hd : fl ρ with
    | bad => rw [hd] at q; exact q
    | ex c fs => rw [hd] at q; exact q
    | ok ds => exact fun vs F1 H1 g1 d1 => ⟨F1, ds, g1, d1, rfl⟩
  · have q' : ARes G W .s F1 H1 σ Q (Γ i ds) := ARes.from g1 (by unfold dCall at q; rw [hd] at q; exact q)
    refine run_makeS (E := WE W σ) M (c.fni cc i I hi hI) c.room hb (passAt tk σ) I1 r fun y dx ny ndx nyx => ?_
    have fy : F1 y = none := g1.fh.free ny
    have sf : Same F1 (upd (upd H1 dx (.own y)) y (.ins C dx [])) := fun b o z => by
      have z1 := g1.fh _ _ z
      rw [upd_ne (ne_of_none z1 ny), upd_ne (ne_of_none z1 ndx)]
      exact z1
    have pr := IRes'.of hC g1.fh ny ndx nyx q'
    exact ⟨F1, ds, y, dx, C, vs, rfl, hC, sf, fy, upd_same, dd, c.leni cc i I ds hi hI pr.ne, pr⟩
theorem mem_of_lookup {t : List (Nat × Nat)} {c i : Nat} (hl : t.lookup c = some i) : (c, i) ∈ t := by
  induction t with
  | nil => cases hl
  | cons p r ih =>
    rw [List.lookup_cons] at hl
    by_cases hc : c = p.1
    · rw [hc, beq_self_eq_true] at hl
      cases hl
      rw [hc]
      exact List.mem_cons_self
    · rw [show (c == p.1) = false by simpa using hc] at hl
      exact List.mem_cons_of_mem _ (ih hl)
/-- o.f : t tells the places of the attribute by class -/
def oFld (t : List (Nat × Nat)) : PV → R PV
  | .obj c fs => match t.lookup c with
    | some i => .ofOpt fs[i]?
    | none => .bad
  | _ => .bad
theorem lookup_at {f : Str} {v : V} : ∀ {fs : List (Str × V)} {i : Nat}, (fs.map (·.1)).Nodup → (fs.map (·.1))[i]? = some f → (fs.map (·.2))[i]? = some v → fs.lookup f = some v
  | [], _, _, h, _ => by simp at h
  | (g, u) :: r, 0, _, h, h2 => by
    simp at h h2
    subst h h2
    simp [List.lookup]
  | (g, u) :: r, i + 1, nd, h, h2 => by
    have ne : ¬ f = g := fun z => by
      subst z
      have h' : (r.map (·.1))[i]? = some f := by simpa using h
      exact (List.nodup_cons.mp nd).1 (List.mem_of_getElem? h')
    have hb : (f == g) = false := by simpa using ne
    rw [List.lookup_cons, hb]
    exact lookup_at (List.nodup_cons.mp nd).2 (by simpa using h) (by simpa using h2)
theorem e_fld {f : Str} {t : List (Nat × Nat)} (ha : EOk G X W k a fa) (ht : (t.all fun p => (G.names p.1)[p.2]? == some f && decide (G.names p.1).Nodup) = true) (hb : attributeBase a f X.env (eval a X.env) = eval a X.env := by rfl) : EOk G X W .s (.Attribute a f pos) (dUn (oFld t) fa) :=
  (pe_fld ha hb).wk fun σ H Q ⟨w, F, ρ, r, q⟩ => un_reads r q fun v x F2 H2 g d q' => by
    cases x with
    | obj c fs =>
      have d1 : Data G F2 v (.obj c fs) := by
        rcases d.toB with z | ⟨_, _, z⟩
        · exact z
        · exact z.elim
      simp only [oFld] at q'
      cases hl : t.lookup c with
      | none => rw [hl] at q'; exact q'.elim
      | some i =>
        rw [hl] at q'
        simp only at q'
        cases hf : fs[i]? with
        | none => rw [hf] at q'; exact q'.elim
        | some d' =>
          rw [hf] at q'
          have hm : (c, i) ∈ t := mem_of_lookup hl
          have h1 := List.all_eq_true.mp ht (c, i) hm
          simp only [Bool.and_eq_true, beq_iff_eq, decide_eq_true_eq] at h1
          cases d1 with
          | @obj a C dx _ gs _ e1 e2 e3 e4 =>
            obtain ⟨v', hv', dv⟩ := Datas.get' e4 hf
            have ck := CK.cl (X := X) c C e1
            have hn : (gs.map (·.1))[i]? = some f := by rw [e3]; exact h1.1
            refine ⟨a, C, dx, gs, v', rfl, g.fh _ _ e2, ck.1, ck.2 f (List.mem_of_getElem? h1.1), ?_, q' v' F2 H2 (.refl g.fh) dv⟩
            exact lookup_at (by rw [e3]; exact h1.2) hn hv'
    | _ => exact q'.elim
/-- o.m(..): t tells the defs by class -/
def dMeth (Γ : Tab) (t : List (Nat × Nat)) (fo : DE) (fl : DA) : DE := fun ρ => (fo ρ).bind fun x => match x with
  | .obj c fs => match t.lookup c with
    | some i => (fl ρ).bind fun ds => Γ i (.obj c fs :: ds)
    | none => .bad
  | _ => .bad
theorem lookup_none {f : Str} : ∀ {fs : List (Str × V)}, f ∉ fs.map (·.1) → fs.lookup f = none
  | [], _ => rfl
  | (g, u) :: r, h => by
    have ne : ¬ f = g := fun z => h (by rw [z]; exact List.mem_cons_self)
    rw [List.lookup_cons, show (f == g) = false by simpa using ne]
    exact lookup_none fun z => h (List.mem_cons_of_mem _ z)
theorem e_meth {m : Str} {t : List (Nat × Nat)} {o : Expr} {fo : DE} {apos : Pos} {pl : Sem Bool} [c : Prg G X n Γ D fn] (tk : Takes X W) (ho : EOk G X W k o fo) (ha : AOk G X W true (e :: es) fl) (hk : k.st = true := by rfl)
    (ht : (t.all fun p => D.mth p.1 m == some p.2 && decide (m ∉ G.names p.1)) = true := by rfl)
    (hst : starEach (e :: es) X.env = (false, eval e X.env) :: starEach es X.env := by rfl) (hpl : (backTo pos (starEach es X.env)).any (·.1) = false := by rfl)
    (hev : eval (.Call (.Attribute o m apos) (e :: es) [] pos) X.env = (do
      let ov ← eval o X.env
      standAt apos.atName
      let (f, first) ← holding [ov] (getMethod ov m pl)
      callWith pos f first (backTo pos (starEach (e :: es) X.env)) (backToKw pos (keywordEach [] X.env))) := by rfl) : EOk G X W .s (.Call (.Attribute o m apos) (e :: es) [] pos) (dMeth Γ t fo fl) := by
  refine ⟨fun pins s σ H Q I0 ⟨w, F, ρ, rl, q⟩ => ?_⟩
  unfold dMeth at q
  refine PySem.W.methodCall_KW (pl := pl) (thn (ho.run pins s σ H (fun v H1 => ∃ F1 x, Grow F H F1 H1 ∧ Data G F1 v x ∧ fo ρ = .ok x) I0 ⟨w, F, ρ, rl, ?_⟩) fun u s1 ⟨v, H1, I1, rv, F1, x, g1, dx, hx⟩ => ?_) hev
  · cases hx : fo ρ with
    | bad => rw [hx] at q; exact q
    | ex c fs => rw [hx] at q; exact q
    | ok x =>
      intro v F1 H1 g1 d1
      obtain ⟨F1', g1', d1'⟩ := d1.stable hk g1
      exact ⟨F1', x, g1', d1', rfl⟩
  · rw [hx] at q
    cases x with
    | obj cc fs =>
      replace q : ARes G W .s F H σ Q (match t.lookup cc with
        | some i => (fl ρ).bind fun ds => Γ i (.obj cc fs :: ds)
        | none => .bad) := q
      cases ht' : t.lookup cc with
      | none => rw [ht'] at q; exact q.elim
      | some i =>
        rw [ht'] at q
        replace q : ARes G W .s F H σ Q ((fl ρ).bind fun ds => Γ i (.obj cc fs :: ds)) := q
        have h1 := List.all_eq_true.mp ht (cc, i) (mem_of_lookup ht')
        simp only [Bool.and_eq_true, beq_iff_eq, decide_eq_true_eq] at h1
        obtain ⟨hni, C, I, hC, hI, hm⟩ := c.mth cc m i h1.1
        obtain ⟨hkp, hb⟩ := c.ok i I hI
        cases dx with
        | @obj a C' ddx _ gs _ e1 e2 e3 e4 =>
          rw [hC] at e1
          cases e1
          obtain rfl : u = Value.ref a := rv
          have ck := CK.cl (X := X) cc C hC
          refine getmeth_ok I1 (g1.fh _ _ e2) ck.1 hm (lookup_none (by rw [e3]; exact h1.2)) ?_
          refine PySem.W.callWith_K (first := [.ref a]) (h₀ := X.base) I1.ok.mod.kin hm.kp (thn (ha.run pos pins s1 σ H1 (fun vs H2 => ∃ F2 ds, Grow F1 H1 F2 H2 ∧ Datas G F2 vs ds ∧ fl ρ = .ok ds) I1 ⟨w, F1, ρ, rl.grow g1, ?_⟩) fun us s2 ⟨vs, H2, I2, r, F2, ds, g2, d2, hl⟩ => ⟨I2.kIn, ?_⟩) hst hpl
          · cases hl : fl ρ with
            | bad => rw [hl] at q; exact q
            | ex c fs => rw [hl] at q; exact fun cls dd F2 H2 g2 x => q cls dd F2 H2 (g1.trans g2) x
            | ok ds => exact fun vs F2 H2 g2 d2 => ⟨F2, ds, g2, d2, rfl⟩
          · have g12 := g1.trans g2
            rw [hl] at q
            have pr := PRes.of (ARes.from (x := Γ i (.obj cc fs :: ds)) g12 q)
            have dd : Datas G F2 (.ref a :: vs) (.obj cc fs :: ds) := .cons (.obj hC (g2.f _ _ e2) e3 (e4.mono g2.f)) d2
            exact run_fnSD (us := .ref a :: us) (vs := .ref a :: vs) (ds := []) (dvs := []) (E := fun σ => WE W σ) (c.fnn i I hI hni) (c.room.mono (Nat.le_succ _)) hb .nil (passAt tk σ) I2 (.cons rfl r) (by rw [List.append_nil]; exact ⟨F2, _, g12.fh, dd, c.len i I _ hI hni pr.ne, pr⟩)
    | _ => exact q.elim
/-- o.m() -/
theorem e_meth0 {m : Str} {t : List (Nat × Nat)} {o : Expr} {fo : DE} {apos : Pos} {pl : Sem Bool} [c : Prg G X n Γ D fn] (tk : Takes X W) (ho : EOk G X W k o fo) (hk : k.st = true := by rfl)
    (ht : (t.all fun p => D.mth p.1 m == some p.2 && decide (m ∉ G.names p.1)) = true := by rfl)
    (hev : eval (.Call (.Attribute o m apos) [] [] pos) X.env = (do
      let ov ← eval o X.env
      standAt apos.atName
      let (f, first) ← holding [ov] (getMethod ov m pl)
      callWith pos f first (backTo pos (starEach [] X.env)) (backToKw pos (keywordEach [] X.env))) := by rfl) : EOk G X W .s (.Call (.Attribute o m apos) [] [] pos) (dMeth Γ t fo dNil) := by
  refine ⟨fun pins s σ H Q I0 ⟨w, F, ρ, rl, q⟩ => ?_⟩
  unfold dMeth at q
  refine PySem.W.methodCall_KW (pl := pl) (thn (ho.run pins s σ H (fun v H1 => ∃ F1 x, Grow F H F1 H1 ∧ Data G F1 v x ∧ fo ρ = .ok x) I0 ⟨w, F, ρ, rl, ?_⟩) fun u s1 ⟨v, H1, I1, rv, F1, x, g1, dx, hx⟩ => ?_) hev
  · cases hx : fo ρ with
    | bad => rw [hx] at q; exact q
    | ex c fs => rw [hx] at q; exact q
    | ok x =>
      intro v F1 H1 g1 d1
      obtain ⟨F1', g1', d1'⟩ := d1.stable hk g1
      exact ⟨F1', x, g1', d1', rfl⟩
  · rw [hx] at q
    cases x with
    | obj cc fs =>
      replace q : ARes G W .s F H σ Q (match t.lookup cc with
        | some i => Γ i [.obj cc fs]
        | none => .bad) := q
      cases ht' : t.lookup cc with
      | none => rw [ht'] at q; exact q.elim
      | some i =>
        rw [ht'] at q
        replace q : ARes G W .s F H σ Q (Γ i [.obj cc fs]) := q
        have h1 := List.all_eq_true.mp ht (cc, i) (mem_of_lookup ht')
        simp only [Bool.and_eq_true, beq_iff_eq, decide_eq_true_eq] at h1
        obtain ⟨hni, C, I, hC, hI, hm⟩ := c.mth cc m i h1.1
        obtain ⟨hkp, hb⟩ := c.ok i I hI
        cases dx with
        | @obj a C' ddx _ gs _ e1 e2 e3 e4 =>
          rw [hC] at e1
          cases e1
          obtain rfl : u = Value.ref a := rv
          have ck := CK.cl (X := X) cc C hC
          refine getmeth_ok I1 (g1.fh _ _ e2) ck.1 hm (lookup_none (by rw [e3]; exact h1.2)) ?_
          have pr := PRes.of (ARes.from (x := Γ i [.obj cc fs]) g1 q)
          have dd : Datas G F1 [.ref a] [.obj cc fs] := .cons (.obj hC e2 e3 e4) .nil
          exact PySem.W.callWith_K0 (first := [.ref a]) I1.kIn hm.kp (run_fnSD (us := [.ref a]) (vs := [.ref a]) (ds := []) (dvs := []) (E := fun σ => WE W σ) (c.fnn i I hI hni) (c.room.mono (Nat.le_succ _)) hb .nil (passAt tk σ) I1 (.cons rfl .nil) ⟨F1, _, g1.fh, dd, c.len i I _ hI hni pr.ne, pr⟩)
    | _ => exact q.elim
end
end
end PP

/-! PPBlt: built-ins by pure values; isinstance; subscripts and slices. -/
namespace PP
open PySem PySem.Spec L2

section
variable {G : Cfg} {X : Cx} [CK G X]
theorem callr_or {f : Value} {r r' : List V → Hp → VK → Prop} (h : CallR X f r) (h' : CallR X f r') : CallR X f (fun xs H Q => r xs H Q ∨ r' xs H Q) := h.or h'
theorem DatasB.one {F H : Hp} {vs : List V} {d : PV} (h : DatasB G F H vs [d]) : ∃ v, vs = [v] ∧ DataB G F H v d := by
  cases h with
  | cons h k => cases k; exact ⟨_, rfl, h⟩
theorem DatasB.two {F H : Hp} {vs : List V} {d e : PV} (h : DatasB G F H vs [d, e]) : ∃ v u, vs = [v, u] ∧ DataB G F H v d ∧ DataB G F H u e := by
  cases h with
  | cons h k =>
    obtain ⟨u, rfl, h2⟩ := k.one
    exact ⟨_, u, rfl, h, h2⟩
/-- intsP, truths of a list -/
def intsP : List PV → Option (List Int)
  | [] => some []
  | .int i :: r => (intsP r).map (i :: ·)
  | _ :: _ => none
def blsP : List PV → Option (List Bool)
  | [] => some []
  | .bl b :: r => (blsP r).map (b :: ·)
  | _ :: _ => none
theorem intsP_map (ns : List Int) : intsP (ns.map PV.int) = some ns := by
  induction ns with
  | nil => rfl
  | cons n r ih => rw [List.map_cons]; unfold intsP; rw [ih]; rfl
theorem blsP_map (bs : List Bool) : blsP (bs.map PV.bl) = some bs := by
  induction bs with
  | nil => rfl
  | cons n r ih => rw [List.map_cons]; unfold blsP; rw [ih]; rfl
theorem intsP_of {F : Hp} : ∀ {ds : List PV} {vs : List V} {ns : List Int}, Datas G F vs ds → intsP ds = some ns → vs = ns.map V.int
  | [], _, _, .nil, h => by cases h; rfl
  | d :: r, _, ns, .cons h k, e => by
    cases d with
    | int i =>
      simp only [intsP] at e
      obtain ⟨m, e1, rfl⟩ := Option.map_eq_some_iff.mp e
      rw [intsP_of k e1, DataB.int (H := F) (.inl h)]
      rfl
    | _ => cases e
theorem blsP_of {F : Hp} : ∀ {ds : List PV} {vs : List V} {ns : List Bool}, Datas G F vs ds → blsP ds = some ns → vs = ns.map V.bl
  | [], _, _, .nil, h => by cases h; rfl
  | d :: r, _, ns, .cons h k, e => by
    cases d with
    | bl i =>
      simp only [blsP] at e
      obtain ⟨m, e1, rfl⟩ := Option.map_eq_some_iff.mp e
      rw [blsP_of k e1, DataB.bl (H := F) (.inl h)]
      rfl
    | _ => cases e
/-- the items of a list (no tuple) -/
def PV.items : PV → Option (List PV)
  | .lst ds => some ds
  | .scr ds => some ds
  | _ => none
theorem DataB.items {F H : Hp} {v : V} {d : PV} {ds : List PV} (e : Same F H) (hs : d.items = some ds) (h : DataB G F H v d) : ∃ a vs, v = .ref a ∧ SqL X.K H a vs ∧ Datas G F vs ds := by
  cases d with
  | lst es => cases hs; obtain ⟨a, vs, rfl, h, k⟩ := h.lst e; exact ⟨a, vs, rfl, .of h, k⟩
  | scr es => cases hs; obtain ⟨a, vs, rfl, h, k⟩ := h.scr; exact ⟨a, vs, rfl, sqLX (sqL_same e h), k⟩
  | _ => cases hs

/-! ### one argument -/
def f1 (g : PV → R PV) : List PV → R PV
  | [d] => g d
  | _ => .bad
theorem f1_ok {g : PV → R PV} (h : ∀ d c fs, g d ≠ .ex c fs) : ∀ ds c fs, f1 g ds ≠ .ex c fs := fun ds c fs => by
  match ds with
  | [] => exact fun z => nomatch z
  | [d] => exact h d c fs
  | _ :: _ :: _ => exact fun z => nomatch z
theorem call1 {k : Kd} {f : Value} {g : PV → R PV} {r : List V → Hp → VK → Prop} (hr : CallR X f r) (hok : ∀ d c fs, g d ≠ .ex c fs)
    (h : ∀ (F H : Hp) (v : V) (x : PV) (Q : VK) (d : PV), Same F H → DataB G F H v x → g x = .ok d → (∀ v' F' H', Grow F H F' H' → DataX G k H F' H' v' d → Q v' H') → r [v] H Q) : CallOk G X k f false (f1 g) where
  ex := ⟨r, hr, fun F H vs ds Q d e dd q kk => by
    match ds with
    | [] => cases q
    | [x] =>
      obtain ⟨v, rfl, dv⟩ := DatasB.one dd
      exact h F H v x Q d e dv q kk
    | _ :: _ :: _ => cases q⟩
  ok := f1_ok hok
def oLen (d : PV) : R PV := match d with
  | .str x => if x.length ≤ cap then .ok (.int x.length) else .bad
  | d => match d.seq with
    | some ds => .ok (.int ds.length)
    | none => .bad
theorem b_len : CallOk G X .s (.builtin "len") false (f1 oLen) :=
  call1 (callr_or call_len_seq call_len_str) (fun d c fs h => by unfold oLen at h; split at h <;> split at h <;> cases h) fun F H v x Q d e dv q k => by
    have go : ∀ ds, x.seq = some ds → d = .int ds.length → (∃ p ys, [v] = [V.ref p] ∧ (SqL X.K H p ys ∨ SqT X.K H p ys) ∧ Q (.int ys.length) H) := fun ds hs hd => by
      subst hd
      obtain ⟨a, vs, rfl, h1, k1⟩ := dv.seq e hs
      exact ⟨a, vs, rfl, h1.imp sqLX sqTX, by rw [k1.length]; exact k _ F H (.refl e) (.int _)⟩
    cases x with
    | str y =>
      simp only [oLen] at q
      split at q
      · rename_i hc
        cases q
        exact .inr ⟨y, by rw [dv.str], by rw [← cap_eq]; exact hc, k _ F H (.refl e) (.int _)⟩
      · cases q
    | tup ds => cases q; exact .inl (go ds rfl rfl)
    | lst ds => cases q; exact .inl (go ds rfl rfl)
    | scr ds => cases q; exact .inl (go ds rfl rfl)
    | _ => cases q
def oInt : PV → R PV
  | .int i => .ok (.int i)
  | .bl b => .ok (.int (if b then 1 else 0))
  | _ => .bad
theorem b_int : CallOk G X .s (.type "int") false (f1 oInt) :=
  call1 call_int1 (fun d c fs h => by cases d <;> cases h) fun F H v x Q d e dv q k => by
    cases x with
    | int i => cases q; exact .inl ⟨i, by rw [dv.int], k _ F H (.refl e) (.int _)⟩
    | bl b => cases q; exact .inr ⟨b, by rw [dv.bl], k _ F H (.refl e) (.int _)⟩
    | _ => cases q
def oBool : PV → R PV
  | .int i => .ok (.bl (i != 0))
  | .bl b => .ok (.bl b)
  | _ => .bad
theorem b_bool : CallOk G X .s (.type "bool") false (f1 oBool) :=
  call1 call_bool1 (fun d c fs h => by cases d <;> cases h) fun F H v x Q d e dv q k => by
    cases x with
    | int i => cases q; exact .inl ⟨i, by rw [dv.int], k _ F H (.refl e) (.bl _)⟩
    | bl b => cases q; exact .inr ⟨b, by rw [dv.bl], k _ F H (.refl e) (.bl _)⟩
    | _ => cases q
def oAbs : PV → R PV
  | .int i => .ok (.int (if i < 0 then -i else i))
  | _ => .bad
theorem b_abs : CallOk G X .s (.builtin "abs") false (f1 oAbs) :=
  call1 call_abs (fun d c fs h => by cases d <;> cases h) fun F H v x Q d e dv q k => by
    cases x with
    | int i => cases q; exact ⟨i, by rw [dv.int], k _ F H (.refl e) (.int _)⟩
    | _ => cases q
def oTuple (d : PV) : R PV := match d.seq with
  | some ds => .ok (.tup ds)
  | none => .bad
theorem b_tuple : CallOk G X .s (.type "tuple") false (f1 oTuple) :=
  call1 call_tuple_of (fun d c fs h => by unfold oTuple at h; split at h <;> cases h) fun F H v x Q d e dv q k => by
    have new : ∀ ds, x.items = some ds → d = .tup ds → ∃ p ys, [v] = [V.ref p] ∧ ((SqL X.K H p ys ∧ ∀ l, H l = none → Q (.ref l) (upd H l (.tup ys))) ∨ (SqT X.K H p ys ∧ Q (.ref p) H)) := fun ds hs hd => by
      subst hd
      obtain ⟨a, vs, rfl, h1, k1⟩ := DataB.items (X := X) e hs dv
      refine ⟨a, vs, rfl, .inl ⟨h1, fun p np => ?_⟩⟩
      have gl := Grow.laid (o := .tup vs) e np
      exact k _ _ _ gl (.tup (.of upd_same) (k1.mono gl.f))
    cases x with
    | tup ds =>
      cases q
      obtain ⟨a, vs, rfl, h1, k1⟩ := dv.tup
      exact ⟨a, vs, rfl, .inr ⟨sqTX (sqT_same e h1), k _ F H (.refl e) (.tup h1 k1)⟩⟩
    | lst ds => cases q; exact new ds rfl rfl
    | scr ds => cases q; exact new ds rfl rfl
    | _ => cases q
def oList (d : PV) : R PV := match d.seq with
  | some ds => .ok (.lst ds)
  | none => .bad
theorem b_list : CallOk G X .n (.type "list") false (f1 oList) :=
  call1 call_list_of (fun d c fs h => by unfold oList at h; split at h <;> cases h) fun F H v x Q d e dv q k => by
    have hx : ∃ ds, x.seq = some ds ∧ d = .lst ds := by
      unfold oList at q
      split at q
      · rename_i ds h; cases q; exact ⟨ds, h, rfl⟩
      · cases q
    obtain ⟨ds, hs, rfl⟩ := hx
    obtain ⟨a, vs, rfl, h1, k1⟩ := dv.seq e hs
    exact ⟨a, vs, rfl, h1.imp sqLX sqTX, fun p np => k _ F _ (.apart e np) ⟨p, rfl, np, e.free np, vs, upd_same, k1⟩⟩
def oSum (d : PV) : R PV := match d.items with
  | some ds => match intsP ds with
    | some ns => .ok (.int ns.sum)
    | none => .bad
  | none => .bad
theorem items_ints {F H : Hp} {v : V} {d : PV} {ds : List PV} {ns : List Int} (e : Same F H) (h : DataB G F H v d) (h1 : d.items = some ds) (h2 : intsP ds = some ns) : ∃ a, v = .ref a ∧ SqL X.K H a (ns.map V.int) := by
  obtain ⟨a, vs, rfl, k1, k2⟩ := DataB.items (X := X) e h1 h
  rw [intsP_of k2 h2] at k1
  exact ⟨a, rfl, k1⟩
theorem b_sum (hc : X.calm = true) : CallOk G X .s (.builtin "sum") false (f1 oSum) :=
  call1 (cr_sum hc) (fun d c fs h => by unfold oSum at h; split at h <;> (first | (split at h <;> cases h) | cases h)) fun F H v x Q d e dv q k => by
    unfold oSum at q
    split at q
    · rename_i ds h1
      split at q
      · rename_i ns h2
        cases q
        obtain ⟨a, rfl, h3⟩ := items_ints (X := X) e dv h1 h2
        exact ⟨a, ns, rfl, h3, k _ F H (.refl e) (.int _)⟩
      · cases q
    · cases q
def maxI : Int → List Int → Int := List.foldl fun m n => if n > m then n else m
def minI : Int → List Int → Int := List.foldl fun m n => if n < m then n else m
theorem maxI_spec : ∀ (r : List Int) (n : Int), maxI n r ∈ n :: r ∧ ∀ y ∈ n :: r, y ≤ maxI n r
  | [], n => ⟨List.mem_cons_self, fun y h => by simp at h; subst h; exact Int.le_refl _⟩
  | m :: r, n => by
    obtain ⟨h1, h2⟩ := maxI_spec r (if m > n then m else n)
    have e : maxI n (m :: r) = maxI (if m > n then m else n) r := rfl
    rw [e]
    refine ⟨?_, fun y hy => ?_⟩
    · rcases List.mem_cons.mp h1 with h | h
      · rw [h]
        split
        · exact List.mem_cons_of_mem _ List.mem_cons_self
        · exact List.mem_cons_self
      · exact List.mem_cons_of_mem _ (List.mem_cons_of_mem _ h)
    · have h3 := h2 _ List.mem_cons_self
      rcases List.mem_cons.mp hy with rfl | hy
      · split at h3 <;> rename_i hc <;> simp only [hc, if_true, if_false] <;> omega
      · rcases List.mem_cons.mp hy with rfl | hy
        · split at h3 <;> rename_i hc <;> simp only [hc, if_true, if_false] <;> omega
        · exact h2 y (List.mem_cons_of_mem _ hy)
theorem minI_spec : ∀ (r : List Int) (n : Int), minI n r ∈ n :: r ∧ ∀ y ∈ n :: r, minI n r ≤ y
  | [], n => ⟨List.mem_cons_self, fun y h => by simp at h; subst h; exact Int.le_refl _⟩
  | m :: r, n => by
    obtain ⟨h1, h2⟩ := minI_spec r (if m < n then m else n)
    have e : minI n (m :: r) = minI (if m < n then m else n) r := rfl
    rw [e]
    refine ⟨?_, fun y hy => ?_⟩
    · rcases List.mem_cons.mp h1 with h | h
      · rw [h]
        split
        · exact List.mem_cons_of_mem _ List.mem_cons_self
        · exact List.mem_cons_self
      · exact List.mem_cons_of_mem _ (List.mem_cons_of_mem _ h)
    · have h3 := h2 _ List.mem_cons_self
      rcases List.mem_cons.mp hy with rfl | hy
      · split at h3 <;> rename_i hc <;> simp only [hc, if_true, if_false] <;> omega
      · rcases List.mem_cons.mp hy with rfl | hy
        · split at h3 <;> rename_i hc <;> simp only [hc, if_true, if_false] <;> omega
        · exact h2 y (List.mem_cons_of_mem _ hy)
def oMax (d : PV) : R PV := match d.items with
  | some ds => match intsP ds with
    | some (n :: r) => .ok (.int (maxI n r))
    | _ => .bad
  | none => .bad
def oMin (d : PV) : R PV := match d.items with
  | some ds => match intsP ds with
    | some (n :: r) => .ok (.int (minI n r))
    | _ => .bad
  | none => .bad
theorem b_max (hc : X.calm = true) : CallOk G X .s (.builtin "max") false (f1 oMax) :=
  call1 (cr_max hc) (fun d c fs h => by unfold oMax at h; split at h <;> (first | (split at h <;> cases h) | cases h)) fun F H v x Q d e dv q k => by
    unfold oMax at q
    split at q
    · rename_i ds h1
      split at q
      · rename_i n r h2
        cases q
        obtain ⟨a, rfl, h3⟩ := items_ints (X := X) e dv h1 h2
        refine ⟨a, n :: r, rfl, h3, by simp, fun m hm hle => ?_⟩
        obtain ⟨s1, s2⟩ := maxI_spec r n
        have em : m = maxI n r := Int.le_antisymm (s2 m hm) (hle _ s1)
        rw [em]
        exact k _ F H (.refl e) (.int _)
      · cases q
    · cases q
theorem b_min (hc : X.calm = true) : CallOk G X .s (.builtin "min") false (f1 oMin) :=
  call1 (cr_min hc) (fun d c fs h => by unfold oMin at h; split at h <;> (first | (split at h <;> cases h) | cases h)) fun F H v x Q d e dv q k => by
    unfold oMin at q
    split at q
    · rename_i ds h1
      split at q
      · rename_i n r h2
        cases q
        obtain ⟨a, rfl, h3⟩ := items_ints (X := X) e dv h1 h2
        refine ⟨a, n :: r, rfl, h3, by simp, fun m hm hle => ?_⟩
        obtain ⟨s1, s2⟩ := minI_spec r n
        have em : m = minI n r := Int.le_antisymm (hle _ s1) (s2 m hm)
        rw [em]
        exact k _ F H (.refl e) (.int _)
      · cases q
    · cases q
def oAll (d : PV) : R PV := match d.items with
  | some ds => match blsP ds with
    | some bs => .ok (.bl (bs.all id))
    | none => .bad
  | none => .bad
def oAny (d : PV) : R PV := match d.items with
  | some ds => match blsP ds with
    | some bs => .ok (.bl (bs.any id))
    | none => .bad
  | none => .bad
theorem items_bls {F H : Hp} {v : V} {d : PV} {ds : List PV} {ns : List Bool} (e : Same F H) (h : DataB G F H v d) (h1 : d.items = some ds) (h2 : blsP ds = some ns) : ∃ a, v = .ref a ∧ SqL X.K H a (ns.map V.bl) := by
  obtain ⟨a, vs, rfl, k1, k2⟩ := DataB.items (X := X) e h1 h
  rw [blsP_of k2 h2] at k1
  exact ⟨a, rfl, k1⟩
theorem b_all (hc : X.calm = true) : CallOk G X .s (.builtin "all") false (f1 oAll) :=
  call1 (cr_all hc) (fun d c fs h => by unfold oAll at h; split at h <;> (first | (split at h <;> cases h) | cases h)) fun F H v x Q d e dv q k => by
    unfold oAll at q
    split at q
    · rename_i ds h1
      split at q
      · rename_i ns h2
        cases q
        obtain ⟨a, rfl, h3⟩ := items_bls (X := X) e dv h1 h2
        exact ⟨a, ns, rfl, h3, k _ F H (.refl e) (.bl _)⟩
      · cases q
    · cases q
theorem b_any (hc : X.calm = true) : CallOk G X .s (.builtin "any") false (f1 oAny) :=
  call1 (cr_any hc) (fun d c fs h => by unfold oAny at h; split at h <;> (first | (split at h <;> cases h) | cases h)) fun F H v x Q d e dv q k => by
    unfold oAny at q
    split at q
    · rename_i ds h1
      split at q
      · rename_i ns h2
        cases q
        obtain ⟨a, rfl, h3⟩ := items_bls (X := X) e dv h1 h2
        exact ⟨a, ns, rfl, h3, k _ F H (.refl e) (.bl _)⟩
      · cases q
    · cases q

/-! ### two intsP -/
def f2 (g : Int → Int → Int) : List PV → R PV
  | [.int i, .int j] => .ok (.int (g i j))
  | _ => .bad
theorem call2 {f : Value} {g : Int → Int → Int} (hr : CallR X f (fun xs H Q => ∃ i j, xs = [.int i, .int j] ∧ Q (.int (g i j)) H)) : CallOk G X .s f false (f2 g) where
  ex := ⟨_, hr, fun F H vs ds Q d e dd q kk => by
    unfold f2 at q
    split at q
    · cases q
      obtain ⟨v, u, rfl, d1, d2⟩ := DatasB.two dd
      exact ⟨_, _, by rw [d1.int, d2.int], kk _ F H (.refl e) (.int _)⟩
    · cases q⟩
  ok := fun ds c fs h => by
    unfold f2 at h
    split at h <;> cases h
def max2 (i j : Int) : Int := if j > i then j else i
def min2 (i j : Int) : Int := if j < i then j else i
theorem b_max2 (hc : X.calm = true) : CallOk G X .s (.builtin "max") false (f2 max2) := call2 (call_max2 hc)
theorem b_min2 (hc : X.calm = true) : CallOk G X .s (.builtin "min") false (f2 min2) := call2 (call_min2 hc)
end
end PP

/-! PPIsi: isinstance; subscripts and slices; sorted of ints. -/
namespace PP
open PySem PySem.Spec L2

/-- the types that isinstance is asked of -/
inductive Ty where
  | non | bl | int | str | tup | lst | dct | cls (c : Nat)
  deriving DecidableEq
def Ty.name : Ty → String
  | .non => "NoneType" | .bl => "bool" | .int => "int" | .str => "str" | .tup => "tuple" | .lst => "list" | .dct => "dict" | .cls _ => ""
def Ty.val (G : Cfg) : Ty → Option Value
  | .cls c => (G.cls c).map Value.ref
  | t => some (.type t.name)
def PV.ty : PV → Option Ty
  | .non => some .non | .bl _ => some .bl | .int _ => some .int | .str _ => some .str
  | .tup _ => some .tup | .lst _ => some .lst | .scr _ => none | .obj c _ => some (.cls c) | .dct _ => some .dct | .pset _ => none
/-- one class: among built-in types as Python has it; where a class is, as told -/
def isiOne (tb : Ty → Ty → Option Bool) (t u : Ty) : Option Bool := match t, u with
  | .cls c, u => tb (.cls c) u
  | t, .cls c => tb t (.cls c)
  | t, u => some (decide (t = u) || (decide (t = .bl) && decide (u = .int)))
def isiAny (tb : Ty → Ty → Option Bool) (t : Ty) : List Ty → Option Bool
  | [] => some false
  | u :: r => match isiOne tb t u with
    | some true => some true
    | some false => isiAny tb t r
    | none => none
/-- the program's facts about its classes -/
class Isi (G : Cfg) (X : Cx) (tb : outParam (Ty → Ty → Option Bool)) : Prop where
  ins : ∀ c C, G.cls c = some C → PySem.W.findIn X.K (.ref C) "__class__" = some (some (.builtin "object.__class__")) ∧ PySem.W.specialIn X.K (.builtin "object.__class__") "__get__" = some (some (.builtin "getset_descriptor.__get__")) ∧
    PySem.W.takesIn X.K (.builtin "object.__class__") = some true ∧ PySem.W.mroIn X.K C (.type "object") = some true
  is : ∀ t u tv uv b, tb t u = some b → t.val G = some tv → u.val G = some uv → PySem.W.kitOne X.K tv uv = some b
  /-- for == and != -/
  nf : ∀ (c : Nat) (C : Addr) (t : Ty) (tv : Value), G.cls c = some C → t.val G = some tv → PySem.W.notFirst X.K C tv = true
  ne : ∀ (c : Nat) (C : Addr), G.cls c = some C → PySem.W.findIn X.K (.ref C) "__ne__" = some (some (.builtin "object.__ne__"))
section
variable {G : Cfg} {X : Cx} {tb : Ty → Ty → Option Bool}
instance [c : Isi G X tb] {s : Shared} {H : Hp} {sc : Scope} {env : Env} {fp : List Addr} : Isi G (X.blk s H sc env fp) tb := ⟨c.ins, c.is, c.nf, c.ne⟩
instance [c : Isi G X tb] {E : Value → Shared → Prop} : Isi G (X.wish E) tb := ⟨c.ins, c.is, c.nf, c.ne⟩
instance [c : Isi G X tb] {pn : List (Addr × Obj)} {xe : Value → Shared → Prop} : Isi G (X.tr pn xe) tb := ⟨c.ins, c.is, c.nf, c.ne⟩
instance [c : Isi G X tb] {a : Addr} {pn : List (Addr × Obj)} : Isi G (X.suite a pn) tb := ⟨c.ins, c.is, c.nf, c.ne⟩
end
theorem kitB_tys : ∀ t ∈ [Ty.non, .bl, .int, .str, .tup, .lst, .dct], ∀ u ∈ [Ty.non, .bl, .int, .str, .tup, .lst, .dct], kitB t.name u.name = some (decide (t = u) || (decide (t = .bl) && decide (u = .int))) := by decide +kernel
section
variable {G : Cfg} {X : Cx} [CK G X] {tb : Ty → Ty → Option Bool} [ck : Isi G X tb]
include ck in
theorem isiOne_of {t u : Ty} {tv uv : Value} {b : Bool} (h : isiOne tb t u = some b) (ht : t.val G = some tv) (hu : u.val G = some uv) : PySem.W.kitOne X.K tv uv = some b := by
  have blt : ∀ t u : Ty, t ∈ [Ty.non, .bl, .int, .str, .tup, .lst, .dct] → u ∈ [Ty.non, .bl, .int, .str, .tup, .lst, .dct] → t.val G = some tv → u.val G = some uv → t.val G = some (.type t.name) → u.val G = some (.type u.name) → (decide (t = u) || (decide (t = .bl) && decide (u = .int))) = b → PySem.W.kitOne X.K tv uv = some b := by
    intro t u h1 h2 h3 h4 h5 h6 h7
    rw [h5] at h3; rw [h6] at h4
    cases h3; cases h4
    rw [← h7]
    exact kit_ty (kitB_tys t h1 u h2)
  cases t with
  | cls c => exact ck.is (.cls c) u tv uv b h ht hu
  | _ =>
    cases u with
    | cls c => exact ck.is _ (.cls c) tv uv b h ht hu
    | _ => exact blt _ _ (by decide) (by decide) ht hu rfl rfl (Option.some.inj h)
include ck in
theorem isiAny_of {t : Ty} {tv : Value} (ht : t.val G = some tv) : ∀ {us : List Ty} {uvs : List Value} {b : Bool}, isiAny tb t us = some b → us.map (Ty.val G) = uvs.map some → PySem.W.kitAny X.K tv uvs = some b
  | [], [], _, h, _ => h
  | [], _ :: _, _, _, h => by cases h
  | _ :: _, [], _, _, h => by cases h
  | u :: r, uv :: rv, b, h, hm => by
    rw [List.map_cons, List.map_cons] at hm
    obtain ⟨h1, h2⟩ := List.cons.inj hm
    unfold isiAny at h
    cases ho : isiOne tb t u with
    | none => rw [ho] at h; cases h
    | some c =>
      rw [ho] at h
      refine kitAny_cons (isiOne_of ho ht h1) (fun e => ?_) (fun e => ?_)
      · subst e; exact isiAny_of ht h h2
      · subst e; cases h; rfl
include ck in
theorem tyX_of {F H : Hp} {v : V} {x : PV} {t : Ty} (e : Same F H) (d : DataB G F H v x) (h : x.ty = some t) : ∃ tv, t.val G = some tv ∧ TyX X.K H v tv := by
  cases x with
  | non => cases h; rw [d.non]; exact ⟨_, rfl, .base .non⟩
  | bl b => cases h; rw [d.bl]; exact ⟨_, rfl, .base (.bl _)⟩
  | int i => cases h; rw [d.int]; exact ⟨_, rfl, .base (.int _)⟩
  | str y => cases h; rw [d.str]; exact ⟨_, rfl, .base (.str _)⟩
  | tup ds =>
    cases h
    obtain ⟨a, vs, rfl, h1, k1⟩ := d.tup
    have h2 : SqT X.K H a vs := sqTX (sqT_same e h1)
    rcases h2 with (h2 | ⟨o, h2⟩) | ⟨o, its, n, hk, hc, _⟩
    · exact ⟨_, rfl, .base (.tup h2)⟩
    · exact ⟨_, rfl, .fTuple h2⟩
    · exact ⟨_, rfl, .kTuple hk hc⟩
  | lst ds =>
    cases h
    obtain ⟨a, vs, rfl, h1, k1⟩ := d.lst e
    exact ⟨_, rfl, .base (.lst h1)⟩
  | obj c fs =>
    cases h
    rcases d with d | ⟨_, _, d⟩
    · cases d with
      | @obj a C dx _ gs _ e1 e2 e3 e4 =>
        obtain ⟨q1, q2, q3, q4⟩ := ck.ins c C e1
        exact ⟨.ref C, by show (G.cls c).map Value.ref = _; rw [e1]; rfl, .base (.ins (e _ _ e2) (CK.cl (X := X) c C e1).1 q1 q2 q3 q4)⟩
    · exact d.elim
  | dct kvs =>
    cases h
    rcases d with d | ⟨_, _, d⟩
    · cases d with
      | dct hk =>
        obtain ⟨es, n, kd, _⟩ := hk
        exact ⟨_, rfl, .kDict (CK.k (G := G) (X := X) ▸ kd.at_) rfl⟩
    · exact d.elim
  | _ => cases h
/-- a class, written -/
structure TyOk (G : Cfg) (X : Cx) (e : Expr) (u : Ty) : Prop where
  ex : ∃ v uv, PE X e (tC v) ∧ ClsV v uv ∧ u.val G = some uv
variable {W : WX} {k : Kd} {a e : Expr} {fa : DE} {pos : Pos} {n : Nat} {Γ : Tab} {D : PrgD} {fn : Nat → Option FnI}
omit [CK G X] ck in
theorem y_blt {x : Str} {u : Ty} {pos : Pos} [c : Prg G X n Γ D fn] (hx : x ∈ bltNames) (hg : Gl X x) (hv : bootBuiltins x = some (.type u.name)) (hu : u.val G = some (.type u.name)) (hn : x ≠ "__name__" := by decide) (hd : (x == ("__debug__" : Str)) = false := by decide) : TyOk G X (.Name x pos) u :=
  ⟨.ty u.name, .type u.name, pe_bltn hg (c.blt x hx) hv rfl hn hd, .ty _, hu⟩
omit [CK G X] ck in
theorem y_cls {x : Str} {cc : Nat} {pos : Pos} [c : Prg G X n Γ D fn] (hx : D.gcls x = some cc) (hg : Gl X x) (hd : (x == ("__debug__" : Str)) = false := by decide) : TyOk G X (.Name x pos) (.cls cc) := by
  obtain ⟨C, hC, hm⟩ := c.gcls x cc hx
  exact ⟨.ref C, .ref C, pe_glob hg hm rfl hd, .own C, by show (G.cls cc).map Value.ref = _; rw [hC]; rfl⟩
def oIsi (tb : Ty → Ty → Option Bool) (us : List Ty) (x : PV) : R PV := match x.ty with
  | some t => match isiAny tb t us with
    | some b => .ok (.bl b)
    | none => .bad
  | none => .bad
omit ck [CK G X] in
theorem oIsi_ok {us : List Ty} {x : PV} {c : Nat} {fs : List PV} : oIsi tb us x ≠ .ex c fs := fun h => by
  unfold oIsi at h
  split at h
  · split at h <;> cases h
  · cases h
theorem isi_single {t u : Ty} : isiAny tb t [u] = isiOne tb t u := by
  unfold isiAny
  cases isiOne tb t u with
  | none => rfl
  | some b => cases b <;> rfl
theorem e_isi {u : Ty} {p : Pos} [c : Prg G X n Γ D fn] (ha : EOk G X W k a fa) (hu : TyOk G X e u) (hg : Gl X "isinstance") (hs : starEach [a, e] X.env = (false, eval a X.env) :: starEach [e] X.env := by rfl) (hs2 : starEach [e] X.env = (false, eval e X.env) :: starEach [] X.env := by rfl)
    (hpl : (backTo pos (starEach [e] X.env)).any (·.1) = false := by rfl) : EOk G X W .s (.Call (.Name "isinstance" p) [a, e] [] pos) (dUn (oIsi tb [u]) fa) := by
  obtain ⟨v, uv, h1, h2, h3⟩ := hu.ex
  refine (pe_callB (x := "isinstance") call_isi hg (c.blt _ (by decide)) (by decide +kernel) (pa_cons ha (pa_cons h1 pa_nil hs2) hs) (by decide) (by decide) hs hpl).wk fun σ H Q ⟨w, F, ρ, rl, q⟩ => ?_
  refine un_reads rl q fun vv x F2 H2 g d q' => ?_
  cases hty : x.ty with
  | none => unfold oIsi at q'; rw [hty] at q'; exact q'.elim
  | some t =>
    obtain ⟨tv, ht, htx⟩ := tyX_of (X := X) g.fh d.toB hty
    unfold oIsi at q'
    rw [hty] at q'
    simp only [isi_single] at q'
    cases ho : isiOne tb t u with
    | none => rw [ho] at q'; exact q'.elim
    | some b =>
      rw [ho] at q'
      exact ⟨vv, v, tv, uv, b, rfl, h2, htx, isiOne_of ho ht h3, q' _ F2 H2 (.refl g.fh) (.bl b)⟩
/-- classes, written in a tuple -/
inductive TysOk (G : Cfg) (X : Cx) : List Expr → List Ty → Prop
  | nil : TysOk G X [] []
  | cons {e : Expr} {es : List Expr} {u : Ty} {us : List Ty} : TyOk G X e u → TysOk G X es us → starEach (e :: es) X.env = (false, eval e X.env) :: starEach es X.env → TysOk G X (e :: es) (u :: us)
def tCs (vs : List V) : TA := fun _ H Q => Q vs H
omit ck [CK G X] in
theorem TysOk.run : ∀ {es : List Expr} {us : List Ty}, TysOk G X es us → ∃ vs uvs, PA X es (tCs vs) ∧ Paired ClsV vs uvs ∧ us.map (Ty.val G) = uvs.map some ∧ vs.length = us.length
  | _, _, .nil => ⟨[], [], pa_nil, .nil, rfl, rfl⟩
  | _, _, .cons h k hs => by
    obtain ⟨v, uv, h1, h2, h3⟩ := h.ex
    obtain ⟨vs, uvs, k1, k2, k3, k4⟩ := TysOk.run k
    exact ⟨v :: vs, uv :: uvs, (pa_cons h1 k1 hs).wk fun σ H Q q => q, .cons h2 k2, by rw [List.map_cons, List.map_cons, h3, k3], by simp [k4]⟩
theorem e_isiT {us : List Ty} {es : List Expr} {x1} {p tp : Pos} [c : Prg G X n Γ D fn] (ha : EOk G X W k a fa) (hu : TysOk G X es us) (hg : Gl X "isinstance") (hl : us.length ≤ 1000 := by decide) (hs : starEach [a, .Tuple es x1 tp] X.env = (false, eval a X.env) :: starEach [.Tuple es x1 tp] X.env := by rfl)
    (hs2 : starEach [.Tuple es x1 tp] X.env = (false, eval (.Tuple es x1 tp) X.env) :: starEach [] X.env := by rfl)
    (hpl : (backTo pos (starEach [.Tuple es x1 tp] X.env)).any (·.1) = false := by rfl) : EOk G X W .s (.Call (.Name "isinstance" p) [a, .Tuple es x1 tp] [] pos) (dUn (oIsi tb us) fa) := by
  obtain ⟨vs, uvs, h1, h2, h3, h4⟩ := hu.run
  refine (pe_callB (x := "isinstance") call_isiT hg (c.blt _ (by decide)) (by decide +kernel) (pa_cons ha (pa_cons (pe_tup h1) pa_nil hs2) hs) (by decide) (by decide) hs hpl).wk fun σ H Q ⟨w, F, ρ, rl, q⟩ => ?_
  refine un_reads rl q fun vv x F2 H2 g d q' => ?_
  cases hty : x.ty with
  | none => unfold oIsi at q'; rw [hty] at q'; exact q'.elim
  | some t =>
    unfold oIsi at q'
    rw [hty] at q'
    simp only at q'
    cases ho : isiAny tb t us with
    | none => rw [ho] at q'; exact q'.elim
    | some b =>
      rw [ho] at q'
      refine ⟨by rw [h4]; exact Nat.le_trans hl (by decide), fun pp np => ?_⟩
      have g2 : Grow F2 H2 F2 (upd H2 pp (.tup vs)) := .apart g.fh np
      obtain ⟨tv, ht, htx⟩ := tyX_of (X := X) g2.fh (d.toB.grow g2) hty
      exact ⟨vv, pp, vs, tv, uvs, b, rfl, upd_same, h2, htx, isiAny_of ht ho h3, q' _ F2 _ g2 (.bl b)⟩

/-! ### subscripts -/
variable {b : Expr} {fb : DE} {k1 k2 : Kd}
def oIx (x y : PV) : R PV := match y with
  | .int i => match x with
    | .str z => if z.length ≤ cap then .ofOpt ((atI z.cps.toList i).map fun c => .str ⟨#[c]⟩) else .bad
    | x => match x.seq with
      | some ds => .ofOpt (atI ds i)
      | none => .bad
  | _ => .bad
omit ck [CK G X] in
theorem atI_datas {F : Hp} {vs : List V} {ds : List PV} {i : Int} {d : PV} (k : Datas G F vs ds) (h : atI ds i = some d) : ∃ v, atI vs i = some v ∧ Data G F v d := by
  unfold atI at h ⊢
  rw [k.length]
  cases hx : ixN ds.length i with
  | none => rw [hx] at h; cases h
  | some j =>
    rw [hx] at h
    obtain ⟨v, h1, h2⟩ := k.get' (show ds[j]? = some d from h)
    exact ⟨v, h1, h2⟩
omit ck in
theorem e_ix (ha : EOk G X W k1 a fa) (hb : EOk G X W k2 b fb) (hs : PlainIx b := by exact fun _ _ => rfl) : EOk G X W .s (.Subscript a b pos) (dBin oIx fa fb) :=
  (pe_ix ix_seq ha hb hs).wk fun σ H Q ⟨w, F, ρ, rl, q⟩ => bin_reads rl q fun v u x y F2 H2 g d1 d2 q' => by
    cases y with
    | int i =>
      have sq : ∀ ds, x.seq = some ds → ARes G W .s F2 H2 σ Q (.ofOpt (atI ds i)) → rIx X.K v u H2 Q := fun ds hs q' => by
        cases hd : atI ds i with
        | none => rw [hd] at q'; exact q'.elim
        | some d =>
          rw [hd] at q'
          obtain ⟨p, vs, rfl, h1, k1⟩ := d1.seq g.fh hs
          obtain ⟨v', h2, h3⟩ := atI_datas k1 hd
          have fin := q' v' F2 H2 (.refl g.fh) h3
          rcases h1 with h1 | h1
          · exact .inl ⟨p, vs, i, v', rfl, d2.int, sqLX h1, h2, fin⟩
          · exact .inr (.inl ⟨p, vs, i, v', rfl, d2.int, sqTX h1, h2, fin⟩)
      cases x with
      | str z =>
        simp only [oIx] at q'
        by_cases hc : z.length ≤ cap
        · rw [if_pos hc] at q'
          cases hd : atI z.cps.toList i with
          | none => rw [hd] at q'; exact q'.elim
          | some c =>
            rw [hd] at q'
            exact .inr (.inr ⟨z, i, c, d1.str, d2.int, by rw [← cap_eq]; exact hc, hd, q' _ F2 H2 (.refl g.fh) (.str _)⟩)
        · rw [if_neg hc] at q'; exact q'.elim
      | tup ds => exact sq ds rfl q'
      | lst ds => exact sq ds rfl q'
      | scr ds => exact sq ds rfl q'
      | _ => exact q'.elim
    | _ => exact q'.elim

/-! ### slices -/
/-- a part of a slice: left out, or an int -/
def DP := PEnv → R (Option Int)
def dNo : DP := fun _ => .ok none
def dPt (fa : DE) : DP := fun ρ => (fa ρ).bind fun x => match x with
  | .int i => .ok (some i)
  | _ => .bad
def ORes (G : Cfg) (W : WX) (F H : Hp) (σ : L2.St) (Q : Option Int → Hp → Prop) : R (Option Int) → Prop
  | .ok o => ∀ F' H', Grow F H F' H' → Q o H'
  | .ex c fs => ∀ cls dd F' H', Grow F H F' H' → ExD G F' H' c fs cls dd → W cls dd σ H'
  | .bad => False
def tO (G : Cfg) (W : WX) (f : DP) : TO := fun σ H Q => ∃ w F ρ, Rel G w F H ρ σ ∧ ORes G W F H σ Q (f ρ)
abbrev POk (G : Cfg) (X : Cx) (W : WX) (e : Option Expr) (f : DP) : Prop := PO X e (tO G W f)
omit ck [CK G X] in
theorem _root_.L2.PO.wk {e : Option Expr} {t t' : TO} (h : PO X e t') (i : ∀ σ H Q, t σ H Q → t' σ H Q) : PO X e t := ⟨fun pins s σ H Q I q => h.run pins s σ H Q I (i σ H Q q)⟩
omit ck [CK G X] in
theorem p_no : POk G X W none dNo := po_none.wk fun σ H Q ⟨w, F, ρ, r, q⟩ => q F H (.refl r.base.fh)
omit ck [CK G X] in
theorem p_at (ha : EOk G X W k a fa) : POk G X W (some a) (dPt fa) := (po_some ha).wk fun σ H Q ⟨w, F, ρ, r, q⟩ => ⟨w, F, ρ, r, by
  unfold dPt at q
  cases hx : fa ρ with
  | bad => rw [hx] at q; exact q
  | ex c fs => rw [hx] at q; exact q
  | ok x =>
    rw [hx] at q
    intro v F1 H1 g1 d1
    cases x with
    | int i => exact ⟨i, d1.toB.int, q F1 H1 g1⟩
    | _ => exact q.elim⟩
def cutP (ds : List PV) (lo hi : Option Int) : List PV := (ds.drop (HT.sIx ds.length 0 lo)).take (HT.sIx ds.length ds.length hi - HT.sIx ds.length 0 lo)
omit ck [CK G X] in
theorem cut_datas {F : Hp} {vs : List V} {ds : List PV} (k : Datas G F vs ds) (lo hi : Option Int) : Datas G F (cutV vs lo hi) (cutP ds lo hi) := by
  unfold cutV cutP
  rw [k.length]
  exact (k.drop _).take _
def dSl (g : PV → Option Int → Option Int → R PV) (fa : DE) (lo hi : DP) : DE := fun ρ => (fa ρ).bind fun x => (lo ρ).bind fun l => (hi ρ).bind fun u => g x l u
def oSl (x : PV) (lo hi : Option Int) : R PV := match x with
  | .tup ds => .ok (.tup (cutP ds lo hi))
  | .lst ds => .ok (.lst (cutP ds lo hi))
  | .scr ds => .ok (.lst (cutP ds lo hi))
  | .str z => if z.length ≤ cap then .ok (.str (cutS z lo hi)) else .bad
  | _ => .bad
def oSlN (x : PV) (lo hi : Option Int) : R PV := match x with
  | .lst ds => .ok (.lst (cutP ds lo hi))
  | .scr ds => .ok (.lst (cutP ds lo hi))
  | _ => .bad
omit ck [CK G X] in
theorem sl_reads {r : V → Option Int → Option Int → Hp → VK → Prop} {g : PV → Option Int → Option Int → R PV} {lo hi : DP} {F H : Hp} {w : Wd} {ρ : PEnv} {σ : L2.St} {Q : VK} (rl : Rel G w F H ρ σ) (q : ARes G W k F H σ Q (dSl g fa lo hi ρ))
    (step : ∀ v x l u F2 H2, Grow F H F2 H2 → DataB G F2 H2 v x → ARes G W k F2 H2 σ Q (g x l u) → r v l u H2 Q) : tSl r (tE G W k1 fa) (tO G W lo) (tO G W hi) σ H Q := by
  refine ⟨w, F, ρ, rl, ?_⟩
  unfold dSl at q
  cases ha : fa ρ with
  | bad => rw [ha] at q; exact q
  | ex c fs => rw [ha] at q; exact q
  | ok x =>
    rw [ha] at q
    intro v F1 H1 g1 d1
    refine ⟨w, F1, ρ, rl.grow g1, ?_⟩
    cases hl : lo ρ with
    | bad => rw [hl] at q; exact q
    | ex c fs => rw [hl] at q; exact fun cls dd F2 H2 g2 x => q cls dd F2 H2 (g1.trans g2) x
    | ok l =>
      rw [hl] at q
      intro F2 H2 g2
      refine ⟨w, F2, ρ, rl.grow (g1.trans g2), ?_⟩
      cases hh : hi ρ with
      | bad => rw [hh] at q; exact q
      | ex c fs => rw [hh] at q; exact fun cls dd F3 H3 g3 x => q cls dd F3 H3 ((g1.trans g2).trans g3) x
      | ok u =>
        rw [hh] at q
        intro F3 H3 g3
        have gg := (g1.trans g2).trans g3
        exact step v x l u F3 H3 gg ((d1.toB.grow g2).grow g3) (ARes.from (x := g x l u) gg q)
omit ck in
theorem e_sl {lo hi : Option Expr} {fl fh : DP} {p2 : Pos} (ha : EOk G X W k1 a fa) (hl : POk G X W lo fl) (hh : POk G X W hi fh) : EOk G X W .s (.Subscript a (.Slice lo hi none p2) pos) (dSl oSl fa fl fh) :=
  (pe_slice (SlR.or sl_list (SlR.or sl_tupA sl_str)) ha hl hh).wk fun σ H Q ⟨w, F, ρ, rl, q⟩ => sl_reads rl q fun v x l u F2 H2 g d q' => by
    cases x with
    | lst ds =>
      obtain ⟨p, vs, rfl, h1, k1⟩ := d.lst g.fh
      refine .inl ⟨p, vs, rfl, .of h1, fun pp np => ?_⟩
      have gl := Grow.laid (o := .lst (cutV vs l u)) g.fh np
      exact q' _ _ _ gl (.lst upd_same ((cut_datas k1 l u).mono gl.f))
    | scr ds =>
      obtain ⟨p, vs, rfl, h1, k1⟩ := d.scr
      refine .inl ⟨p, vs, rfl, sqLX (sqL_same g.fh h1), fun pp np => ?_⟩
      have gl := Grow.laid (o := .lst (cutV vs l u)) g.fh np
      exact q' _ _ _ gl (.lst upd_same ((cut_datas k1 l u).mono gl.f))
    | tup ds =>
      obtain ⟨p, vs, rfl, h1, k1⟩ := d.tup
      refine .inr (.inl ⟨p, vs, rfl, sqTX (sqT_same g.fh h1), fun ⟨z1, z2⟩ => ?_, fun z pp np => ?_⟩)
      · have e : cutP ds l u = ds := by
          unfold cutP
          rw [← k1.length, z1, z2, List.drop_zero, k1.length]
          exact List.take_length
        replace q' : ARes G W .s F2 H2 σ Q (.ok (.tup (cutP ds l u))) := q'
        rw [e] at q'
        exact q' _ F2 H2 (.refl g.fh) (.tup h1 k1)
      · have gl := Grow.laid (o := .tup (cutV vs l u)) g.fh np
        exact q' _ _ _ gl (.tup (.of upd_same) ((cut_datas k1 l u).mono gl.f))
    | str z =>
      simp only [oSl] at q'
      by_cases hc : z.length ≤ cap
      · rw [if_pos hc] at q'
        exact .inr (.inr ⟨z, d.str, by rw [← cap_eq]; exact hc, q' _ F2 H2 (.refl g.fh) (.str _)⟩)
      · rw [if_neg hc] at q'; exact q'.elim
    | _ => exact q'.elim
omit ck in
theorem e_slN {lo hi : Option Expr} {fl fh : DP} {p2 : Pos} (ha : EOk G X W k1 a fa) (hl : POk G X W lo fl) (hh : POk G X W hi fh) : EOk G X W .n (.Subscript a (.Slice lo hi none p2) pos) (dSl oSlN fa fl fh) :=
  (pe_slice sl_list ha hl hh).wk fun σ H Q ⟨w, F, ρ, rl, q⟩ => sl_reads rl q fun v x l u F2 H2 g d q' => by
    have go : ∀ ds, x.items = some ds → ARes G W .n F2 H2 σ Q (.ok (.lst (cutP ds l u))) → rSlL X.K v l u H2 Q := fun ds hs q' => by
      obtain ⟨p, vs, rfl, h1, k1⟩ := DataB.items (X := X) g.fh hs d
      refine ⟨p, vs, rfl, h1, fun pp np => ?_⟩
      exact q' _ F2 _ (.apart g.fh np) ⟨pp, rfl, np, g.fh.free np, _, upd_same, cut_datas k1 l u⟩
    cases x with
    | lst ds => exact go ds rfl q'
    | scr ds => exact go ds rfl q'
    | _ => exact q'.elim

/-! ### sorted of ints -/
def oSorted (d : PV) : R PV := match d.items with
  | some ds => match intsP ds with
    | some ns => .ok (.lst ((ns.mergeSort (fun a b => decide (a ≤ b))).map PV.int))
    | none => .bad
  | none => .bad
theorem sort_unique {xs ys : List Int} (p : xs.Perm ys) (h1 : xs.Pairwise (· ≤ ·)) (h2 : ys.Pairwise (· ≤ ·)) : xs = ys := by
  induction xs generalizing ys with
  | nil => exact (List.nil_perm.mp p).symm ▸ rfl
  | cons x xs ih =>
    cases ys with
    | nil => exact absurd p (by simp)
    | cons y ys =>
      have hx := List.pairwise_cons.mp h1
      have hy := List.pairwise_cons.mp h2
      have e : x = y := by
        have m1 : x ∈ y :: ys := p.mem_iff.mp List.mem_cons_self
        have m2 : y ∈ x :: xs := p.mem_iff.mpr List.mem_cons_self
        rcases List.mem_cons.mp m1 with h | h
        · exact h
        · rcases List.mem_cons.mp m2 with h' | h'
          · exact h'.symm
          · exact Int.le_antisymm (hx.1 y h') (hy.1 x h)
      subst e
      rw [ih ((List.perm_cons x).mp p) hx.2 hy.2]
theorem sort_is {ns ms : List Int} (p : ms.Perm ns) (h : ms.Pairwise (· ≤ ·)) : ms = ns.mergeSort (fun a b => decide (a ≤ b)) := by
  have h2 : (ns.mergeSort (fun a b => decide (a ≤ b))).Pairwise (fun a b => decide (a ≤ b) = true) := List.pairwise_mergeSort (fun a b c h1 h2 => by simp at *; omega) (fun a b => by simp; omega) ns
  exact sort_unique (p.trans (List.mergeSort_perm ns _).symm) h (h2.imp fun h => of_decide_eq_true h)
omit ck [CK G X] in
theorem Datas.ofInts {F : Hp} (ns : List Int) : Datas G F (ns.map V.int) (ns.map PV.int) := Datas.ints ns
omit ck in
theorem b_sorted : CallOk G X .n (.builtin "sorted") false (f1 oSorted) :=
  call1 cr_sortedI (fun d c fs h => by unfold oSorted at h; split at h <;> (first | (split at h <;> cases h) | cases h)) fun F H v x Q d e dv q k => by
    unfold oSorted at q
    split at q
    · rename_i ds h1
      split at q
      · rename_i ns h2
        cases q
        obtain ⟨a, rfl, h3⟩ := items_ints (X := X) e dv h1 h2
        refine ⟨a, ns, rfl, h3, fun ns' p pm pw np => ?_⟩
        rw [sort_is pm pw]
        exact k _ F _ (.apart e np) ⟨p, rfl, np, e.free np, _, upd_same, .ofInts _⟩
      · cases q
    · cases q
end
end PP

/-! PPComp: targets, what is walked, list comprehensions. -/
namespace PP
open PySem PySem.Spec L2

section
variable {G : Cfg} {X : Cx} [CK G X] {W : WX} {k k1 k2 : Kd} {e a b : Expr} {es : List Expr} {fa fb : DE} {fl : DA} {pos : Pos} {n : Nat} {Γ : Tab} {D : PrgD} {fn : Nat → Option FnI}

/-! ### targets -/
theorem wipe_set {σ : L2.St} {i : Nat} {x : Option V} : ∀ {vs : List Nat}, i ∈ vs → wipe (σ.set i x) vs = wipe σ vs
  | [], h => by simp at h
  | v :: vs, h => by
    unfold wipe
    by_cases hv : i ∈ vs
    · rw [wipe_set hv]
    · have e : i = v := by
        rcases List.mem_cons.mp h with h | h
        · exact h
        · exact absurd h hv
      subst e
      have comm : ∀ {vs : List Nat}, i ∉ vs → wipe (σ.set i x) vs = (wipe σ vs).set i x := fun {vs} => by
        induction vs with
        | nil => exact fun _ => rfl
        | cons u us ih =>
          intro hu
          have h1 : i ≠ u := fun z => hu (by rw [z]; exact List.mem_cons_self)
          have h2 : i ∉ us := fun z => hu (List.mem_cons_of_mem _ z)
          unfold wipe
          rw [ih h2, List.set_comm _ _ h1]
      rw [comm hv, List.set_set]
theorem wipe_get {σ : L2.St} {i : Nat} : ∀ {vs : List Nat}, i ∈ vs → i < σ.length → (wipe σ vs)[i]? = some none
  | [], h, _ => by simp at h
  | v :: vs, h, hl => by
    unfold wipe
    by_cases hv : v = i
    · subst hv; rw [List.getElem?_set_self (by rw [wipe_length]; exact hl)]
    · rw [List.getElem?_set_ne hv]
      rcases List.mem_cons.mp h with h | h
      · exact absurd h.symm hv
      · exact wipe_get h hl
theorem wipe_not {σ : L2.St} {i : Nat} : ∀ {vs : List Nat}, i ∉ vs → (wipe σ vs)[i]? = σ[i]?
  | [], _ => rfl
  | v :: vs, h => by
    unfold wipe
    rw [List.getElem?_set_ne (fun z => h (by rw [z]; exact List.mem_cons_self))]
    exact wipe_not fun z => h (List.mem_cons_of_mem _ z)
theorem wipe_wipe (σ : L2.St) (vs : List Nat) : wipe (wipe σ vs) vs = wipe σ vs := by
  apply List.ext_getElem?
  intro i
  by_cases h : i ∈ vs
  · by_cases hl : i < σ.length
    · rw [wipe_get h (by rw [wipe_length]; exact hl), wipe_get h hl]
    · rw [List.getElem?_eq_none (by rw [wipe_length, wipe_length]; omega), List.getElem?_eq_none (by rw [wipe_length]; omega)]
  · rw [wipe_not h]
def gNm (i : Nat) : DG := fun d ρ => .ok (ρ.set i (.fr d))
theorem g_name {i : Nat} {x : Str} (hN : X.N.Nodup) (hi : X.N[i]? = some x) (hx : Loc X.env.scope x) (hf : X.fn x = true ∨ X.env.scope.names.lookup x = some .local := by first | exact .inl rfl | exact .inr rfl | assumption) : GOk G X [i] (.Name x pos) (gNm i) :=
  (pg_name hN hi hx hf).wk fun v σ H Q ⟨w, F, ρ, d, r, dv, q⟩ => q _ (r.put dv) fun vs h => wipe_set (h i List.mem_cons_self)
def gsNil : List PV → PEnv → R PEnv := fun ds ρ => match ds with
  | [] => .ok ρ
  | _ => .bad
def gsCons (g : DG) (gs : List PV → PEnv → R PEnv) : List PV → PEnv → R PEnv := fun ds ρ => match ds with
  | d :: r => (g d ρ).bind fun ρ1 => gs r ρ1
  | [] => .bad
theorem gs_nil : GsOk G X [] [] gsNil := pgs_nil.wk fun vs σ H Q ⟨w, F, ρ, ds, r, dv, q⟩ => by
  cases dv with
  | nil => exact ⟨rfl, q σ r fun vs _ => rfl⟩
  | cons h k => exact q.elim
theorem gs_cons {ts us : List Nat} {g : DG} {gs : List PV → PEnv → R PEnv} (h1 : GOk G X ts e g) (h2 : GsOk G X us es gs) (hs : (assignEach (e :: es) X.env).map (·.2) = assign e X.env :: (assignEach es X.env).map (·.2) := by rfl) : GsOk G X (ts ++ us) (e :: es) (gsCons g gs) :=
  (pgs_cons h1 h2 hs).wk fun vs σ H Q ⟨w, F, ρ, ds, r, dv, q⟩ => by
    cases dv with
    | nil => exact q.elim
    | @cons v vs d ds hv k =>
      refine ⟨v, vs, rfl, w, F, ρ, d, r, hv, ?_⟩
      simp only [gsCons] at q
      cases hg : g d ρ with
      | bad => rw [hg] at q; exact q.elim
      | ex c fs => rw [hg] at q; exact q.elim
      | ok ρ1 =>
        rw [hg] at q
        intro σ1 r1 h1
        refine ⟨w, F, ρ1, ds, r1, k, ?_⟩
        replace q : GRes G w F H (ts ++ us) σ Q (gs ds ρ1) := q
        cases hs : gs ds ρ1 with
        | ok ρ2 =>
          rw [hs] at q
          intro σ2 r2 h2
          exact q σ2 r2 fun vs hv => (h2 vs fun i hi => hv i (List.mem_append_right _ hi)).trans (h1 vs fun i hi => hv i (List.mem_append_left _ hi))
        | bad => rw [hs] at q; exact q
        | ex c fs => rw [hs] at q; exact q
/-- a tuple of n -/
def gTupP (n : Nat) (gs : List PV → PEnv → R PEnv) : DG := fun d ρ => match d with
  | .tup ds => if ds.length = n then gs ds ρ else .bad
  | _ => .bad
theorem g_tup {ts : List Nat} {kk : Nat} {gs : List PV → PEnv → R PEnv} {m : Nat} (hc : X.calm = true) (h : GsOk G X ts es gs) (hn : (assignEach es X.env).length = m := by rfl) (hst : (assignEach es X.env).findIdx? (·.1) = none := by rfl) : GOk G X ts (.Tuple es kk pos) (gTupP m gs) :=
  (pg_tup hc h hn hst).wk fun v σ H Q ⟨w, F, ρ, d, r, dv, q⟩ => by
    cases dv with
    | @tup a vs ds h1 k1 =>
      simp only [gTupP] at q
      by_cases hl : ds.length = m
      · rw [if_pos hl] at q
        exact ⟨_, _, rfl, sqTX (sqT_same r.base.fh h1), by rw [k1.length]; exact hl, w, F, ρ, ds, r, k1, q⟩
      · rw [if_neg hl] at q; exact q.elim
    | _ => exact q.elim

/-! ### what is walked -/
def dIt (fa : DE) : DA := fun ρ => (fa ρ).bind fun x => match x.seq with
  | some ds => .ok ds
  | none => .bad
theorem IRes.from {F H F' H' : Hp} {σ : L2.St} {R' : It → Hp → Prop} {x : R (List PV)} (g : Grow F H F' H') (h : IRes G W F H σ R' x) : IRes G W F' H' σ R' x := by
  cases x with
  | ok d => exact fun J F2 H2 g2 => h J F2 H2 (g.trans g2)
  | ex c fs => exact fun cls dd F2 H2 g2 x => h cls dd F2 H2 (g.trans g2) x
  | bad => exact h
theorem it_reads {F H : Hp} {w : Wd} {ρ : PEnv} {σ : L2.St} {R0 : It → Hp → Prop} {g : PV → R (List PV)} {R' : V → Hp → Prop} (r : Rel G w F H ρ σ) (q : IRes G W F H σ R0 ((fa ρ).bind g))
    (step : ∀ v x F2 H2, Grow F H F2 H2 → DataX G k1 H F2 H2 v x → IRes G W F2 H2 σ R0 (g x) → R' v H2) : tE G W k1 fa σ H fun v H1 => R' v H1 := by
  refine ⟨w, F, ρ, r, ?_⟩
  cases ha : fa ρ with
  | bad => rw [ha] at q; exact q
  | ex c fs => rw [ha] at q; exact q
  | ok x =>
    rw [ha] at q
    intro v F1 H1 g1 d1
    exact step v x F1 H1 g1 d1 (IRes.from g1 q)
theorem walks_list {F : Hp} {a : Addr} {vs : List V} {ds : List PV} (h : SqL X.K F a vs) (k : Datas G F vs ds) (inj : ∀ (H : Hp) xs, Same F H → SqL X.K H a xs → xs = vs) : Walks G (Itl X.K a) F ds where
  go := fun i H s hi => ⟨vs, vs[i]'(by rw [k.length]; exact hi), h.imp (rd_same s) _root_.id, by simp⟩
  stop := fun i H s hi => ⟨vs, h.imp (rd_same s) _root_.id, by rw [k.length]; exact (Nat.le_of_eq hi.symm)⟩
  yld := fun i F1 H x H' s1 s2 hi hy => by
    obtain ⟨rfl, hx⟩ := hy
    have hv := hx vs (h.imp (rd_same (s1.trans s2)) _root_.id)
    obtain ⟨d, hd, dv⟩ := k.get hv
    exact ⟨d, F1, hd, .refl s2, dv.mono s1⟩
theorem walks_tup {F : Hp} {a : Addr} {vs : List V} {ds : List PV} (h : SqT X.K F a vs) (k : Datas G F vs ds) : Walks G (Itt X.K a) F ds where
  go := fun i H s hi => ⟨vs, vs[i]'(by rw [k.length]; exact hi), h.imp (rd_same s) _root_.id, by simp⟩
  stop := fun i H s hi => ⟨vs, h.imp (rd_same s) _root_.id, by rw [k.length]; exact (Nat.le_of_eq hi.symm)⟩
  yld := fun i F1 H x H' s1 s2 hi hy => by
    obtain ⟨rfl, hx⟩ := hy
    have hv := hx vs (h.imp (rd_same (s1.trans s2)) _root_.id)
    obtain ⟨d, hd, dv⟩ := k.get hv
    exact ⟨d, F1, hd, .refl s2, dv.mono s1⟩
theorem walks_list' {F : Hp} {a : Addr} {vs : List V} {ds : List PV} (h : SqL X.K F a vs) (k : Datas G F vs ds) : Walks G (Itl X.K a) F ds where
  go := fun i H s hi => ⟨vs, vs[i]'(by rw [k.length]; exact hi), h.imp (rd_same s) _root_.id, by simp⟩
  stop := fun i H s hi => ⟨vs, h.imp (rd_same s) _root_.id, by rw [k.length]; exact (Nat.le_of_eq hi.symm)⟩
  yld := fun i F1 H x H' s1 s2 hi hy => by
    obtain ⟨rfl, hx⟩ := hy
    have hv := hx vs (h.imp (rd_same (s1.trans s2)) _root_.id)
    obtain ⟨d, hd, dv⟩ := k.get hv
    exact ⟨d, F1, hd, .refl s2, dv.mono s1⟩
/-- a list or a tuple, as it comes -/
def iSeq (K : PySem.W.Frag) (tl : TE) : TI := fun σ H R => tl σ H fun x H1 => ∃ a, x = .ref a ∧ (((∃ xs, SqL K H1 a xs) ∧ R (Itl K a) H1) ∨ ((∃ xs, SqT K H1 a xs) ∧ R (Itt K a) H1))
theorem pi_seq {tg l : Expr} {tl : TE} (hl : PE X l tl) : PI X tg l (iSeq X.K tl) := by
  refine ⟨fun pins s σ H R I h => ?_⟩
  refine thn (hl.run pins s σ H _ I h) fun v s1 ⟨x, H1, I1, r1, q1⟩ => ?_
  obtain ⟨a, e, q1⟩ := q1
  subst e
  cases r1
  rcases q1 with ⟨⟨xs, hq⟩, q⟩ | ⟨⟨xs, hq⟩, q⟩
  · obtain ⟨its, rv, p, hz⟩ := I1.list hq
    refine wpAny_pyIter_list p.isList ?_
    refine ⟨s1.heap.objs.size, [s1.heap.objs.size], _, _, H1, rfl, I1.kept (t' := s1.toks) fun b o e => Heap.get?_push_of_some _ e, turn_list a _, ⟨_, Heap.get?_push_size _ rfl, rfl, rfl⟩, fun b hb => ?_, q⟩
    have e : b = s1.heap.objs.size := by simpa using hb
    subst e
    exact I1.fpOk (Nat.le_refl _) (I1.hok.fresh (Nat.le_refl _))
  · obtain ⟨its, rv, p, hz⟩ := I1.tuple hq
    refine wpAny_pyIter_tuple (show s1.heap.IsTuple a its.toArray from p) ?_
    refine ⟨s1.heap.objs.size, [s1.heap.objs.size], _, _, H1, rfl, I1.kept (t' := s1.toks) fun b o e => Heap.get?_push_of_some _ e, turn_tuple a _, ⟨_, Heap.get?_push_size _ rfl, rfl, rfl⟩, fun b hb => ?_, q⟩
    have e : b = s1.heap.objs.size := by simpa using hb
    subst e
    exact I1.fpOk (Nat.le_refl _) (I1.hok.fresh (Nat.le_refl _))
theorem i_seq {tg : Expr} (ha : EOk G X W k1 a fa) (hk : k1.st = true := by rfl) : IOk G X W tg a (dIt fa) :=
  (pi_seq (ha.stab hk)).wk fun σ H R' ⟨w, F, ρ, r, q⟩ => it_reads r q fun v x F2 H2 g d q' => by
    cases d with
    | tup h1 k1 => exact ⟨_, rfl, .inr ⟨⟨_, sqTX (sqT_same g.fh h1)⟩, q' _ F2 H2 (.refl g.fh) (walks_tup (sqTX h1) k1)⟩⟩
    | lst h1 k1 => exact ⟨_, rfl, .inl ⟨⟨_, .of (g.fh _ _ h1)⟩, q' _ F2 H2 (.refl g.fh) (walks_list' (.of h1) k1)⟩⟩
    | scr h1 k1 => exact ⟨_, rfl, .inl ⟨⟨_, sqLX (sqL_same g.fh h1)⟩, q' _ F2 H2 (.refl g.fh) (walks_list' (sqLX h1) k1)⟩⟩
    | _ => exact q'.elim
/-- ranges -/
def rngP (lo : Int) (n : Nat) : List PV := (List.range n).map fun (i : Nat) => PV.int (lo + (i : Int))
theorem rngP_length {lo : Int} {n : Nat} : (rngP lo n).length = n := by simp [rngP]
theorem rngP_get {lo : Int} {n i : Nat} (h : i < n) : (rngP lo n)[i]? = some (.int (lo + (i : Int))) := by
  unfold rngP
  rw [List.getElem?_map, List.getElem?_range h]
  rfl
theorem walks_rng {F : Hp} {lo : Int} {n : Nat} : Walks G (Itr lo n) F (rngP lo n) where
  go := fun i H _ hi => by rw [rngP_length] at hi; exact hi
  stop := fun i H _ hi => by rw [rngP_length] at hi; exact (Nat.le_of_eq hi.symm)
  yld := fun i F1 H x H' _ s2 hi hy => by
    obtain ⟨rfl, rfl⟩ := hy
    rw [rngP_length] at hi
    exact ⟨_, F1, rngP_get hi, .refl s2, .int _⟩
def rgOk (i : Int) : Prop := -(2 ^ 62) ≤ i ∧ i < 2 ^ 62
instance (i : Int) : Decidable (rgOk i) := by unfold rgOk; infer_instance
def dRng1 (fa : DE) : DA := fun ρ => (fa ρ).bind fun x => match x with
  | .int j => if rgOk j then .ok (rngP 0 j.toNat) else .bad
  | _ => .bad
def dRng2 (fa fb : DE) : DA := fun ρ => (fa ρ).bind fun x => (fb ρ).bind fun y => match x, y with
  | .int i, .int j => if rgOk i ∧ rgOk j then .ok (rngP i (j - i).toNat) else .bad
  | _, _ => .bad
theorem i_rng1 {tg : Expr} {p : Pos} [c : Prg G X n Γ D fn] (ha : EOk G X W k1 a fa) (hg : Gl X "range") (hs : starEach [a] X.env = [(false, eval a X.env)] := by rfl) : IOk G X W tg (.Call (.Name "range" p) [a] [] pos) (dRng1 fa) :=
  (pi_range1 hg (c.blt _ (by decide)) (pa_cons ha pa_nil hs) hs).wk fun σ H R' ⟨w, F, ρ, r, q⟩ => it_reads r q fun v x F2 H2 g d q' => by
    cases x with
    | int j =>
      simp only at q'
      by_cases hj : rgOk j
      · rw [if_pos hj] at q'
        exact ⟨j, by rw [d.toB.int], hj.1, hj.2, q' _ F2 H2 (.refl g.fh) walks_rng⟩
      · rw [if_neg hj] at q'; exact q'.elim
    | _ => exact q'.elim
theorem i_rng2 {tg : Expr} {p : Pos} [c : Prg G X n Γ D fn] (ha : EOk G X W k1 a fa) (hb : EOk G X W k2 b fb) (hg : Gl X "range") (hs : starEach [a, b] X.env = [(false, eval a X.env), (false, eval b X.env)] := by rfl) (hs2 : starEach [b] X.env = [(false, eval b X.env)] := by rfl) :
    IOk G X W tg (.Call (.Name "range" p) [a, b] [] pos) (dRng2 fa fb) :=
  (pi_range2 hg (c.blt _ (by decide)) (pa_cons ha (pa_cons hb pa_nil hs2) (by rw [hs, hs2])) hs hs2).wk fun σ H R' ⟨w, F, ρ, r, q⟩ => by
    refine it_reads r q fun v x F2 H2 g d q' => ?_
    refine it_reads (r.grow g) q' fun u y F3 H3 g3 d3 q3 => ?_
    cases x with
    | int i =>
      cases y with
      | int j =>
        simp only at q3
        by_cases hj : rgOk i ∧ rgOk j
        · rw [if_pos hj] at q3
          exact ⟨i, j, by rw [(d.toB.grow g3).int, d3.toB.int], ⟨hj.1.1, hj.1.2, hj.2.1, hj.2.2⟩, q3 _ F3 H3 (.refl g3.fh) walks_rng⟩
        · rw [if_neg hj] at q3; exact q3.elim
      | _ => exact q3.elim
    | _ => exact q3.elim

/-! ### list comprehensions -/
/-- no wish: nothing may be raised -/
def W0 : WX := fun _ _ _ _ => False
theorem takes0 {X : Cx} : Takes X W0 := fun u s' ⟨_, _, _, _, _, _, _, _, _, _, _, _, _, _, _, _, w⟩ => w.elim
def wipeE (ρ : PEnv) : List Nat → PEnv
  | [] => ρ
  | v :: vs => (wipeE ρ vs).set v .no
theorem Rel.wiped {w : Wd} {F H : Hp} {ρ : PEnv} {σ : L2.St} (r : Rel G w F H ρ σ) : ∀ vs : List Nat, Rel G w F H (wipeE ρ vs) (wipe σ vs)
  | [] => r
  | v :: vs => by
    have r := Rel.wiped r vs
    unfold wipeE wipe
    have nf : ∀ {j : Nat} {s : Slot}, ((wipeE ρ vs).set v .no)[j]? = some s → s = .no ∨ (v ≠ j ∧ (wipeE ρ vs)[j]? = some s) := fun {j s} e => by
      by_cases hj : v = j
      · subst hj
        by_cases hl : v < (wipeE ρ vs).length
        · rw [List.getElem?_set_self hl] at e; cases e; exact .inl rfl
        · rw [List.getElem?_eq_none (by simpa using hl)] at e; cases e
      · rw [List.getElem?_set_ne hj] at e; exact .inr ⟨hj, e⟩
    refine ⟨r.base, by simp [r.len], fun j s e => ?_, fun j k a dj dk hne e1 e2 e3 e4 => ?_⟩
    · have hl := (List.getElem?_eq_some_iff.mp e).1
      rw [List.length_set, r.len] at hl
      rcases nf e with rfl | ⟨hj, e'⟩
      · exact ⟨((wipe σ vs).set v none)[j]'(by simpa using hl), by simp, trivial⟩
      · obtain ⟨u, h1, h2⟩ := r.ok j s e'
        exact ⟨u, by rw [List.getElem?_set_ne hj]; exact h1, h2⟩
    · rcases nf e1 with h | ⟨n1, q1⟩
      · cases h
      · rcases nf e2 with h | ⟨n2, q2⟩
        · cases h
        · rw [List.getElem?_set_ne n1] at e3
          rw [List.getElem?_set_ne n2] at e4
          exact r.sep j k a dj dk hne q1 q2 e3 e4
/-- the tests of a clause -/
def dYes : DT := fun _ => .ok true
abbrev TsOk (G : Cfg) (X : Cx) (W : WX) (ifs : List Expr) (t : DT) : Prop := PTs X ifs (tT G W t)
theorem ts_nil : TsOk G X W [] dYes := ⟨fun pins s σ H Q I ⟨w, F, ρ, r, q⟩ => pts_nil.run pins s σ H Q I (q F H (.refl r.base.fh))⟩
theorem ts_one {c : Expr} {t : DT} (h : TOk G X W c t) : TsOk G X W [c] t := pts_one h
def lcL (g : DG) (t : DT) (e : DE) (ρ : PEnv) : List PV → R (List PV)
  | [] => .ok []
  | d :: r => match g d ρ with
    | .ok ρ1 => match t ρ1 with
      | .ok true => match e ρ1 with
        | .ok x => match lcL g t e ρ r with
          | .ok xs => .ok (x :: xs)
          | _ => .bad
        | _ => .bad
      | .ok false => lcL g t e ρ r
      | _ => .bad
    | _ => .bad
def dLc (it : DA) (g : DG) (t : DT) (e : DE) (vs : List Nat) : DE := fun ρ => (it ρ).bind fun ds => if ds.length ≤ cap then (match lcL g t e (wipeE ρ vs) ds with
  | .ok xs => .ok (.lst xs)
  | _ => .bad) else .bad
theorem lc_reads {it : DA} {g : DG} {t : DT} {te : DE} {vs ts : List Nat} {w : Wd} {F H : Hp} {ρ : PEnv} {σ : L2.St} {Q : VK} (rl : Rel G w F H ρ σ) (hk : k.st = true) (hts : ∀ i ∈ ts, i ∈ vs) (q : ARes G W .n F H σ Q (dLc it g t te vs ρ)) :
    tLc (tI G W it) (tG G ts g) (tT G W0 t) (tE G W0 k te) vs σ H Q := by
  refine ⟨w, F, ρ, rl, ?_⟩
  unfold dLc at q
  cases hi : it ρ with
  | bad => rw [hi] at q; exact q
  | ex c fs => rw [hi] at q; exact q
  | ok ds =>
    rw [hi] at q
    intro J F1 H1 g1 wk Dl hD
    replace q : ARes G W .n F H σ Q (if ds.length ≤ cap then (match lcL g t te (wipeE ρ vs) ds with
      | .ok xs => .ok (.lst xs)
      | _ => .bad) else .bad) := q
    by_cases hcap : ds.length ≤ cap
    · rw [if_pos hcap] at q
      cases hl : lcL g t te (wipeE ρ vs) ds with
      | bad => rw [hl] at q; exact q.elim
      | ex c fs => rw [hl] at q; exact q.elim
      | ok all =>
        rw [hl] at q
        have nF1 : F1 Dl = none := g1.fh.free hD
        let Pv : Nat → Hp → Prop := fun i Hc => ∃ Fc us rs rest, Grow F1 H1 Fc Hc ∧ Fc Dl = none ∧ Hc Dl = some (.lst us) ∧ Datas G Fc us rs ∧ us.length ≤ i ∧ lcL g t te (wipeE ρ vs) (ds.drop i) = .ok rest ∧ rs ++ rest = all
        refine ⟨fun i m Hc => m = ds.length - i ∧ i ≤ ds.length ∧ Pv i Hc, ⟨ds.length, by simp, Nat.zero_le _, F1, [], [], all, .apart g1.fh hD, nF1, upd_same, .nil, Nat.le_refl _, hl, rfl⟩, ?_⟩
        rintro i m Hc ⟨rfl, hile, Fc, us, rs, rest, gc, nF, hU, dU, hlen, hr, hall⟩
        by_cases hlt : i < ds.length
        · refine .inr ⟨wk.go i Hc (gc.f.trans gc.fh) hlt, Pv (i + 1), fun H' p' => ⟨ds.length - (i + 1), by omega, rfl, hlt, p'⟩, fun x H' hy => ?_⟩
          obtain ⟨d, F2, hd, g2, dx⟩ := wk.yld i Fc Hc x H' gc.f gc.fh hlt hy
          have gc2 := gc.trans g2
          have rw1 : Rel G w F2 H' (wipeE ρ vs) (wipe σ vs) := (rl.grow (g1.trans gc2)).wiped vs
          have hdrop : ds.drop i = d :: ds.drop (i + 1) := by
            rw [List.drop_eq_getElem_cons hlt]
            have := List.getElem?_eq_some_iff.mp hd
            rw [this.2]
          have nD : ∀ {Fx Hx Fy Hy : Hp}, Grow Fx Hx Fy Hy → Fx Dl = none → (∃ o, Hx Dl = some o) → Fy Dl = none := fun {Fx Hx Fy Hy} gg hf ho => by
            obtain ⟨o, ho⟩ := ho
            cases z : Fy Dl with
            | none => rfl
            | some u =>
              rcases gg.new Dl u z with z | z
              · rw [hf] at z; cases z
              · rw [ho] at z; cases z
          have nF2 : F2 Dl = none := nD g2 nF ⟨_, hU⟩
          have hU2 : H' Dl = some (.lst us) := g2.h _ _ hU
          rw [hdrop] at hr
          refine ⟨w, F2, wipeE ρ vs, d, rw1, dx, ?_⟩
          simp only [lcL] at hr
          cases hgd : g d (wipeE ρ vs) with
          | bad => rw [hgd] at hr; cases hr
          | ex c fs => rw [hgd] at hr; cases hr
          | ok ρ1 =>
            rw [hgd] at hr
            intro σ2 r2 hw
            refine ⟨(hw vs hts).trans (wipe_wipe σ vs), w, F2, ρ1, r2, ?_⟩
            cases htt : t ρ1 with
            | bad => simp only [htt] at hr; cases hr
            | ex c fs => simp only [htt] at hr; cases hr
            | ok tb =>
              simp only [htt] at hr
              intro F3 H3 g3
              have nF3 : F3 Dl = none := nD g3 nF2 ⟨_, hU2⟩
              have hU3 : H3 Dl = some (.lst us) := g3.h _ _ hU2
              cases tb with
              | false =>
                rw [if_neg Bool.false_ne_true]
                exact ⟨F3, us, rs, rest, gc2.trans g3, nF3, hU3, dU.mono (g2.f.trans g3.f), Nat.le_succ_of_le hlen, hr, hall⟩
              | true =>
                rw [if_pos rfl]
                refine ⟨w, F3, ρ1, r2.grow g3, ?_⟩
                cases hte : te ρ1 with
                | bad => simp only [hte] at hr; cases hr
                | ex c fs => simp only [hte] at hr; cases hr
                | ok z =>
                  simp only [hte] at hr
                  cases hrest : lcL g t te (wipeE ρ vs) (ds.drop (i + 1)) with
                  | bad => rw [hrest] at hr; cases hr
                  | ex c fs => rw [hrest] at hr; cases hr
                  | ok zs =>
                    rw [hrest] at hr
                    cases hr
                    intro y F4 H4 g4 d4
                    obtain ⟨F5, g5, d5⟩ := d4.stable hk g4
                    have nF5 : F5 Dl = none := nD g5 nF3 ⟨_, hU3⟩
                    have hU4 : H4 Dl = some (.lst us) := g5.h _ _ hU3
                    have ga := (gc2.trans g3).trans g5
                    refine ⟨us, hU4, Nat.lt_of_le_of_lt hlen (Nat.lt_of_lt_of_le hlt (by rw [← cap_eq]; exact hcap)), F5, us ++ [y], rs ++ [z], zs, ⟨ga.f, fun b o zz => ?_, fun b o zz => ?_, ga.new⟩, nF5, upd_same, ?_, by simp; omega, hrest, by rw [← hall]; simp⟩
                    · rw [upd_ne (ne_of_none zz hD)]
                      exact ga.h _ _ zz
                    · rw [upd_ne (ne_of_none zz nF5)]
                      exact ga.fh _ _ zz
                    · exact (dU.mono ((g2.f.trans g3.f).trans g5.f)).snoc d5
        · have e : i = ds.length := by omega
          subst e
          rw [List.drop_length] at hr
          cases hr
          rw [List.append_nil] at hall
          subst hall
          exact .inl ⟨wk.stop _ Hc (gc.f.trans gc.fh) rfl, q (.ref Dl) Fc Hc (g1.trans gc) ⟨Dl, rfl, g1.h.free hD, nF, us, hU, dU⟩⟩
    · rw [if_neg hcap] at q; exact q.elim
theorem e_lc {elt tg iter : Expr} {ifs : List Expr} {scope : Scope} {own : List (Str × Nat)} {it : DA} {ts : List Nat} {g : DG} {t : DT} {te : DE} (hc : X.calm = true) (hN : X.N.Nodup) (hi : IOk G X W tg iter it) (ok : BlkOk X.N X.env.scope scope own)
    (hg : ∀ (s : Shared) (H : Hp) (C : Addr) (cl : List (Str × Addr)) (fp : List Addr), GOk G (X.blk s H scope (compEnvC scope cl C X.env) fp) ts tg g) (ht : ∀ (s : Shared) (H : Hp) (C : Addr) (cl : List (Str × Addr)) (fp : List Addr), TsOk G (X.blk s H scope (compEnvC scope cl C X.env) fp) W0 ifs t)
    (he : ∀ (s : Shared) (H : Hp) (C : Addr) (cl : List (Str × Addr)) (fp : List Addr), EOk G (X.blk s H scope (compEnvC scope cl C X.env) fp) W0 k elt te) (hk : k.st = true := by rfl) (hts : ∀ i ∈ ts, i ∈ own.map (·.2) := by decide)
    (hs : ∀ x, foldedSetIterable iter X.env x = pure x := by intro _; rfl) : EOk G X W .n (.ListComp elt [⟨tg, iter, ifs, 0⟩] scope pos) (dLc it g t te (own.map (·.2))) :=
  (pe_lc hc hN hi ok hg ht he hs).wk fun σ H Q ⟨w, F, ρ, rl, q⟩ => lc_reads rl hk hts q
end
end PP

/-! PPEnum: enumerate of lists and of tuples, zip. -/
namespace PySem
open AutoSeq1 (wpAny_loadPart')
theorem meets_enumerate_newT (l : Addr) (items : Array Value) (n : Nat) (dct : Option Addr) (sl : Array (Option Value)) :
    Meets (Builtin.«enumerate.__new__» ⟨[.type "enumerate", .ref l], []⟩) (fun _ R s => s.heap.get? l = some { cls := .type "tuple", dict := dct, data := .seq items n, slots := sl } ∧
      R (.ok (.ret (.ref (s.heap.push { cls := .type "tuple_iterator", data := .fields #[.ref l, .int 0 0] }).objs.size)))
        { s with heap := (s.heap.push { cls := .type "tuple_iterator", data := .fields #[.ref l, .int 0 0] }).push { cls := .type "enumerate", data := .fields #[.none, .bool false, .ref s.heap.objs.size, rawInt 0, .none, .none] } }) :=
  .of_wp fun prog w A R s h => by
    obtain ⟨hp, g, d, tk, os⟩ := s; obtain ⟨hl, h⟩ := h
    have hsub := sub_enumerate
    have hL : Heap.IsTuple (Shared.heap ⟨hp, g, d, tk, os⟩) l items := ⟨_, hl, rfl, n, rfl⟩
    wp_walk using wpAny_loadPart' hl
    refine wpAny_stack_any fun st => wpAny_pure ?_
    split
    · rename_i c _ _ _ _ _
      cases (c == Value.type "enumerate")
      · wp_walk using wpAny_loadPart' hl, wpAny_pyIter_tuple hL
        exact ⟨_, rfl, h⟩
      · wp_walk using wpAny_loadPart' hl, wpAny_pyIter_tuple hL
        exact ⟨_, rfl, h⟩
    · wp_walk using wpAny_loadPart' hl, wpAny_pyIter_tuple hL
      exact ⟨_, rfl, h⟩
section
variable {prog : Program} {w : World} {A : Around} {E : Value → Shared → Prop} {s : Shared}
theorem wpAny_pyNext_enumT_end {e it t : Addr} {i : Nat} {items : Array Value} {old : Value} {Q : Option Value → Shared → Prop} (hh : A.handled = none)
    (he : IsEnum s.heap e it i old) (hit : s.heap.IsTupleIter it t i) (ht : s.heap.IsTuple t items) (hx : items[i]? = none)
    (hQ : ∀ h', Heap.ExtBut it s.heap h' → Q none { s with heap := h' }) : wpAny (model prog w) A (pyNext (.ref e)) Q E s := by
  have hT : s.TypeIs (.ref e) "enumerate" := ⟨_, he, rfl⟩
  unfold pyNext
  refine wpAny_bind (wpAny_attempt (wpAny_callSpecial?_slot (name := Str.ofString "__next__") hT F.slot_enumerate_next
    (wpAny_call_entry F.slot_enumerate_next hT F.entry_enumerate_next ?_ (F.args_enumerate_next_1 _))))
  show wpAny _ _ (field (.ref e) 2 >>= _) _ _ _
  refine wpAny_bind (wpAny_field he rfl (x := .ref it) rfl ?_)
  refine wpAny_bind (wpAny_nextOf_tuple_end hh hit ht hx fun h' x he' hx' => ?_)
  obtain ⟨o, ho, hc⟩ := hx'
  refine wpAny_bind (wpAny_isInstance (T := "StopIteration") (b := true) ⟨o, ho, hc⟩ isSubtype_stop ?_)
  exact wpAny_pure (hQ _ he')
end
section
variable {prog : Program} {w : World} {A : Around} {E : Value → Shared → Prop} {s : Shared}
theorem call_enumerate_tuple {l : Addr} {items : Array Value} {Q : Value → Shared → Prop} (hL : s.heap.IsTuple l items)
    (h : ∀ h', IsEnum h' (s.heap.objs.size + 1) s.heap.objs.size 0 .none → h'.IsTupleIter s.heap.objs.size l 0 → h'.objs.size = s.heap.objs.size + 2 →
      (∀ b o, s.heap.get? b = some o → h'.get? b = some o) → Q (.ref (s.heap.objs.size + 1)) { s with heap := h' }) :
    wpAny (model prog w) A (call (.type "enumerate") [.ref l]) Q E s := by
  obtain ⟨⟨c, dct, dt, sl⟩, hl, hc, n, hd⟩ := hL
  replace hc : c = .type "tuple" := hc
  replace hd : dt = .seq items n := hd
  subst hc hd
  refine callType_new F.called_enumerate (by decide) (F.typeCall_enumerate_1 _) (F.newCall_enumerate_1 _) (fun obj => F.args_object_init_2 obj _) F.entry_enumerate_new
    (meets_enumerate_newT l items n dct sl) ⟨hl, ?_⟩
  have hz : (s.heap.push { cls := .type "tuple_iterator", data := .fields #[.ref l, .int 0 0] }).objs.size = s.heap.objs.size + 1 := Heap.size_push ..
  show _ ∧ _
  rw [hz]
  have he : IsEnum ((s.heap.push { cls := .type "tuple_iterator", data := .fields #[.ref l, .int 0 0] }).push
      { cls := .type "enumerate", data := .fields #[.none, .bool false, .ref s.heap.objs.size, rawInt 0, .none, .none] }) (s.heap.objs.size + 1) s.heap.objs.size 0 .none := by
    have := Heap.get?_push_size (s.heap.push { cls := .type "tuple_iterator", data := .fields #[.ref l, .int 0 0] })
      (o := { cls := .type "enumerate", data := .fields #[.none, .bool false, .ref s.heap.objs.size, rawInt 0, .none, .none] }) rfl
    rw [hz] at this; exact this
  refine ⟨⟨_, he, rfl⟩, h _ he ⟨_, Heap.get?_push_of_some _ (Heap.get?_push_size _ rfl), rfl, rfl⟩ (by rw [Heap.size_push, hz]) fun b o x => Heap.get?_push_of_some _ (Heap.get?_push_of_some _ x)⟩
end
end PySem

namespace PP
open PySem PySem.Spec L2
/-- the tuple at a, its items in new pairs with their places -/
def IteT (K : PySem.W.Frag) (a : Addr) : It :=
  ⟨fun i H => ∃ (xs : List V) (x : V), SqT K H a xs ∧ xs[i]? = some x, fun i H v H' => ∃ T x, v = .ref T ∧ H T = none ∧ H' = upd H T (.tup [.int (i : Nat), x]) ∧ ∀ xs, SqT K H a xs → xs[i]? = some x, fun i H => ∃ xs : List V, SqT K H a xs ∧ xs.length ≤ i⟩
theorem turn_enumT {P : Program} {w : World} {K : PySem.W.Frag} {elts : List Expr} {kk : Nat} {tpos : Pos} (a e it : Addr) :
    Turn P w K (.Tuple elts kk tpos) (IteT K a) [e, it] e (fun i h => (∃ old, IsEnum h e it ((i : Nat) : Int) old) ∧ h.IsTupleIter it a i ∧ e ≠ it ∧ a ≠ it ∧ e ≠ a) where
  mem := by simp
  obj := fun i h st b hb => by
    obtain ⟨⟨old, he⟩, ⟨o, ho, hc, hd⟩, _⟩ := st
    have e' : b = e ∨ b = it := by simpa using hb
    rcases e' with z | z
    · rw [z]; exact ⟨_, he, fun v q => nomatch q⟩
    · rw [z]; exact ⟨o, ho, fun v q => by rw [hd] at q; cases q⟩
  keep := fun i h h' st k => let ⟨⟨old, he⟩, hi, hne⟩ := st; ⟨⟨old, k e (by simp) _ he⟩, hi.at fun o q => k it (by simp) o q, hne⟩
  item := by
    intro X hP hw hK hc i pins s σ H E I hf st hg
    subst hP hw hK
    obtain ⟨⟨old, he⟩, hit, hne, hai, hea⟩ := st
    obtain ⟨xs, x, hq, hx⟩ := hg
    obtain ⟨its, rv, p, hz⟩ := I.tuple hq
    obtain ⟨u, hu, ru⟩ := rv.get hx
    have hel : e < s.heap.objs.size := Heap.lt_size he
    have hil : it < s.heap.objs.size := by obtain ⟨_, q, _⟩ := hit; exact Heap.lt_size q
    have hlt : i < its.toArray.size := by have := (List.getElem?_eq_some_iff.mp hu).1; simpa using this
    have Dr := Draws.tuple (prog := X.prog) (w := X.w) (A := X.A.in1) (show X.A.in1.handled = none from I.ok.hd hc) it a hai its.toArray
    refine wpAny_pyNext_enum_itemD Dr he ⟨hit, p⟩ hlt hne (by simp; exact ⟨hne, hea⟩) fun x' h' tk hP ho hst' hT hsz hk => ?_
    have ex : x' = u := by
      have h1 : its.toArray[i]? = some x' := hP
      rw [List.getElem?_toArray, hu] at h1
      exact (Option.some.inj h1).symm
    subst ex
    refine ⟨_, rfl, wpAny_letOwnedTupleGo_enum (s := { s with heap := h', toks := tk + 1 }) ho fun h'' he' sb => ?_⟩
    have hT2 : h''.get? s.heap.objs.size = some { cls := .type "tuple", data := .seq #[.int i tk, x'] } := (sb.2 _ (Nat.ne_of_gt hel)).trans hT
    have new : ObjOk X.prog X.w (upd H s.heap.objs.size (.tup [.int (i : Nat), x])) h'' s.heap.objs.size (.tup [.int (i : Nat), x]) :=
      ⟨by show 2 ≤ sizeLine; decide, [.int i tk, x'], .cons ⟨_, rfl⟩ (.cons ru .nil), ⟨_, hT2, rfl, _, rfl⟩⟩
    have I1 : Inv X pins σ (upd H s.heap.objs.size (.tup [.int (i : Nat), x])) { s with heap := h'', toks := tk + 1 } :=
      I.turnedNew (ch := [e, it]) (fun b ob hb q => (sb.2 b (fun z => hb (by simp [z]))).trans (hk b ob (fun z => hb (by simp [z])) (fun z => hb (by simp [z])) q)) hf (Nat.le_refl _) new
    refine ⟨.ref s.heap.objs.size, _, I1, rfl, ⟨_, x, rfl, I.hok.fresh (Nat.le_refl _), rfl, fun ys hy => by rw [I.tuple_inj hy hq]; exact hx⟩, ⟨⟨x', ?_⟩, hst'.1.at fun o q => (sb.2 it (Ne.symm hne)).trans q, hne, hai, hea⟩, fun b hb => ?_⟩
    · have e1 : ((i + 1 : Nat) : Int) = (i : Int) + 1 := by omega
      rw [e1]; exact he'
    · have hb' : b < s.heap.objs.size := by
        have e' : b = e ∨ b = it := by simpa using hb
        rcases e' with z | z
        · rw [z]; exact hel
        · rw [z]; exact hil
      rw [upd_ne (Nat.ne_of_lt hb')]
      exact (hf b hb).1
  done := by
    intro X hP hw hK hc i pins s σ H E I hf st hg
    subst hP hw hK
    obtain ⟨⟨old, he⟩, hit, hne, hai, hea⟩ := st
    obtain ⟨xs, hq, hx⟩ := hg
    obtain ⟨its, rv, p, hz⟩ := I.tuple hq
    obtain ⟨f0, f1, f2, f3, f4, f5⟩ := hf it (by simp)
    have hl := rv.length
    refine wpAny_pyNext_enumT_end (I.ok.hd hc) he hit p (by simp; omega) fun h' eb => ⟨rfl, I.turned (t' := s.toks) (fun b o hb q => eb b o hb q) f0 f1 f3 f4 f5⟩
  self := fun A i s Q E st h => let ⟨⟨_, he⟩, _⟩ := st; wpAny_pyIter_enum he h

def iEnumA (K : PySem.W.Frag) (ta : TA) : TI := fun σ H R => ta σ H fun vs H1 => ∃ a xs, vs = [.ref a] ∧ ((SqL K H1 a xs ∧ R (Ite K a) H1) ∨ (SqT K H1 a xs ∧ R (IteT K a) H1))
theorem pi_enumA {X : Cx} {e : Expr} {ta : TA} {p pos tpos : Pos} {elts : List Expr} {kk : Nat} (hg : Gl X "enumerate") (hm : X.mg "enumerate" = none) (ha : PA X [e] ta) (hs : starEach [e] X.env = [(false, eval e X.env)] := by rfl) :
    PI X (.Tuple elts kk tpos) (.Call (.Name "enumerate" p) [e] [] pos) (iEnumA X.K ta) := by
  refine ⟨fun pins s σ H R I h => ?_⟩
  refine PyProof.Rows.Call_ (ld_blt I hg hm PyProof.Rows.boot_enumerate (PyProof.Rows.callWith_type1 (thn (ha.run pos pins s σ H _ I h) fun us s1 ⟨vs, H1, I1, r1, q1⟩ => ?_) hs rfl))
  obtain ⟨a, xs, ex, q1⟩ := q1
  subst ex
  cases r1 with
  | cons r rr =>
    cases rr
    cases r
    have fr2 : ∀ b ∈ [s1.heap.objs.size + 1, s1.heap.objs.size], FpOk X pins H1 b := fun b hb => by
      have e' : b = s1.heap.objs.size + 1 ∨ b = s1.heap.objs.size := by simpa using hb
      have hle : s1.heap.objs.size ≤ b := by
        rcases e' with z | z
        · rw [z]; exact Nat.le_add_right _ _
        · rw [z]; exact Nat.le_refl _
      exact I1.fpOk hle (I1.hok.fresh hle)
    rcases q1 with ⟨hq, q⟩ | ⟨hq, q⟩
    · obtain ⟨its, rv, p', hz⟩ := I1.list hq
      refine call_enumerate_list p'.isList fun h' he hit hsz hk => wpAny_pyIter_enum he ?_
      have I2 : Inv X pins σ H1 { s1 with heap := h' } := I1.kept (t' := s1.toks) hk
      exact ⟨s1.heap.objs.size + 1, [s1.heap.objs.size + 1, s1.heap.objs.size], _, _, H1, rfl, I2, turn_enum a (s1.heap.objs.size + 1) s1.heap.objs.size, ⟨⟨.none, he⟩, hit, Nat.succ_ne_self _⟩, fr2, q⟩
    · obtain ⟨its, rv, p', hz⟩ := I1.tuple hq
      have hlt : a < s1.heap.objs.size := by obtain ⟨_, q, _⟩ := p'; exact Heap.lt_size q
      refine call_enumerate_tuple p' fun h' he hit hsz hk => wpAny_pyIter_enum he ?_
      have I2 : Inv X pins σ H1 { s1 with heap := h' } := I1.kept (t' := s1.toks) hk
      exact ⟨s1.heap.objs.size + 1, [s1.heap.objs.size + 1, s1.heap.objs.size], _, _, H1, rfl, I2, turn_enumT a (s1.heap.objs.size + 1) s1.heap.objs.size, ⟨⟨.none, he⟩, hit, Nat.succ_ne_self _, Nat.ne_of_lt hlt, Nat.ne_of_gt (Nat.lt_of_lt_of_le hlt (Nat.le_add_right _ 1))⟩, fr2, q⟩

section
variable {G : Cfg} {X : Cx} [CK G X] {W : WX} {k k1 k2 : Kd} {e a b : Expr} {es : List Expr} {fa fb : DE} {fl : DA} {pos : Pos} {n : Nat} {Γ : Tab} {D : PrgD} {fn : Nat → Option FnI}
/-- pairs: places and items -/
def enumP : Nat → List PV → List PV
  | _, [] => []
  | i, d :: r => .tup [.int (i : Nat), d] :: enumP (i + 1) r
theorem enumP_length : ∀ {i : Nat} {ds : List PV}, (enumP i ds).length = ds.length
  | _, [] => rfl
  | _, _ :: r => by rw [enumP, List.length_cons, List.length_cons, enumP_length]
theorem enumP_get : ∀ {i j : Nat} {ds : List PV} {d : PV}, ds[j]? = some d → (enumP i ds)[j]? = some (.tup [.int ((i + j : Nat) : Int), d])
  | _, _, [], _, h => by simp at h
  | i, 0, _ :: r, d, h => by simp at h; subst h; rfl
  | i, j + 1, _ :: r, d, h => by
    rw [enumP, List.getElem?_cons_succ, enumP_get (by simpa using h)]
    congr 4
    omega
theorem walks_enum {F : Hp} {a : Addr} {vs : List V} {ds : List PV} (h : SqL X.K F a vs) (k : Datas G F vs ds) : Walks G (Ite X.K a) F (enumP 0 ds) where
  go := fun i H s hi => ⟨vs, vs[i]'(by rw [enumP_length] at hi; rw [k.length]; exact hi), h.imp (rd_same s) _root_.id, by simp⟩
  stop := fun i H s hi => ⟨vs, h.imp (rd_same s) _root_.id, by rw [enumP_length] at hi; rw [k.length]; exact (Nat.le_of_eq hi.symm)⟩
  yld := fun i F1 H x H' s1 s2 hi hy => by
    obtain ⟨T, x', rfl, nT, rfl, hx⟩ := hy
    have hv := hx vs (h.imp (rd_same (s1.trans s2)) _root_.id)
    obtain ⟨d, hd, dv⟩ := k.get hv
    have g := Grow.laid (o := .tup [.int (i : Nat), x']) s2 nT
    exact ⟨_, _, by rw [enumP_get hd, Nat.zero_add], g, .tup (.of upd_same) (.cons (.int _) (.cons (dv.mono (s1.trans g.f)) .nil))⟩
theorem walks_enumT {F : Hp} {a : Addr} {vs : List V} {ds : List PV} (h : SqT X.K F a vs) (k : Datas G F vs ds) : Walks G (IteT X.K a) F (enumP 0 ds) where
  go := fun i H s hi => ⟨vs, vs[i]'(by rw [enumP_length] at hi; rw [k.length]; exact hi), h.imp (rd_same s) _root_.id, by simp⟩
  stop := fun i H s hi => ⟨vs, h.imp (rd_same s) _root_.id, by rw [enumP_length] at hi; rw [k.length]; exact (Nat.le_of_eq hi.symm)⟩
  yld := fun i F1 H x H' s1 s2 hi hy => by
    obtain ⟨T, x', rfl, nT, rfl, hx⟩ := hy
    have hv := hx vs (h.imp (rd_same (s1.trans s2)) _root_.id)
    obtain ⟨d, hd, dv⟩ := k.get hv
    have g := Grow.laid (o := .tup [.int (i : Nat), x']) s2 nT
    exact ⟨_, _, by rw [enumP_get hd, Nat.zero_add], g, .tup (.of upd_same) (.cons (.int _) (.cons (dv.mono (s1.trans g.f)) .nil))⟩
def dEnum (fa : DE) : DA := fun ρ => (fa ρ).bind fun x => match x.seq with
  | some ds => .ok (enumP 0 ds)
  | none => .bad
theorem i_enum {p tpos : Pos} {elts : List Expr} {kk : Nat} [c : Prg G X n Γ D fn] (ha : EOk G X W k1 a fa) (hg : Gl X "enumerate") (hk : k1.st = true := by rfl) (hs : starEach [a] X.env = [(false, eval a X.env)] := by rfl) : IOk G X W (.Tuple elts kk tpos) (.Call (.Name "enumerate" p) [a] [] pos) (dEnum fa) :=
  (pi_enumA hg (c.blt _ (by decide)) (pa_cons (ha.stab hk) pa_nil hs) hs).wk fun σ H R' ⟨w, F, ρ, r, q⟩ => it_reads r q fun v x F2 H2 g d q' => by
    cases d with
    | tup h1 k1 => exact ⟨_, _, rfl, .inr ⟨sqTX (sqT_same g.fh h1), q' _ F2 H2 (.refl g.fh) (walks_enumT (sqTX h1) k1)⟩⟩
    | lst h1 k1 => exact ⟨_, _, rfl, .inl ⟨.of (g.fh _ _ h1), q' _ F2 H2 (.refl g.fh) (walks_enum (.of h1) k1)⟩⟩
    | scr h1 k1 => exact ⟨_, _, rfl, .inl ⟨sqLX (sqL_same g.fh h1), q' _ F2 H2 (.refl g.fh) (walks_enum (sqLX h1) k1)⟩⟩
    | _ => exact q'.elim
/-! ### zip of two -/
def zipP : List PV → List PV → List PV
  | d :: r, e :: s => .tup [d, e] :: zipP r s
  | _, _ => []
theorem zipP_length : ∀ {ds es : List PV}, (zipP ds es).length = min ds.length es.length
  | [], _ => by simp [zipP]
  | _ :: _, [] => by simp [zipP]
  | _ :: r, _ :: s => by rw [zipP, List.length_cons, List.length_cons, List.length_cons, zipP_length]; omega
theorem zipP_get : ∀ {j : Nat} {ds es : List PV} {d e : PV}, ds[j]? = some d → es[j]? = some e → (zipP ds es)[j]? = some (.tup [d, e])
  | _, [], _, _, _, h, _ => by simp at h
  | _, _ :: _, [], _, _, _, h => by simp at h
  | 0, _ :: _, _ :: _, _, _, h, h2 => by simp at h h2; subst h h2; rfl
  | j + 1, _ :: r, _ :: s, _, _, h, h2 => by
    rw [zipP, List.getElem?_cons_succ]
    exact zipP_get (by simpa using h) (by simpa using h2)
end
end PP

set_option maxHeartbeats 1000000
/-! PPZip: zip of a list and a tuple, in any mix. -/
namespace PP
open PySem PySem.Spec L2
/-- k: a tuple, otherwise a list -/
def SqG (k : Bool) (K : PySem.W.Frag) (H : Hp) (a : Addr) (xs : List V) : Prop := match k with
  | true => SqT K H a xs
  | false => SqL K H a xs
def SqH (k : Bool) (h : Heap) (a : Addr) (items : Array Value) : Prop := match k with
  | true => h.IsTuple a items
  | false => h.IsList a items
def ItH (k : Bool) (h : Heap) (it l : Addr) (i : Nat) : Prop := match k with
  | true => h.IsTupleIter it l i
  | false => h.IsListIter it l i
def itObj (k : Bool) (l : Addr) : Obj := match k with
  | true => { cls := .type "tuple_iterator", data := .fields #[.ref l, .int 0 0] }
  | false => { cls := .type "list_iterator", data := .fields #[.ref l, .int 0 0] }
theorem SqH.at {k : Bool} {h h' : Heap} {a : Addr} {its : Array Value} (x : SqH k h a its) (e : ∀ o, h.get? a = some o → h'.get? a = some o) : SqH k h' a its := by
  cases k
  · exact Heap.IsList.at x e
  · exact Heap.IsTuple.at x e
theorem ItH.at {k : Bool} {h h' : Heap} {a l : Addr} {i : Nat} (x : ItH k h a l i) (e : ∀ o, h.get? a = some o → h'.get? a = some o) : ItH k h' a l i := by
  cases k
  · exact Heap.IsListIter.at x e
  · exact Heap.IsTupleIter.at x e
theorem ItH.new {k : Bool} {h : Heap} {it l : Addr} (x : h.get? it = some (itObj k l)) : ItH k h it l 0 := by
  cases k
  · exact ⟨_, x, rfl, rfl⟩
  · exact ⟨_, x, rfl, rfl⟩
theorem ItH.obj {k : Bool} {h : Heap} {it l : Addr} {i : Nat} (x : ItH k h it l i) : ∃ o, h.get? it = some o ∧ ∀ v, o.data ≠ .cell v := by
  cases k
  · obtain ⟨o, e, _, d⟩ := x
    exact ⟨o, e, fun v q => by rw [d] at q; cases q⟩
  · obtain ⟨o, e, _, d⟩ := x
    exact ⟨o, e, fun v q => by rw [d] at q; cases q⟩
theorem seqG_of {X : Cx} {pins : List (Addr × Obj)} {σ : L2.St} {H : Hp} {s : Shared} (I : Inv X pins σ H s) {k : Bool} {a : Addr} {xs : List V} (h : SqG k X.K H a xs) : ∃ its : List Value, Vals xs its ∧ SqH k s.heap a its.toArray := by
  cases k
  · obtain ⟨its, r, p, _⟩ := I.list h
    exact ⟨its, r, p.isList⟩
  · obtain ⟨its, r, p, _⟩ := I.tuple h
    exact ⟨its, r, p⟩
theorem seqG_inj {X : Cx} {pins : List (Addr × Obj)} {σ : L2.St} {H : Hp} {s : Shared} (I : Inv X pins σ H s) {k : Bool} {a : Addr} {xs ys : List V} (h : SqG k X.K H a xs) (h2 : SqG k X.K H a ys) : xs = ys := by
  cases k
  · exact I.list_inj h h2
  · exact I.tuple_inj h h2
theorem draws_seqG {prog : Program} {w : World} {A : Around} (k : Bool) (hh : A.handled = none) (it l : Addr) (hne : l ≠ it) (items : Array Value) :
    Draws prog w A it [it, l] items.size (fun i v => items[i]? = some v) (fun i h => ItH k h it l i ∧ SqH k h l items) := by
  cases k
  · exact Draws.list hh it l hne items
  · exact Draws.tuple hh it l hne items
theorem begins_seqG (k : Bool) (l : Addr) (items : Array Value) : Begins (.ref l) (itObj k l) fun h => SqH k h l items := by
  cases k
  · exact begins_list l items
  · exact begins_tuple l items
theorem SqH.lt {k : Bool} {h : Heap} {a : Addr} {its : Array Value} (x : SqH k h a its) : a < h.objs.size := by
  cases k
  · obtain ⟨o, e, _⟩ := x
    exact Heap.lt_size e
  · obtain ⟨o, e, _⟩ := x
    exact Heap.lt_size e
/-- what stands at a and b at each turn, the items in new pairs -/
def ItzG (k1 k2 : Bool) (K : PySem.W.Frag) (a b : Addr) : It :=
  ⟨fun i H => ∃ (xs ys : List V) (x y : V), SqG k1 K H a xs ∧ SqG k2 K H b ys ∧ xs[i]? = some x ∧ ys[i]? = some y,
    fun i H v H' => ∃ T x y, v = .ref T ∧ H T = none ∧ H' = upd H T (.tup [x, y]) ∧ (∀ xs, SqG k1 K H a xs → xs[i]? = some x) ∧ ∀ ys, SqG k2 K H b ys → ys[i]? = some y,
    fun i H => ∃ xs ys : List V, SqG k1 K H a xs ∧ SqG k2 K H b ys ∧ i ≤ xs.length ∧ i ≤ ys.length ∧ (i = xs.length ∨ i = ys.length)⟩
structure Apart5 (z TI TO i1 i2 a b : Addr) : Prop where
  d : [z, TI, TO, i1, i2].Nodup
  za : z ≠ a
  zb : z ≠ b
  Ta : TO ≠ a
  Tb : TO ≠ b
  ai : a ≠ i1
  bi : b ≠ i2
  ia : i2 ≠ a
  ib : i1 ≠ b
theorem Apart5.sep {z TI TO i1 i2 a b : Addr} (D : Apart5 z TI TO i1 i2 a b) : ZipSep2 z TI TO i1 i2 [i1, a] [i2, b] := by
  have d := D.d
  simp only [List.nodup_cons, List.mem_cons, List.not_mem_nil, or_false, not_or] at d
  obtain ⟨⟨d1, d2, d3, d4⟩, ⟨d5, d6, d7⟩, ⟨d8, d9⟩, d10, _⟩ := d
  exact ⟨fun e => d1 e.symm, fun e => d2 e.symm, d5, d6, by simp, by simp [d3, D.za], by simp [d8, D.Ta], d7, by simp, by simp [d4, D.zb], by simp [d9, D.Tb], by simp [d10, D.ib], by simp [show ¬ i2 = i1 from fun e => d10 e.symm, D.ia]⟩
theorem turn_zipG {k1 k2 : Bool} {P : Program} {w : World} {K : PySem.W.Frag} {elts : List Expr} {kk : Nat} {tpos : Pos} {a b z TI TO i1 i2 : Addr} (D : Apart5 z TI TO i1 i2 a b) :
    Turn P w K (.Tuple elts kk tpos) (ItzG k1 k2 K a b) [z, TI, TO, i1, i2] z (fun i h => IsZip h z TI TO .none ∧ IsTupOf2 h TI (.ref i1) (.ref i2) ∧ (∃ x y, IsTupOf2 h TO x y) ∧ ItH k1 h i1 a i ∧ ItH k2 h i2 b i) where
  mem := by simp
  obj := fun i h st c hc => by
    obtain ⟨hz, hTI, ⟨x, y, hTO⟩, h1, h2⟩ := st
    simp only [List.mem_cons, List.not_mem_nil, or_false] at hc
    rcases hc with rfl | rfl | rfl | rfl | rfl
    · exact ⟨_, hz, fun v q => nomatch q⟩
    · exact ⟨_, hTI, fun v q => nomatch q⟩
    · exact ⟨_, hTO, fun v q => nomatch q⟩
    · exact h1.obj
    · exact h2.obj
  keep := fun i h h' st k => by
    obtain ⟨hz, hTI, ⟨x, y, hTO⟩, h1, h2⟩ := st
    exact ⟨k z (by simp) _ hz, k TI (by simp) _ hTI, ⟨x, y, k TO (by simp) _ hTO⟩, h1.at fun o q => k i1 (by simp) o q, h2.at fun o q => k i2 (by simp) o q⟩
  item := by
    intro X hP hw hK hc i pins s σ H E I hf st hg
    subst hP hw hK
    obtain ⟨hz, hTI, ⟨x0, y0, hTO⟩, h1, h2⟩ := st
    obtain ⟨xs, ys, x, y, hqx, hqy, hx, hy⟩ := hg
    obtain ⟨its, rv, p⟩ := seqG_of I hqx
    obtain ⟨its2, rv2, p2⟩ := seqG_of I hqy
    obtain ⟨u, hu, ru⟩ := rv.get hx
    obtain ⟨u2, hu2, ru2⟩ := rv2.get hy
    have hh := I.ok.hd hc
    have l1 : i < its.toArray.size := by
      have := (List.getElem?_eq_some_iff.mp hu).1
      simpa using this
    have l2 : i < its2.toArray.size := by
      have := (List.getElem?_eq_some_iff.mp hu2).1
      simpa using this
    have hzl : z < s.heap.objs.size := Heap.lt_size hz
    have d := D.d
    simp only [List.nodup_cons, List.mem_cons, List.not_mem_nil, or_false, not_or] at d
    obtain ⟨⟨d1, d2, d3, d4⟩, ⟨d5, d6, d7⟩, ⟨d8, d9⟩, d10, _⟩ := d
    refine wpAny_pyNext_zipD2_item D.sep (draws_seqG k1 (A := X.A.in1) hh i1 a D.ai its.toArray) (draws_seqG k2 (A := X.A.in1) hh i2 b D.bi its2.toArray) hz hTI hTO ⟨h1, p⟩ ⟨h2, p2⟩ l1 l2 fun u' u2' h' tk e1 e2 z' TO' st1' st2' hT hsz hk => ?_
    obtain rfl : u' = u := by
      have e1 : its.toArray[i]? = some u' := e1
      rw [List.getElem?_toArray, hu] at e1
      cases e1
      rfl
    obtain rfl : u2' = u2 := by
      have e2 : its2.toArray[i]? = some u2' := e2
      rw [List.getElem?_toArray, hu2] at e2
      cases e2
      rfl
    refine ⟨_, rfl, wpAny_letOwnedTupleGo_zip (s := { s with heap := h', toks := tk }) z' fun h'' z'' sb => ?_⟩
    have hT2 : h''.get? s.heap.objs.size = some { cls := .type "tuple", data := .seq #[u', u2'] } := (sb.2 _ (Nat.ne_of_gt hzl)).trans hT
    have new : ObjOk X.prog X.w (upd H s.heap.objs.size (.tup [x, y])) h'' s.heap.objs.size (.tup [x, y]) :=
      ⟨by show 2 ≤ sizeLine; decide, [u', u2'], .cons ru (.cons ru2 .nil), ⟨_, hT2, rfl, _, rfl⟩⟩
    have I1 : Inv X pins σ (upd H s.heap.objs.size (.tup [x, y])) { s with heap := h'', toks := tk } :=
      I.turnedNew (t' := tk) (ch := [z, TI, TO, i1, i2]) (fun c o hb q => (sb.2 c (fun q' => hb (by simp [q']))).trans (hk c o (fun q' => hb (by simp [q'])) (fun q' => hb (by simp [q'])) (fun q' => hb (by simp [q'])) (fun q' => hb (by simp [q'])) q)) hf (Nat.le_refl _) new
    refine ⟨.ref s.heap.objs.size, _, I1, rfl, ⟨_, x, y, rfl, I.hok.fresh (Nat.le_refl _), rfl, fun l hl => by rw [seqG_inj I hl hqx]; exact hx, fun l hl => by rw [seqG_inj I hl hqy]; exact hy⟩, ⟨z'', ?_, ⟨u', u2', ?_⟩, ?_, ?_⟩, fun c hcm => ?_⟩
    · exact (sb.2 _ fun e => d1 e.symm).trans (hk _ _ (fun e => d1 e.symm) d5 d6 d7 hTI)
    · exact (sb.2 _ fun e => d2 e.symm).trans TO'
    · exact st1'.1.at fun o q => (sb.2 _ fun e => d3 e.symm).trans q
    · exact st2'.1.at fun o q => (sb.2 _ fun e => d4 e.symm).trans q
    · have hlt : c < s.heap.objs.size := by
        simp only [List.mem_cons, List.not_mem_nil, or_false] at hcm
        rcases hcm with rfl | rfl | rfl | rfl | rfl
        · exact hzl
        · exact Heap.lt_size hTI
        · exact Heap.lt_size hTO
        · obtain ⟨_, e, _⟩ := h1.obj; exact Heap.lt_size e
        · obtain ⟨_, e, _⟩ := h2.obj; exact Heap.lt_size e
      rw [upd_ne (Nat.ne_of_lt hlt)]
      exact (hf c hcm).1
  done := by
    intro X hP hw hK hc i pins s σ H E I hf st hg
    subst hP hw hK
    obtain ⟨hz, hTI, ⟨x0, y0, hTO⟩, h1, h2⟩ := st
    obtain ⟨xs, ys, hqx, hqy, l1, l2, hend⟩ := hg
    obtain ⟨its, rv, p⟩ := seqG_of I hqx
    obtain ⟨its2, rv2, p2⟩ := seqG_of I hqy
    have hh := I.ok.hd hc
    have e1 : its.toArray.size = xs.length := by rw [List.size_toArray, rv.length]
    have e2 : its2.toArray.size = ys.length := by rw [List.size_toArray, rv2.length]
    refine wpAny_pyNext_zipD2_end D.sep (draws_seqG k1 (A := X.A.in1) hh i1 a D.ai its.toArray) (draws_seqG k2 (A := X.A.in1) hh i2 b D.bi its2.toArray) hz hTI hTO ⟨h1, p⟩ ⟨h2, p2⟩ (by rw [e1]; exact l1) (by rw [e2]; exact l2) (by rw [e1, e2]; exact hend) fun h' tk hk => ⟨rfl, I.turnedL (t' := tk) (ch := [z, TI, TO, i1, i2]) (fun c o hb q =>
      hk c o (fun q' => hb (by simp [q'])) (fun q' => hb (by simp [q'])) (fun q' => hb (by simp [q'])) (fun q' => hb (by simp [q'])) q) hf⟩
  self := fun A i s Q E st h => wpAny_pyIter_zip st.1 h
def iZipG (K : PySem.W.Frag) (ta : TA) : TI := fun σ H R => ta σ H fun vs H1 => ∃ (k1 k2 : Bool) (a b : Addr) (xs ys : List V), vs = [.ref a, .ref b] ∧ SqG k1 K H1 a xs ∧ SqG k2 K H1 b ys ∧ R (ItzG k1 k2 K a b) H1
theorem pi_zipG {X : Cx} {e e2 : Expr} {ta : TA} {p pos tpos : Pos} {elts : List Expr} {kk : Nat} (hg : Gl X "zip") (hm : X.mg "zip" = none) (ha : PA X [e, e2] ta)
    (hs : starEach [e, e2] X.env = (false, eval e X.env) :: starEach [e2] X.env := by rfl) (hpl : (backTo pos (starEach [e2] X.env)).any (·.1) = false := by rfl) :
    PI X (.Tuple elts kk tpos) (.Call (.Name "zip" p) [e, e2] [] pos) (iZipG X.K ta) := by
  refine ⟨fun pins s σ H R I h => ?_⟩
  refine PyProof.Rows.Call_ (ld_blt I hg hm PyProof.Rows.boot_zip (PyProof.Rows.callWith_type1 (thn (ha.run pos pins s σ H _ I h) fun us s1 ⟨vs, H1, I1, r1, q1⟩ => ?_) hs hpl))
  obtain ⟨k1, k2, a, b, xs, ys, ex, hqx, hqy, q⟩ := q1
  subst ex
  cases r1 with
  | cons r rr =>
    cases rr with
    | cons r' rr =>
      cases rr
      cases r
      cases r'
      obtain ⟨its, rv, p1⟩ := seqG_of I1 hqx
      obtain ⟨its2, rv2, p2⟩ := seqG_of I1 hqy
      have up : ∀ {x n k : Nat}, x < n → n + k ≠ x := fun h e => by omega
      have la := p1.lt
      have lb := p2.lt
      refine zip_begins2 (begins_seqG k1 a its.toArray) (begins_seqG k2 b its2.toArray) p1 p2 fun h' hz hTI hTO g1 g2 hsz hk => wpAny_pyIter_zip hz ?_
      have I2 : Inv X pins σ H1 { s1 with heap := h' } := I1.kept (t' := s1.toks) hk
      refine ⟨s1.heap.objs.size + 4, [s1.heap.objs.size + 4, s1.heap.objs.size + 2, s1.heap.objs.size + 3, s1.heap.objs.size, s1.heap.objs.size + 1], _, _, H1, rfl, I2, turn_zipG (k1 := k1) (k2 := k2) (a := a) (b := b) ⟨by simp, up la, up lb, up la, up lb, Nat.ne_of_lt la, (up (k := 1) lb).symm, up la, Nat.ne_of_gt lb⟩, ⟨hz, hTI, ⟨_, _, hTO⟩, .new g1, .new g2⟩, fun c hcm => ?_, q⟩
      have hle : s1.heap.objs.size ≤ c := by
        simp only [List.mem_cons, List.not_mem_nil, or_false] at hcm
        rcases hcm with rfl | rfl | rfl | rfl | rfl <;> omega
      exact I1.fpOk hle (I1.hok.fresh hle)
section
variable {G : Cfg} {X : Cx} [CK G X] {W : WX} {k k1 k2 : Kd} {e a b : Expr} {es : List Expr} {fa fb : DE} {fl : DA} {pos : Pos} {n : Nat} {Γ : Tab} {D : PrgD} {fn : Nat → Option FnI}
theorem SqG.rd {k : Bool} {F H : Hp} {a : Addr} {vs : List V} (h : SqG k X.K F a vs) (s : Same F H) : SqG k X.K H a vs := by
  cases k
  · exact Or.imp (rd_same s) _root_.id h
  · exact Or.imp (rd_same s) _root_.id h
theorem walks_zipG {i1 i2 : Bool} {F : Hp} {a b : Addr} {vs ws : List V} {ds es : List PV} (h : SqG i1 X.K F a vs) (k : Datas G F vs ds) (h2 : SqG i2 X.K F b ws) (k2 : Datas G F ws es) : Walks G (ItzG i1 i2 X.K a b) F (zipP ds es) where
  go := fun i H s hi => by
    rw [zipP_length] at hi
    exact ⟨vs, ws, vs[i]'(by rw [k.length]; omega), ws[i]'(by rw [k2.length]; omega), h.rd s, h2.rd s, by simp, by simp⟩
  stop := fun i H s hi => by
    rw [zipP_length] at hi
    refine ⟨vs, ws, h.rd s, h2.rd s, ?_⟩
    rw [k.length, k2.length]
    omega
  yld := fun i F1 H x H' s1 s2 hi hy => by
    obtain ⟨T, x', y', rfl, nT, rfl, hx, hy⟩ := hy
    have hv := hx vs (h.rd (s1.trans s2))
    have hw := hy ws (h2.rd (s1.trans s2))
    obtain ⟨d, hd, dv⟩ := k.get hv
    obtain ⟨e, he, ev⟩ := k2.get hw
    have g := Grow.laid (o := .tup [x', y']) s2 nT
    exact ⟨_, _, zipP_get hd he, g, .tup (.of upd_same) (.cons (dv.mono (s1.trans g.f)) (.cons (ev.mono (s1.trans g.f)) .nil))⟩
/-- lists and tuples -/
def zipPV (x y : PV) : R (List PV) := match x.seq, y.seq with
  | some ds, some es => .ok (zipP ds es)
  | _, _ => .bad
def dZip (fa fb : DE) : DA := fun ρ => (fa ρ).bind fun x => (fb ρ).bind fun y => zipPV x y
theorem seqG_data {F H : Hp} {v : V} {x : PV} {ds : List PV} (s : Same F H) (d : Data G F v x) (h : x.seq = some ds) : ∃ (k : Bool) (a : Addr) (vs : List V), v = .ref a ∧ SqG k X.K F a vs ∧ Datas G F vs ds := by
  cases d with
  | tup h1 k1 => cases h; exact ⟨true, _, _, rfl, sqTX h1, k1⟩
  | lst h1 k1 => cases h; exact ⟨false, _, _, rfl, .of h1, k1⟩
  | scr h1 k1 => cases h; exact ⟨false, _, _, rfl, sqLX h1, k1⟩
  | _ => cases h
theorem i_zip {p tpos : Pos} {elts : List Expr} {kk : Nat} [c : Prg G X n Γ D fn] (ha : EOk G X W k1 a fa) (hb : EOk G X W k2 b fb) (hg : Gl X "zip") (hk : k1.st = true := by rfl) (hk2 : k2.st = true := by rfl) (hs : starEach [a, b] X.env = (false, eval a X.env) :: starEach [b] X.env := by rfl) (hs2 : starEach [b] X.env = [(false, eval b X.env)] := by rfl) (hpl : (backTo pos (starEach [b] X.env)).any (·.1) = false := by rfl) :
    IOk G X W (.Tuple elts kk tpos) (.Call (.Name "zip" p) [a, b] [] pos) (dZip fa fb) :=
  (pi_zipG hg (c.blt _ (by decide)) (pa_cons (ha.stab hk) (pa_cons (hb.stab hk2) pa_nil hs2) (by rw [hs])) hs hpl).wk fun σ H R' ⟨w, F, ρ, r, q⟩ => by
    refine it_reads r q fun v x F2 H2 g d q' => ?_
    refine it_reads (r.grow g) q' fun u y F3 H3 g3 d3 q3 => ?_
    have d' : Data G F3 v x := Data.mono g3.f d
    have d3 : Data G F3 u y := d3
    unfold zipPV at q3
    cases hx : x.seq with
    | none => rw [hx] at q3; exact q3.elim
    | some ds =>
      cases hy : y.seq with
      | none => rw [hx, hy] at q3; exact q3.elim
      | some es =>
        rw [hx, hy] at q3
        obtain ⟨i1, a1, vs, rfl, s1, e1⟩ := seqG_data (X := X) g3.fh d' hx
        obtain ⟨i2, a2, ws, rfl, s2, e2⟩ := seqG_data (X := X) g3.fh d3 hy
        exact ⟨i1, i2, a1, a2, vs, ws, rfl, s1.rd g3.fh, s2.rd g3.fh, q3 _ F3 H3 (.refl g3.fh) (walks_zipG s1 e1 s2 e2)⟩
end
end PP

/-! PPStmt: statements. -/
namespace PP
open PySem PySem.Spec L2

section
variable {G : Cfg} {X : Cx} [CK G X] {W : WX} {k k1 k2 k3 : Kd} {e a b c : Expr} {es : List Expr} {f fa fb fc : DE} {fl : DA} {pos : Pos} {st : Stmt} {rest body : List Stmt} {s t : DS} {w : Wd} {F F' H H' : Hp} {D : Ends}
theorem SRes.from {o : Out} (g : Same F F') (h : SRes G W w F D o) : SRes G W w F' D o := by
  cases o with
  | nx ρ => exact fun σ' F2 H2 g2 r => h σ' F2 H2 (g.trans g2) r
  | bk ρ => exact fun σ' F2 H2 g2 r => h σ' F2 H2 (g.trans g2) r
  | ct ρ => exact fun σ' F2 H2 g2 r => h σ' F2 H2 (g.trans g2) r
  | rt d => exact h
  | ro d => exact h
  | ex c fs ρ => exact fun cls dd σ' F2 H2 g2 r x => h cls dd σ' F2 H2 (g.trans g2) r x
  | bad => exact h
def sNx : DS := fun ρ => .nx ρ
def sSeq (s t : DS) : DS := fun ρ => match s ρ with
  | .nx ρ1 => t ρ1
  | o => o
theorem nx_reads {D : Ends} {σ : L2.St} {ρ : PEnv} (r : Rel G w F H ρ σ) (q : SRes G W w F D (.nx ρ)) : D.nx σ H := q σ F H (.refl _) r
theorem ss_nil : SsOk G X W [] sNx := pss_nil.wk fun D σ H ⟨w, F, ρ, r, q⟩ => nx_reads r q
theorem ss_cons (h1 : SOk G X W st s) (h2 : SsOk G X W rest t) : SsOk G X W (st :: rest) (sSeq s t) :=
  (pss_cons h1 h2).wk fun D σ H ⟨w, F, ρ, r, q⟩ => by
    refine ⟨w, F, ρ, r, ?_⟩
    unfold sSeq at q
    cases hs : s ρ with
    | nx ρ1 =>
      rw [hs] at q
      exact fun σ' F' H' g r' => ⟨w, F', ρ1, r', SRes.from g q⟩
    | bk ρ1 => rw [hs] at q; exact q
    | ct ρ1 => rw [hs] at q; exact q
    | rt d => rw [hs] at q; exact q
    | ro d => rw [hs] at q; exact q
    | ex c fs ρ1 => rw [hs] at q; exact q
    | bad => rw [hs] at q; exact q
theorem ss_one (h1 : SOk G X W st s) : SsOk G X W [st] s := pss_one h1
/-- own lists that become plain values -/
def frz : List Nat → PEnv → PEnv
  | [], ρ => ρ
  | i :: is, ρ => frz is (match ρ[i]? with
    | some (.ow d) => ρ.set i (.fr d)
    | _ => ρ)
theorem Rel.frz {σ : L2.St} : ∀ (is : List Nat) {F : Hp} {ρ : PEnv}, Rel G w F H ρ σ → ∃ F', Same F F' ∧ Rel G w F' H (frz is ρ) σ
  | [], F, _, r => ⟨F, .refl _, r⟩
  | i :: is, F, ρ, r => by
    unfold PP.frz
    cases h : ρ[i]? with
    | none => exact Rel.frz is r
    | some sl =>
      cases sl with
      | ow d =>
        obtain ⟨F1, s1, r1⟩ := r.freeze h
        obtain ⟨F2, s2, r2⟩ := Rel.frz is r1
        exact ⟨F2, s1.trans s2, r2⟩
      | _ => exact Rel.frz is r
def sFrz (is : List Nat) (s : DS) : DS := fun ρ => s (frz is ρ)
theorem s_frz (is : List Nat) (h : SOk G X W st s) : SOk G X W st (sFrz is s) :=
  PS.wk h fun D σ H ⟨w, F, ρ, r, q⟩ => by
    obtain ⟨F', s', r'⟩ := r.frz is
    exact ⟨w, F', _, r', SRes.from s' q⟩
/-- behind it, a name's list becomes a plain value -/
def sThF (i : Nat) (s : DS) : DS := fun ρ => match s ρ with
  | .nx ρ1 => .nx (frz [i] ρ1)
  | o => o
theorem s_thF (i : Nat) (h : SOk G X W st s) : SOk G X W st (sThF i s) :=
  PS.wk h fun D σ H ⟨w, F, ρ, r, q⟩ => ⟨w, F, ρ, r, by
    unfold sThF at q
    cases hs : s ρ with
    | nx ρ1 =>
      rw [hs] at q
      intro σ' F' H' g r'
      obtain ⟨F2, g2, r2⟩ := r'.frz [i]
      exact q σ' F2 H' (g.trans g2) r2
    | bk ρ1 => rw [hs] at q; exact q
    | ct ρ1 => rw [hs] at q; exact q
    | rt d => rw [hs] at q; exact q
    | ro d => rw [hs] at q; exact q
    | ex c fs ρ1 => rw [hs] at q; exact q
    | bad => rw [hs] at q; exact q⟩
def exo (ρ : PEnv) {α : Type} (x : R α) (f : α → Out) : Out := match x with
  | .ok d => f d
  | .ex c fs => .ex c fs ρ
  | .bad => .bad
theorem ARes.exo {x : R PV} {g : PV → Out} {D : Ends} {σ : L2.St} {ρ : PEnv} {Q : VK} (r : Rel G w F H ρ σ) (q : SRes G W w F D (exo ρ x g)) (h : ∀ d v F' H', x = .ok d → Grow F H F' H' → DataX G k H F' H' v d → SRes G W w F' D (g d) → Q v H') : ARes G W k F H σ Q x := by
  cases x with
  | ok d => exact fun v F' H' gr dx => h d v F' H' rfl gr dx (SRes.from gr.f q)
  | ex c fs => exact fun cls dd F' H' gr x => q cls dd σ F' H' gr.f (r.grow gr) x
  | bad => exact q
theorem BRes.exo {x : R Bool} {g : Bool → Out} {D : Ends} {σ : L2.St} {ρ : PEnv} {Q : Bool → Hp → Prop} (r : Rel G w F H ρ σ) (q : SRes G W w F D (exo ρ x g)) (h : ∀ d F' H', x = .ok d → Grow F H F' H' → SRes G W w F' D (g d) → Q d H') : BRes G W F H σ Q x := by
  cases x with
  | ok d => exact fun F' H' gr => h d F' H' rfl gr (SRes.from gr.f q)
  | ex c fs => exact fun cls dd F' H' gr x => q cls dd σ F' H' gr.f (r.grow gr) x
  | bad => exact q
/-- return e -/
def sRet (f : DE) : DS := fun ρ => exo ρ (f ρ) .rt
theorem s_ret (h : EOk G X W k e f) (hk : k.st = true := by rfl) : SOk G X W (.Return (some e) pos) (sRet f) :=
  (ps_ret (h.stab hk)).wk fun D σ H ⟨w, F, ρ, r, q⟩ => ⟨w, F, ρ, r, ARes.exo r q fun d v F' H' _ g x q' => q' v F' H' (r.base.grow g) x⟩
/-- return name: the def's own list, handed out -/
def sRetO (i : Nat) : DS := fun ρ => match ρ[i]? with
  | some (.ow d) => .ro d
  | _ => .bad
theorem s_retO {i : Nat} {x : Str} {p1 : Pos} (hi : X.N[i]? = some x) (hv : Vis X.env.scope x) (hd : (x == ("__debug__" : Str)) = false := by decide) (hcd : (x == ("__classdict__" : Str)) = false := by decide) : SOk G X W (.Return (some (.Name x p1)) pos) (sRetO i) :=
  (ps_ret (pe_var hi hv hd hcd)).wk fun D σ H ⟨w, F, ρ, r, q⟩ => by
    unfold sRetO at q
    cases h : ρ[i]? with
    | none => rw [h] at q; exact q.elim
    | some sl =>
      rw [h] at q
      cases sl with
      | ow d =>
        obtain ⟨v, hv', a, rfl, nf, n0, ho⟩ := r.ok i _ h
        exact ⟨.ref a, hv', q (.ref a) F H r.base ⟨a, rfl, n0, nf, ho⟩⟩
      | _ => exact q.elim
/-- return e, e a new list -/
def sRetX (f : DE) : DS := fun ρ => exo ρ (f ρ) .ro
theorem s_retX (h : EOk G X W .n e f) : SOk G X W (.Return (some e) pos) (sRetX f) :=
  (ps_ret h).wk fun D σ H ⟨w, F, ρ, r, q⟩ => ⟨w, F, ρ, r, by
    unfold sRetX at q
    cases hf : f ρ with
    | ok d =>
      rw [hf] at q
      rintro v F' H' gr ⟨a, rfl, n0, nf, ho⟩
      exact q (.ref a) F' H' (r.grow gr).base ⟨a, rfl, r.base.free n0, nf, ho⟩
    | ex c fs => rw [hf] at q; exact fun cls dd F' H' gr x => q cls dd σ F' H' gr.f (r.grow gr) x
    | bad => rw [hf] at q; exact q⟩
def sRetN : DS := fun _ => .rt .non
theorem s_retN : SOk G X W (.Return none pos) sRetN :=
  ps_retN.wk fun D σ H ⟨w, F, ρ, r, q⟩ => q .non F H r.base .non
/-- e -/
def sDrop (f : DE) : DS := fun ρ => exo ρ (f ρ) fun _ => .nx ρ
theorem s_expr (h : EOk G X W k e f) (hs : swapsWith e none pos.line X.env = pure false := by rfl) : SOk G X W (.Expr e pos) (sDrop f) :=
  (ps_expr h hs).wk fun D σ H ⟨w, F, ρ, r, q⟩ => ⟨w, F, ρ, r, ARes.exo r q fun d v F' H' _ g x q' => nx_reads (r.grow g) q'⟩
theorem s_doc {x : Str} {j pos'} : SOk G X W (.Expr (.Constant (.str x) j pos) pos') sNx := ps_doc.wk fun D σ H ⟨w, F, ρ, r, q⟩ => nx_reads r q
theorem s_pass : SOk G X W (.Pass pos) sNx := ps_pass.wk fun D σ H ⟨w, F, ρ, r, q⟩ => nx_reads r q
def sBrk : DS := fun ρ => .bk ρ
theorem s_break : SOk G X W (.Break pos) sBrk := ps_break.wk fun D σ H ⟨w, F, ρ, r, q⟩ => q σ F H (.refl _) r
def sCnt : DS := fun ρ => .ct ρ
theorem s_cont : SOk G X W (.Continue pos) sCnt := ps_continue.wk fun D σ H ⟨w, F, ρ, r, q⟩ => q σ F H (.refl _) r
def sBad : DS := fun _ => .bad
theorem pss_bad {sts : List Stmt} : SsOk G X W sts (fun _ => .bad) := pss_never.wk fun D σ H ⟨w, F, ρ, r, q⟩ => q
theorem s_never : SOk G X W st sBad := ps_never.wk fun D σ H ⟨w, F, ρ, r, q⟩ => q
/-- if -/
def sIf (c : DT) (s t : DS) : DS := fun ρ => exo ρ (c ρ) fun b => match b with
  | true => s ρ
  | false => t ρ
theorem s_if {tc : DT} {a b : List Stmt} (hc : TOk G X W c tc) (ha : SsOk G X W a s) (hb : SsOk G X W b t) : SOk G X W (.If c a b pos) (sIf tc s t) :=
  (ps_if hc ha hb).wk fun D σ H ⟨w, F, ρ, r, q⟩ => ⟨w, F, ρ, r, BRes.exo r q fun d F' H' _ g q' => by
    cases d with
    | true => rw [if_pos rfl]; exact ⟨w, F', ρ, r.grow g, q'⟩
    | false => rw [if_neg Bool.false_ne_true]; exact ⟨w, F', ρ, r.grow g, q'⟩⟩
/-- name = e -/
def sAsg (i : Nat) (f : DE) : DS := fun ρ => exo ρ (f ρ) fun d => .nx (ρ.set i (.fr d))
theorem s_set {i : Nat} {x : Str} {pos' : Pos} (hN : X.N.Nodup) (hi : X.N[i]? = some x) (hx : Loc X.env.scope x) (he : EOk G X W k e f) (hk : k.st = true := by rfl) (hs : swapsWith e (some (.Name x pos')) pos.line X.env = pure false := by rfl) (hf : X.fn x = true ∨ X.env.scope.names.lookup x = some .local := by first | exact .inl rfl | exact .inr rfl | assumption) :
    SOk G X W (.Assign [.Name x pos'] e pos) (sAsg i f) :=
  (ps_set hN hi hx (he.stab hk) hs hf).wk fun D σ H ⟨w, F, ρ, r, q⟩ => ⟨w, F, ρ, r, ARes.exo r q fun d v F' H' _ g x q' => nx_reads ((r.grow g).put x) q'⟩
/-- name = e, e a new list: the name's own -/
def sAsgO (i : Nat) (f : DE) : DS := fun ρ => exo ρ (f ρ) fun d => .nx (ρ.set i (.ow d))
theorem Rel.putN {σ : L2.St} {ρ : PEnv} {i : Nat} {v : V} {d : PV} (r : Rel G w F H ρ σ) (g : Grow F H F' H') (x : DataX G .n H F' H' v d) : Rel G w F' H' (ρ.set i (.ow d)) (σ.set i (some v)) := by
  obtain ⟨a, rfl, n, nf, o⟩ := x
  exact (r.grow g).putO nf (r.base.free n) o fun j dj _ hj => r.fresh n j dj hj
theorem s_setO {i : Nat} {x : Str} {pos' : Pos} (hN : X.N.Nodup) (hi : X.N[i]? = some x) (hx : Loc X.env.scope x) (he : EOk G X W .n e f) (hs : swapsWith e (some (.Name x pos')) pos.line X.env = pure false := by rfl) (hf : X.fn x = true ∨ X.env.scope.names.lookup x = some .local := by first | exact .inl rfl | exact .inr rfl | assumption) :
    SOk G X W (.Assign [.Name x pos'] e pos) (sAsgO i f) :=
  (ps_set hN hi hx he hs hf).wk fun D σ H ⟨w, F, ρ, r, q⟩ => ⟨w, F, ρ, r, ARes.exo r q fun d v F' H' _ g x q' => nx_reads (r.putN g x) q'⟩
/-- name = [..] -/
theorem s_setLcO {i : Nat} {y : Str} {py : Pos} {elt tg iter : Expr} {ifs : List Expr} {scope : Scope} {own : List (Str × Nat)} {spos : Pos} {it : DA} {ts : List Nat} {g : DG} {tt : DT} {te : DE} (hc : X.calm = true) (hN : X.N.Nodup) (hy : X.N[i]? = some y) (hyl : X.env.scope.names.lookup y = some .local)
    (hkind : X.env.scope.kind = .function) (hl : (py.line == pos.line) = true) (hna : (scope.names.any fun (n, k) => n == y && (k == .local || k == .cell)) = false)
    (hi : IOk G X W tg iter it) (ok : BlkOk X.N X.env.scope scope own)
    (hg : ∀ (s : Shared) (H : Hp) (C : Addr) (cl : List (Str × Addr)) (fp : List Addr), GOk G (X.blk s H scope (compEnvC scope cl C X.env) fp) ts tg g) (ht : ∀ (s : Shared) (H : Hp) (C : Addr) (cl : List (Str × Addr)) (fp : List Addr), TsOk G (X.blk s H scope (compEnvC scope cl C X.env) fp) W0 ifs tt)
    (he : ∀ (s : Shared) (H : Hp) (C : Addr) (cl : List (Str × Addr)) (fp : List Addr), EOk G (X.blk s H scope (compEnvC scope cl C X.env) fp) W0 k elt te) (hk : k.st = true := by rfl) (hts : ∀ i ∈ ts, i ∈ own.map (·.2) := by decide)
    (hs : ∀ x, foldedSetIterable iter X.env x = pure x := by intro _; rfl) : SOk G X W (.Assign [.Name y py] (.ListComp elt [⟨tg, iter, ifs, 0⟩] scope pos) spos) (sAsgO i (dLc it g tt te (own.map (·.2)))) :=
  (ps_setLc hc hN hy hyl (sw_true hkind hyl hl hna) hi ok hg ht he hs).wk fun D σ H ⟨w, F, ρ, r, q⟩ => lc_reads (W := W) r hk hts (ARes.exo r q fun d v F' H' _ g x q' => nx_reads (r.putN g x) q')
/-- targets = e -/
def sAsgG (f : DE) (g : DG) : DS := fun ρ => exo ρ (f ρ) fun d => match g d ρ with
  | .ok ρ' => .nx ρ'
  | _ => .bad
theorem s_asg {tg : Expr} {ts : List Nat} {g : DG} (he : EOk G X W k e f) (hg : GOk G X ts tg g) (hk : k.st = true := by rfl) (hs : swapsWithSole [tg] e pos.line X.env = pure false := by rfl) (hw : swappedStores [tg] e X.env = pure none := by rfl)
    (h1 : (assignEach [tg] X.env).map (·.2) = [assign tg X.env] := by rfl) : SOk G X W (.Assign [tg] e pos) (sAsgG f g) :=
  (ps_asg (he.stab hk) hg hs hw h1).wk fun D σ H ⟨w, F, ρ, r, q⟩ => ⟨w, F, ρ, r, ARes.exo r q fun d v F' H' _ gr x q' => by
    refine ⟨w, F', ρ, d, r.grow gr, x, ?_⟩
    cases hgd : g d ρ with
    | ok ρ' => rw [hgd] at q'; exact fun σ' r' _ => nx_reads r' q'
    | ex c fs => rw [hgd] at q'; exact q'.elim
    | bad => rw [hgd] at q'; exact q'.elim⟩
/-- a, b = x, y -/
def sPar (i j : Nat) (fl : DA) : DS := fun ρ => exo ρ (fl ρ) fun ds => match ds with
  | [x, y] => .nx ((ρ.set i (.fr x)).set j (.fr y))
  | _ => .bad
theorem s_par {i j : Nat} {x y : Str} {px py pt : Pos} {kt k2' pt2} (hc : X.calm = true) (hN : X.N.Nodup) (hi : X.N[i]? = some x) (hj : X.N[j]? = some y) (hij : i ≠ j)
    (hx : X.env.scope.names.lookup x = some .local) (hy : X.env.scope.names.lookup y = some .local) (ha : AOk G X W true [a, b] fl)
    (hw : swappedStores [.Tuple [.Name x px, .Name y py] kt pt] (.Tuple [a, b] k2' pt2) X.env = pure (some [x, y]))
    (hs : swapsWithSole [.Tuple [.Name x px, .Name y py] kt pt] (.Tuple [a, b] k2' pt2) pos.line X.env = pure false := by rfl) :
    SOk G X W (.Assign [.Tuple [.Name x px, .Name y py] kt pt] (.Tuple [a, b] k2' pt2) pos) (sPar i j fl) :=
  (ps_par hc hN hi hj hij hx hy ha hw hs).wk fun D σ H ⟨w, F, ρ, r, q⟩ => by
    refine ⟨w, F, ρ, r, ?_⟩
    unfold sPar at q
    cases h : fl ρ with
    | bad => rw [h] at q; exact q
    | ex c fs => rw [h] at q; exact fun cls dd F' H' gr x => q cls dd σ F' H' gr.f (r.grow gr) x
    | ok ds =>
      rw [h] at q
      intro vs F' H' gr dx
      replace q := SRes.from gr.f q
      have dx : Datas G F' vs ds := dx
      cases dx with
      | nil => exact q.elim
      | cons h1 t1 =>
        cases t1 with
        | nil => exact q.elim
        | cons h2 t2 =>
          cases t2 with
          | nil => exact ⟨_, _, rfl, nx_reads (((r.grow gr).put h1).put h2) q⟩
          | cons _ _ => exact q.elim
/-- name op= e -/
def sAug (i : Nat) (g : PV → PV → R PV) (f : DE) : DS := fun ρ => match ρ[i]? with
  | some (.fr x) => exo ρ (f ρ) fun y => exo ρ (g x y) fun d => .nx (ρ.set i (.fr d))
  | _ => .bad
theorem s_aug {i : Nat} {x : Str} {op : Operator} {g : PV → PV → R PV} {pos' : Pos} (hN : X.N.Nodup) (hi : X.N[i]? = some x) (hx : Loc X.env.scope x) (he : EOk G X W k e f) (ho : BinOk G X k2 (inplaceOp op) g) (hk : k2.st = true := by rfl) (hf : X.fn x = true ∨ X.env.scope.names.lookup x = some .local := by first | exact .inl rfl | exact .inr rfl | assumption) :
    SOk G X W (.AugAssign (.Name x pos') op e pos) (sAug i g f) := by
  obtain ⟨rr, h1, h2⟩ := ho.ex
  refine (ps_aug (ti := rr) hN hi hx he h1 hf).wk fun D σ H ⟨w, F, ρ, r, q⟩ => ?_
  unfold sAug at q
  cases hx : ρ[i]? with
  | none => rw [hx] at q; exact q.elim
  | some sl =>
    rw [hx] at q
    cases sl with
    | fr d0 =>
      obtain ⟨v, hv, dv⟩ := r.fr hx
      refine ⟨v, hv, w, F, ρ, r, ARes.exo r q fun y u F' H' _ gr dx q' => ?_⟩
      cases hg : g d0 y with
      | ok d =>
        rw [hg] at q'
        refine h2 F' H' v u d0 y _ d gr.fh (.inl (dv.mono gr.f)) dx.toB hg fun v' F2 H2 g2 dx2 => ?_
        obtain ⟨F3, g3, dx3⟩ := dx2.stable hk g2
        exact nx_reads ((r.grow (gr.trans g3)).put dx3) (SRes.from g3.f q')
      | ex c fs => exact absurd hg (ho.ok _ _ _ _)
      | bad => rw [hg] at q'; exact q'.elim
    | _ => exact q.elim
def oAddI : PV → PV → R PV := oI (fun _ _ => true) fun i j => .int (i + j)
theorem b_iadd : BinOk G X .s (inplaceOp .Add) oAddI := bin_int0 iop_add fun _ _ _ => .int _
theorem b_isub : BinOk G X .s (inplaceOp .Sub) oSub := bin_int0 iop_sub fun _ _ _ => .int _
theorem b_ior : BinOk G X .s (inplaceOp .BitOr) oOr := bin_int0 iop_or fun _ _ _ => .int _
theorem b_iand : BinOk G X .s (inplaceOp .BitAnd) oAnd := bin_int0 iop_and fun _ _ _ => .int _
theorem b_ixor : BinOk G X .s (inplaceOp .BitXor) oXor := bin_int0 iop_xor fun _ _ _ => .int _

/-! ### own lists: x[i] = e, x.append(e), x.pop(), x.extend(ys) -/
theorem Rel.own {σ : L2.St} {ρ : PEnv} {i : Nat} {ds : List PV} (r : Rel G w F H ρ σ) (e : ρ[i]? = some (.ow (.lst ds))) : ∃ a vs, σ[i]? = some (some (.ref a)) ∧ F a = none ∧ H a = some (.lst vs) ∧ Datas G F vs ds := by
  obtain ⟨v, h1, a, rfl, nf, _, vs, ha, k⟩ := r.ok i _ e
  exact ⟨a, vs, h1, nf, ha, k⟩
def sSetI (i : Nat) (fi f : DE) : DS := fun ρ => exo ρ (f ρ) fun d => match ρ[i]? with
  | some (.ow (.lst ds)) => exo ρ (fi ρ) fun j => match j with
    | .int z => match ixN ds.length z with
      | some n => .nx (ρ.set i (.ow (.lst (ds.set n d))))
      | none => .bad
    | _ => .bad
  | _ => .bad
theorem s_setI {i : Nat} {x : Str} {ie : Expr} {fi : DE} {p1 p2 : Pos} (hi : X.N[i]? = some x) (hv : Vis X.env.scope x) (he : EOk G X W k e f) (hie : EOk G X W k2 ie fi) (hk : k.st = true := by rfl) (hd : (x == ("__debug__" : Str)) = false := by decide) (hcd : (x == ("__classdict__" : Str)) = false := by decide)
    (ha : ∀ v, assign (.Subscript (.Name x p1) ie p2) X.env v = (do
      let ov ← holding [v] (eval (.Name x p1) X.env)
      let iv ← holding [v, ov] (eval ie X.env)
      standAt p2
      holding [v, ov, iv] (setItem ov iv v)
      release [v, ov, iv] []) := by intro _; rfl)
    (hs : swapsWithSole [.Subscript (.Name x p1) ie p2] e pos.line X.env = pure false := by rfl) (hw : swappedStores [.Subscript (.Name x p1) ie p2] e X.env = pure none := by rfl)
    (h1 : (assignEach [.Subscript (.Name x p1) ie p2] X.env).map (·.2) = [assign (.Subscript (.Name x p1) ie p2) X.env] := by rfl) : SOk G X W (.Assign [.Subscript (.Name x p1) ie p2] e pos) (sSetI i fi f) :=
  (ps_asg (he.stab hk) (pg_sub (pe_var hi hv hd hcd) hie set_list ha) hs hw h1).wk fun D σ H ⟨w, F, ρ, r, q⟩ => ⟨w, F, ρ, r, ARes.exo r q fun d v F' H' _ gr dx q' => by
    cases hx : ρ[i]? with
    | none => rw [hx] at q'; exact q'.elim
    | some sl =>
      rw [hx] at q'
      cases sl with
      | ow dl =>
        cases dl with
        | lst ds =>
          have r1 := r.grow gr
          obtain ⟨a, vs, e1, _, _, _⟩ := r1.own hx
          refine ⟨.ref a, e1, w, F', ρ, r1, ARes.exo r1 q' fun j u F2 H2 _ g2 dj q2 => ?_⟩
          have r2 := r1.grow g2
          obtain ⟨a', vs', e1', nf, ea, kk⟩ := r2.own hx
          rw [e1] at e1'
          cases e1'
          cases j with
          | int z =>
            have eu : u = .int z := dj.toB.int
            simp only at q2
            cases hn : ixN ds.length z with
            | none => rw [hn] at q2; exact q2.elim
            | some n =>
              rw [hn] at q2
              refine ⟨a, vs', z, n, rfl, eu, ea, by rw [kk.length]; exact hn, ?_⟩
              exact nx_reads (r2.change (d' := .lst _) hx e1 ⟨_, upd_same, kk.set (Data.mono g2.f dx) n⟩) q2
          | _ => exact q2.elim
        | _ => exact q'.elim
      | _ => exact q'.elim⟩
def sApp (i : Nat) (f : DE) : DS := fun ρ => match ρ[i]? with
  | some (.ow (.lst ds)) => exo ρ (f ρ) fun d => if ds.length < cap then .nx (ρ.set i (.ow (.lst (ds ++ [d])))) else .bad
  | _ => .bad
theorem s_app {i : Nat} {x : Str} {p1 p2 p3 : Pos} (hi : X.N[i]? = some x) (hv : Vis X.env.scope x) (he : EOk G X W k e f) (hk : k.st = true := by rfl) (hd : (x == ("__debug__" : Str)) = false := by decide) (hcd : (x == ("__classdict__" : Str)) = false := by decide)
    (hbase : attributeBase (.Name x p1) "append" X.env (eval (.Name x p1) X.env) = eval (.Name x p1) X.env := by rfl)
    (hfew : ((backTo p3 (starEach [e] X.env)).all (fun x => !x.1) && (backToKw p3 (keywordEach [] X.env)).all (fun x => x.1.isSome)
      && decide ([e].length + ([] : List Keyword).length + (if ([] : List Keyword).isEmpty then 0 else 1) < 30)) = true := by rfl)
    (hline : (p2.endLine == p3.line) = true := by rfl) (hst : starEach [e] X.env = (false, eval e X.env) :: starEach [] X.env := by rfl) (hplain : (backTo p3 (starEach [] X.env)).any (·.1) = false := by rfl)
    (hs : swapsWith (.Call (.Attribute (.Name x p1) "append" p2) [e] [] p3) none pos.line X.env = pure false := by rfl) : SOk G X W (.Expr (.Call (.Attribute (.Name x p1) "append" p2) [e] [] p3) pos) (sApp i f) :=
  (ps_expr (pe_bm PySem.F.plainAttrs_list PySem.F.slot_list_append PySem.F.type_list_append mt_append (pe_var hi hv hd hcd) (pa_cons (he.stab hk) pa_nil hst) hbase hfew hline hst hplain) hs).wk fun D σ H ⟨w, F, ρ, r, q⟩ => by
    unfold sApp at q
    cases hx : ρ[i]? with
    | none => rw [hx] at q; exact q.elim
    | some sl =>
      rw [hx] at q
      cases sl with
      | ow dl =>
        cases dl with
        | lst ds =>
          obtain ⟨a, vs, e1, _, ea, _⟩ := r.own hx
          refine ⟨.ref a, e1, .inl ⟨rfl, vs, .of ea⟩, w, F, ρ, r, ARes.exo r q fun d v F' H' _ gr dx q' => ?_⟩
          have r1 := r.grow gr
          obtain ⟨a', vs', e1', nf, ea', kk⟩ := r1.own hx
          rw [e1] at e1'
          cases e1'
          by_cases hc : ds.length < cap
          · rw [if_pos hc] at q'
            refine ⟨a, vs', v, rfl, rfl, ea', by rw [kk.length]; exact Nat.lt_of_lt_of_eq hc cap_eq, ?_⟩
            exact nx_reads (r1.change (d' := .lst _) hx e1 ⟨_, upd_same, kk.snoc dx⟩) q'
          · rw [if_neg hc] at q'; exact q'.elim
        | _ => exact q.elim
      | _ => exact q.elim
/-- x.extend(ys) -/
def sExt (i : Nat) (f : DE) : DS := fun ρ => match ρ[i]? with
  | some (.ow (.lst ds)) => exo ρ (f ρ) fun d => match d with
    | .lst es => if ds.length + es.length ≤ cap then .nx (ρ.set i (.ow (.lst (ds ++ es)))) else .bad
    | _ => .bad
  | _ => .bad
theorem s_ext {i : Nat} {x : Str} {p1 p2 p3 : Pos} (hi : X.N[i]? = some x) (hv : Vis X.env.scope x) (he : EOk G X W k e f) (hk : k.st = true := by rfl) (hd : (x == ("__debug__" : Str)) = false := by decide) (hcd : (x == ("__classdict__" : Str)) = false := by decide)
    (hbase : attributeBase (.Name x p1) "extend" X.env (eval (.Name x p1) X.env) = eval (.Name x p1) X.env := by rfl)
    (hfew : ((backTo p3 (starEach [e] X.env)).all (fun x => !x.1) && (backToKw p3 (keywordEach [] X.env)).all (fun x => x.1.isSome)
      && decide ([e].length + ([] : List Keyword).length + (if ([] : List Keyword).isEmpty then 0 else 1) < 30)) = true := by rfl)
    (hline : (p2.endLine == p3.line) = true := by rfl) (hst : starEach [e] X.env = (false, eval e X.env) :: starEach [] X.env := by rfl) (hplain : (backTo p3 (starEach [] X.env)).any (·.1) = false := by rfl)
    (hs : swapsWith (.Call (.Attribute (.Name x p1) "extend" p2) [e] [] p3) none pos.line X.env = pure false := by rfl) : SOk G X W (.Expr (.Call (.Attribute (.Name x p1) "extend" p2) [e] [] p3) pos) (sExt i f) :=
  (ps_expr (pe_bm PySem.F.plainAttrs_list PySem.F.slot_list_extend PySem.F.type_list_extend mt_extend (pe_var hi hv hd hcd) (pa_cons (he.stab hk) pa_nil hst) hbase hfew hline hst hplain) hs).wk fun D σ H ⟨w, F, ρ, r, q⟩ => by
    unfold sExt at q
    cases hx : ρ[i]? with
    | none => rw [hx] at q; exact q.elim
    | some sl =>
      rw [hx] at q
      cases sl with
      | ow dl =>
        cases dl with
        | lst ds =>
          obtain ⟨a, vs, e1, _, ea, _⟩ := r.own hx
          refine ⟨.ref a, e1, .inl ⟨rfl, vs, .of ea⟩, w, F, ρ, r, ARes.exo r q fun d v F' H' _ gr dx q' => ?_⟩
          have r1 := r.grow gr
          obtain ⟨a', vs', e1', nf, ea', kk⟩ := r1.own hx
          rw [e1] at e1'
          cases e1'
          cases d with
          | lst es =>
            have dx : Data G F' v (.lst es) := dx
            cases dx with
            | @lst b zs _ hb kb =>
              simp only at q'
              by_cases hc : ds.length + es.length ≤ cap
              · rw [if_pos hc] at q'
                refine ⟨a, b, vs', zs, rfl, rfl, ea', gr.fh _ _ hb, by rw [kk.length, kb.length]; exact Nat.le_trans hc (Nat.le_of_eq cap_eq), ?_⟩
                exact nx_reads (r1.change (d' := .lst _) hx e1 ⟨_, upd_same, kk.append kb⟩) q'
              · rw [if_neg hc] at q'; exact q'.elim
          | _ => exact q'.elim
        | _ => exact q.elim
      | _ => exact q.elim
/-- y = x.pop() -/
def sPopTo (j : Option Nat) (i : Nat) : DS := fun ρ => match ρ[i]? with
  | some (.ow (.lst ds)) => match ds[ds.length - 1]? with
    | some d => match j with
      | some j => if i = j then .bad else .nx ((ρ.set i (.ow (.lst ds.dropLast))).set j (.fr d))
      | none => .nx (ρ.set i (.ow (.lst ds.dropLast)))
    | none => .bad
  | _ => .bad
theorem s_popTo {i j : Nat} {x y : Str} {p1 p2 p3 p4 : Pos} (hN : X.N.Nodup) (hj : X.N[j]? = some y) (hy : Loc X.env.scope y) (hi : X.N[i]? = some x) (hv : Vis X.env.scope x) (hd : (x == ("__debug__" : Str)) = false := by decide) (hcd : (x == ("__classdict__" : Str)) = false := by decide)
    (hbase : attributeBase (.Name x p1) "pop" X.env (eval (.Name x p1) X.env) = eval (.Name x p1) X.env := by rfl) (hline : (p2.endLine == p3.line) = true := by rfl)
    (hs : swapsWith (.Call (.Attribute (.Name x p1) "pop" p2) [] [] p3) (some (.Name y p4)) pos.line X.env = pure false := by rfl) (hf : X.fn y = true ∨ X.env.scope.names.lookup y = some .local := by first | exact .inl rfl | exact .inr rfl | assumption) :
    SOk G X W (.Assign [.Name y p4] (.Call (.Attribute (.Name x p1) "pop" p2) [] [] p3) pos) (sPopTo (some j) i) :=
  (ps_set hN hj hy (pe_bm0 PySem.F.plainAttrs_list PySem.F.slot_list_pop PySem.F.type_list_pop mt_pop (pe_var hi hv hd hcd) hbase hline) hs hf).wk fun D σ H ⟨w, F, ρ, r, q⟩ => by
    unfold sPopTo at q
    cases hx : ρ[i]? with
    | none => rw [hx] at q; exact q.elim
    | some sl =>
      rw [hx] at q
      cases sl with
      | ow dl =>
        cases dl with
        | lst ds =>
          obtain ⟨a, vs, e1, nf, ea, kk⟩ := r.own hx
          simp only at q
          cases hd : ds[ds.length - 1]? with
          | none => rw [hd] at q; exact q.elim
          | some d =>
            rw [hd] at q
            simp only at q
            by_cases hij : i = j
            · rw [if_pos hij] at q; exact q.elim
            · rw [if_neg hij] at q
              obtain ⟨v, hv', dv⟩ := kk.get' hd
              refine ⟨.ref a, e1, .inl ⟨rfl, vs, .of ea⟩, a, vs, v, rfl, rfl, ea, by rw [kk.length]; exact hv', ?_⟩
              exact nx_reads ((r.change (d' := .lst _) hx e1 ⟨_, upd_same, kk.dropLast⟩).put dv) q
        | _ => exact q.elim
      | _ => exact q.elim
theorem s_pop {i : Nat} {x : Str} {p1 p2 p3 : Pos} (hi : X.N[i]? = some x) (hv : Vis X.env.scope x) (hd : (x == ("__debug__" : Str)) = false := by decide) (hcd : (x == ("__classdict__" : Str)) = false := by decide)
    (hbase : attributeBase (.Name x p1) "pop" X.env (eval (.Name x p1) X.env) = eval (.Name x p1) X.env := by rfl) (hline : (p2.endLine == p3.line) = true := by rfl)
    (hs : swapsWith (.Call (.Attribute (.Name x p1) "pop" p2) [] [] p3) none pos.line X.env = pure false := by rfl) :
    SOk G X W (.Expr (.Call (.Attribute (.Name x p1) "pop" p2) [] [] p3) pos) (sPopTo none i) :=
  (ps_expr (pe_bm0 PySem.F.plainAttrs_list PySem.F.slot_list_pop PySem.F.type_list_pop mt_pop (pe_var hi hv hd hcd) hbase hline) hs).wk fun D σ H ⟨w, F, ρ, r, q⟩ => by
    unfold sPopTo at q
    cases hx : ρ[i]? with
    | none => rw [hx] at q; exact q.elim
    | some sl =>
      rw [hx] at q
      cases sl with
      | ow dl =>
        cases dl with
        | lst ds =>
          obtain ⟨a, vs, e1, nf, ea, kk⟩ := r.own hx
          simp only at q
          cases hd : ds[ds.length - 1]? with
          | none => rw [hd] at q; exact q.elim
          | some d =>
            rw [hd] at q
            obtain ⟨v, hv', dv⟩ := kk.get' hd
            refine ⟨.ref a, e1, .inl ⟨rfl, vs, .of ea⟩, a, vs, v, rfl, rfl, ea, by rw [kk.length]; exact hv', ?_⟩
            exact nx_reads (r.change (d' := .lst _) hx e1 ⟨_, upd_same, kk.dropLast⟩) q
        | _ => exact q.elim
      | _ => exact q.elim

/-! ### loops -/
def forL (g : DG) (s : DS) : List PV → PEnv → Out
  | [], ρ => .nx ρ
  | d :: r, ρ => match g d ρ with
    | .ok ρ1 => match s ρ1 with
      | .nx ρ2 => forL g s r ρ2
      | .ct ρ2 => forL g s r ρ2
      | .bk ρ2 => .nx ρ2
      | o => o
    | _ => .bad
def sFor (it : DA) (g : DG) (s : DS) : DS := fun ρ => exo ρ (it ρ) fun ds => forL g s ds ρ
theorem s_for {tg iter : Expr} {it : DA} {ts : List Nat} {g : DG} (hp : PassesOwn (model X.prog X.w) X.A X.env X.xe) (hc : X.calm = true) (hi : IOk G X W tg iter it) (hg : GOk G X ts tg g) (hb : SsOk G X W body s)
    (hs : ∀ x, foldedSetIterable iter X.env x = pure x := by intro _; rfl) : SOk G X W (.For tg iter body [] pos) (sFor it g s) :=
  (ps_for hp hc hi hg hb hs).wk fun D σ H ⟨w, F, ρ, r, q⟩ => by
    refine ⟨w, F, ρ, r, ?_⟩
    unfold sFor at q
    cases hds : it ρ with
    | bad => rw [hds] at q; exact q
    | ex c fs => rw [hds] at q; exact fun cls dd F' H' gr x => q cls dd σ F' H' gr.f (r.grow gr) x
    | ok ds =>
      rw [hds] at q
      intro J F1 H1 gr wk
      let Pv : Nat → L2.St → Hp → Prop := fun i σ H => ∃ Fc ρ, Same F1 Fc ∧ Rel G w Fc H ρ σ ∧ SRes G W w Fc D (forL g s (ds.drop i) ρ)
      refine ⟨fun i m σ H => m = ds.length - i ∧ i ≤ ds.length ∧ Pv i σ H, ⟨ds.length, by simp, Nat.zero_le _, F1, ρ, .refl _, r.grow gr, SRes.from gr.f q⟩, ?_⟩
      rintro i m σ2 H2 ⟨rfl, hile, Fc, ρc, s1, rc, qc⟩
      by_cases hlt : i < ds.length
      · refine .inr ⟨wk.go i H2 (s1.trans rc.base.fh) hlt, Pv (i + 1), fun σ' H' p' => ⟨ds.length - (i + 1), by omega, rfl, hlt, p'⟩, fun x H' hy => ?_⟩
        obtain ⟨d, F2, hd, g2, dx⟩ := wk.yld i Fc H2 x H' s1 rc.base.fh hlt hy
        have hdrop : ds.drop i = d :: ds.drop (i + 1) := by
          rw [List.drop_eq_getElem_cons hlt]
          have := List.getElem?_eq_some_iff.mp hd
          rw [this.2]
        rw [hdrop] at qc
        simp only [forL] at qc
        refine ⟨w, F2, ρc, d, rc.grow g2, dx, ?_⟩
        cases hgd : g d ρc with
        | bad => rw [hgd] at qc; exact qc.elim
        | ex c fs => rw [hgd] at qc; exact qc.elim
        | ok ρ1 =>
          rw [hgd] at qc
          intro σ' r' _
          refine ⟨w, F2, ρ1, r', ?_⟩
          replace qc := SRes.from g2.f qc
          simp only at qc
          cases hs1 : s ρ1 with
          | nx ρ2 =>
            rw [hs1] at qc
            exact fun σ3 F3 H3 s3 r3 => ⟨F3, ρ2, (s1.trans g2.f).trans s3, r3, SRes.from s3 qc⟩
          | ct ρ2 =>
            rw [hs1] at qc
            exact fun σ3 F3 H3 s3 r3 => ⟨F3, ρ2, (s1.trans g2.f).trans s3, r3, SRes.from s3 qc⟩
          | bk ρ2 => rw [hs1] at qc; exact qc
          | rt d => rw [hs1] at qc; exact qc
          | ro d => rw [hs1] at qc; exact qc
          | ex c fs ρ2 => rw [hs1] at qc; exact qc
          | bad => rw [hs1] at qc; exact qc
      · have e : i = ds.length := by omega
        subst e
        rw [List.drop_length] at qc
        exact .inl ⟨wk.stop _ H2 (s1.trans rc.base.fh) rfl, nx_reads rc qc⟩
def whL (c : DT) (s : DS) : Nat → PEnv → Out
  | 0, _ => .bad
  | n + 1, ρ => exo ρ (c ρ) fun b => match b with
    | true => match s ρ with
      | .nx ρ2 => whL c s n ρ2
      | .ct ρ2 => whL c s n ρ2
      | .bk ρ2 => .nx ρ2
      | o => o
    | false => .nx ρ
theorem s_while (fuel : Nat) {tc : DT} (hp : PassesOwn (model X.prog X.w) X.A X.env X.xe) (hc : TOk G X W c tc) (hb : SsOk G X W body s) : SOk G X W (.While c body [] pos) (whL tc s fuel) :=
  (ps_while hp hc hb).wk fun D σ H ⟨w, F, ρ, r, q⟩ => by
    let Pv : Nat → L2.St → Hp → Prop := fun n σ H => ∃ Fc ρ, Rel G w Fc H ρ σ ∧ SRes G W w Fc D (whL tc s n ρ)
    refine ⟨Pv, ⟨fuel, F, ρ, r, q⟩, ?_⟩
    rintro m σ1 H1 ⟨Fc, ρc, rc, qc⟩
    cases m with
    | zero => exact qc.elim
    | succ m =>
      refine ⟨w, Fc, ρc, rc, BRes.exo rc qc fun b F' H' _ gr q' => ?_⟩
      cases b with
      | false => rw [if_neg Bool.false_ne_true]; exact nx_reads (rc.grow gr) q'
      | true =>
        rw [if_pos rfl]
        refine ⟨Pv m, fun σ' H' p' => ⟨m, Nat.lt_succ_self m, p'⟩, w, F', ρc, rc.grow gr, ?_⟩
        simp only at q'
        cases hs1 : s ρc with
        | nx ρ2 => rw [hs1] at q'; exact fun σ3 F3 H3 s3 r3 => ⟨F3, ρ2, r3, SRes.from s3 q'⟩
        | ct ρ2 => rw [hs1] at q'; exact fun σ3 F3 H3 s3 r3 => ⟨F3, ρ2, r3, SRes.from s3 q'⟩
        | bk ρ2 => rw [hs1] at q'; exact q'
        | rt d => rw [hs1] at q'; exact q'
        | ro d => rw [hs1] at q'; exact q'
        | ex c fs ρ2 => rw [hs1] at q'; exact q'
        | bad => rw [hs1] at q'; exact q'

/-! ### self, in an __init__ -/
theorem putF_new {f : Str} {v : V} : ∀ {fs : List (Str × V)}, fs.lookup f = none → putF f v fs = fs ++ [(f, v)]
  | [], _ => rfl
  | (g, x) :: r, h => by
    rw [List.lookup_cons] at h
    by_cases hg : g = f
    · rw [hg, beq_self_eq_true] at h
      cases h
    · have hb : (f == g) = false := by simpa using fun z : f = g => hg z.symm
      rw [hb] at h
      show (if g = f then (g, v) :: r else (g, x) :: putF f v r) = _
      rw [if_neg hg, putF_new h]
      rfl
def isSf : Slot → Bool
  | .sf _ _ => true
  | _ => false
def sSetF (f : DE) : DS := fun ρ => exo ρ (f ρ) fun d => match ρ with
  | .sf c ds :: r => if r.all (fun s => !isSf s) = true then .nx (.sf c (ds ++ [d]) :: r) else .bad
  | _ => .bad
def sFld0 (cc n : Nat) (fe : DE) : DS := fun ρ => match ρ with
      | .sf c ds :: _ => if c = cc ∧ ds.length = n then sSetF fe ρ else .bad
      | _ => .bad
/-- self.f = e, the n-th attribute -/
theorem s_setF {x f : Str} {p1 p2 : Pos} {fe : DE} {cc : Nat} {n : Nat} (hi : X.N[0]? = some x) (hv : Vis X.env.scope x) (he : EOk G X W k e fe) (hk : k.st = true := by rfl)
    (hn : (G.names cc)[n]? = some f) (hnd : (G.names cc).Nodup) (hsm : (G.names cc).length < 1000) (hd : (x == ("__debug__" : Str)) = false := by decide) (hcd : (x == ("__classdict__" : Str)) = false := by decide)
    (hs : swapsWith e (some (.Attribute (.Name x p1) f p2)) pos.line X.env = pure false := by rfl) :
    SOk G X W (.Assign [.Attribute (.Name x p1) f p2] e pos) (sFld0 cc n fe) :=
  (ps_fld (pe_var hi hv hd hcd) (he.stab hk) hs).wk fun D σ H ⟨w, F, ρ, r, q⟩ => by
    unfold sFld0 at q
    cases ρ with
    | nil => exact q.elim
    | cons sl ρr =>
      cases sl with
      | sf c ds =>
        simp only at q
        by_cases hc : c = cc ∧ ds.length = n
        · rw [if_pos hc] at q
          obtain ⟨rfl, rfl⟩ := hc
          refine ⟨w, F, _, r, ARes.exo r q fun d v F' H' _ gr dx q' => ?_⟩
          simp only at q'
          by_cases hall : ρr.all (fun s => !isSf s) = true
          · rw [if_pos hall] at q'
            have r1 := r.grow gr
            obtain ⟨sv, hsv, p, C, dx', fs, rfl, es, np, hp0, ec, eh, en, kk⟩ := r1.ok 0 _ rfl
            have ck := CK.cl (X := X) c C ec
            have hlen : fs.length = ds.length := by
              have := kk.length
              rwa [List.length_map] at this
            have nl : fs.lookup f = none := lookup_none fun hm => by
              rw [en] at hm
              obtain ⟨j, hj⟩ := List.mem_iff_getElem?.mp hm
              rw [List.getElem?_take] at hj
              split at hj
              · rename_i hlt
                have h1 := (List.getElem?_eq_some_iff.mp hj)
                have h2 := (List.getElem?_eq_some_iff.mp hn)
                have := (List.getElem_inj hnd).mp (h1.2.trans h2.2.symm)
                omega
              · cases hj
            have hpf : putF f v fs = fs ++ [(f, v)] := putF_new nl
            refine ⟨.ref p, hsv, p, C, dx', fs, rfl, eh, ck.1, ck.2 f (List.mem_of_getElem? hn), ?_, ?_⟩
            · have := (List.getElem?_eq_some_iff.mp hn).1
              omega
            · rw [hpf]
              refine nx_reads (ρ := .sf c (ds ++ [d]) :: ρr) (r1.setF (i := 0) rfl es ec eh np hp0 hsv en hn kk dx fun j hj c' ds' hcon => ?_) q'
              cases j with
              | zero => exact hj rfl
              | succ j =>
                have hm := List.mem_of_getElem? (show ρr[j]? = some (.sf c' ds') by simpa using hcon)
                have := List.all_eq_true.mp hall _ hm
                exact Bool.noConfusion this
          · rw [if_neg hall] at q'; exact q'.elim
        · rw [if_neg hc] at q; exact q.elim
      | _ => exact q.elim
/-- self.f, in an __init__ -/
def dSelf (cc n : Nat) : DE := fun ρ => match ρ with
  | .sf c ds :: _ => if c = cc then .ofOpt ds[n]? else .bad
  | _ => .bad
theorem e_self {x f : Str} {p1 : Pos} {cc : Nat} {n : Nat} (hi : X.N[0]? = some x) (hv : Vis X.env.scope x) (hn : (G.names cc)[n]? = some f) (hnd : (G.names cc).Nodup) (hd : (x == ("__debug__" : Str)) = false := by decide) (hcd : (x == ("__classdict__" : Str)) = false := by decide)
    (hb : attributeBase (.Name x p1) f X.env (eval (.Name x p1) X.env) = eval (.Name x p1) X.env := by rfl) : EOk G X W .s (.Attribute (.Name x p1) f pos) (dSelf cc n) :=
  (pe_fld (pe_var hi hv hd hcd) hb).wk fun σ H Q ⟨w, F, ρ, r, q⟩ => by
    cases ρ with
    | nil => exact q.elim
    | cons sl ρr =>
      cases sl with
      | sf c ds =>
        simp only [dSelf] at q
        by_cases hc : c = cc
        · subst hc
          rw [if_pos rfl] at q
          cases hdn : ds[n]? with
          | none => rw [hdn] at q; exact q.elim
          | some d =>
            rw [hdn] at q
            obtain ⟨sv, hsv, p, C, dx', fs, rfl, es, np, hp0, ec, eh, en, kk⟩ := r.ok 0 _ rfl
            have ck := CK.cl (X := X) c C ec
            obtain ⟨v, hv', dv⟩ := kk.get' hdn
            have hlt : n < ds.length := (List.getElem?_eq_some_iff.mp hdn).1
            refine ⟨.ref p, hsv, p, C, dx', fs, v, rfl, eh, ck.1, ck.2 f (List.mem_of_getElem? hn), ?_, q v F H (.refl r.base.fh) dv⟩
            refine lookup_at (i := n) ?_ ?_ hv'
            · rw [en]; exact hnd.sublist (List.take_sublist _ _)
            · rw [en, List.getElem?_take, if_pos hlt]; exact hn
        · rw [if_neg hc] at q; exact q.elim
      | _ => exact q.elim
/-- try .. except ..: where nothing is raised -/
def sTry0 (s : DS) : DS := fun ρ => match s ρ with
    | .ex _ _ _ => .bad
    | o => o
theorem s_tryThru {h₀ : ExceptHandler} {hs : List ExceptHandler} {body : List Stmt} (hb : SsOk G X.nox W0 body s) : SOk G X W (.Try body (h₀ :: hs) [] [] pos) (sTry0 s) :=
  (ps_try_thru0 hb).wk fun D σ H ⟨w, F, ρ, r, q⟩ => ⟨w, F, ρ, r, by
    unfold sTry0 at q
    cases h : s ρ with
    | ex c fs ρ1 => rw [h] at q; exact q.elim
    | nx ρ1 => rw [h] at q; exact q
    | bk ρ1 => rw [h] at q; exact q
    | ct ρ1 => rw [h] at q; exact q
    | rt d => rw [h] at q; exact q
    | ro d => rw [h] at q; exact q
    | bad => rw [h] at q; exact q⟩
end
end PP

/-! PPKw: calls with keywords; x.bit_length(); own __len__ and __eq__. -/
namespace PP
open PySem PySem.Spec L2

theorem mem_of_lookupG {β α : Type} [BEq β] [LawfulBEq β] {t : List (β × α)} {c : β} {i : α} (hl : t.lookup c = some i) : (c, i) ∈ t := by
  induction t with
  | nil => cases hl
  | cons p r ih =>
    rw [List.lookup_cons] at hl
    cases hc : c == p.1 with
    | true =>
      rw [hc] at hl
      cases hl
      rw [eq_of_beq hc]
      exact List.mem_cons_self
    | false =>
      rw [hc] at hl
      exact List.mem_cons_of_mem _ (ih hl)

theorem pick_cons {α : Type} (ix : List Nat) (v : α) (l : List α) : pick (0 :: ix.map (· + 1)) (v :: l) = v :: pick ix l := by
  unfold pick
  rw [List.filterMap_cons]
  simp only [List.getElem?_cons_zero, List.filterMap_map]
  congr 1
theorem pick_vals : ∀ {ix : List Nat} {vs : List V} {us : List Value}, Vals vs us → Vals (pick ix vs) (pick ix us)
  | [], _, _, _ => .nil
  | i :: ix, vs, us, r => by
    unfold pick
    rw [List.filterMap_cons, List.filterMap_cons]
    cases h : vs[i]? with
    | none =>
      have : us[i]? = none := by
        rw [List.getElem?_eq_none_iff] at h ⊢
        rw [← r.length]; exact h
      rw [this]
      exact pick_vals r
    | some v =>
      obtain ⟨u, hu, ru⟩ := r.get h
      rw [hu]
      exact .cons ru (pick_vals r)
section
variable {G : Cfg} {X : Cx} [CK G X] {W : WX} {k k1 k2 k3 : Kd} {e a b c : Expr} {es : List Expr} {f fa fb fc : DE} {fl fk : DA} {pos : Pos} {n : Nat} {Γ : Tab} {D : PrgD} {fn : Nat → Option FnI} {kws : List Keyword}
theorem pick_datas {F : Hp} : ∀ {ix : List Nat} {vs : List V} {ds : List PV}, Datas G F vs ds → Datas G F (pick ix vs) (pick ix ds)
  | [], _, _, _ => .nil
  | i :: ix, vs, ds, r => by
    unfold pick
    rw [List.filterMap_cons, List.filterMap_cons]
    cases h : vs[i]? with
    | none =>
      have : ds[i]? = none := by
        rw [List.getElem?_eq_none_iff] at h ⊢
        rw [← r.length]; exact h
      rw [this]
      exact pick_datas r
    | some v =>
      obtain ⟨d, hd, dv⟩ := r.get h
      rw [hd]
      exact .cons dv (pick_datas r)
def dCallK (Γ : Tab) (i : Nat) (ix : List Nat) (fl fk : DA) : DE := fun ρ => (fl ρ).bind fun ds => (fk ρ).bind fun es => Γ i (pick ix (ds ++ es))
theorem run_fnNS {pins : List (Addr × Obj)} {CX : CXT} {j : Nat} {f : Addr} {fd : FuncData} {ps ks : List Str} {sp : Sp} {E : XK} {σ : L2.St} {H : Hp} {s : Shared} {Q : VK} {us ws : List Value} {vs zs : List V} {g : List Value → List Value → List Value} {gV : List V → List V → List V} (F : FnOk X.prog X.w X.K X.mg X.base CX j f fd ps sp) (hr : Room j X.A) (hb : KBn X.K fd ps n ks g gV) (hx : PassesAt CX X σ E)
    (I : Inv X pins σ H s) (r : Vals vs us) (rz : Vals zs ws) (l1 : vs.length = n) (l2 : zs.length = ks.length) (h : sp (gV vs zs) H Q E) : wpAny (model X.prog X.w) X.A (call (.ref f) us (ks.zip ws)) (EP X pins σ Q) X.xe s := by
  have r2 := hb.rel r rz
  refine wpAny_call (codeAny_mono (F.run X.A X.stack s H ⟨us, ks.zip ws⟩ (g us ws) (gV vs zs) Q E hr I.env0 (hb.to s us ws I.kIn (r.length.symm.trans l1) (rz.length.symm.trans l2)) r2 h) fun r s' hq => ?_)
  cases r with
  | error e => exact hx pins H s e s' I hq
  | ok fl =>
    cases fl with
    | ret u => exact I.after hq
    | next => exact False.elim hq
    | brk => exact False.elim hq
    | cont => exact False.elim hq
theorem run_makeKS {pins : List (Addr × Obj)} {CX : CXT} {j : Nat} {f C : Addr} {fd : FuncData} {ps ks : List Str} {sp : Sp} {E : XK} {σ : L2.St} {H : Hp} {s : Shared} {Q : VK} {us ws : List Value} {vs zs : List V} {g : List Value → List Value → List Value} {gV : List V → List V → List V} (M : Mk X.K C f) (F : FnOk X.prog X.w X.K X.mg X.base CX j f fd ps sp) (hr : Room (j + 1) X.A) (hb : KBn X.K fd ps (n + 1) ks g gV) (hx : PassesAt CX X σ E)
    (I : Inv X pins σ H s) (r : Vals vs us) (rz : Vals zs ws) (l1 : vs.length = n) (l2 : zs.length = ks.length)
    (h : ∀ x dx, H x = none → H dx = none → dx ≠ x → sp (gV (.ref x :: vs) zs) (upd (upd H dx (.own x)) x (.ins C dx [])) (fun v H2 => v = .non ∧ Q (.ref x) H2) E) :
    wpAny (model X.prog X.w) X.A (call (.ref C) us (ks.zip ws)) (EP X pins σ Q) X.xe s := by
  have hq := h (s.heap.objs.size + 1) s.heap.objs.size (I.hok.fresh (Nat.le_succ _)) (I.hok.fresh (Nat.le_refl _)) (Nat.ne_of_lt (Nat.lt_succ_self _))
  have I2 := Inv.made (C := C) I
  have r1 : Vals (V.ref (s.heap.objs.size + 1) :: vs) (Value.ref (s.heap.objs.size + 1) :: us) := .cons rfl r
  have r2 := hb.rel r1 rz
  have n1 : (Value.ref (s.heap.objs.size + 1) :: us).length = n + 1 := by
    rw [List.length_cons, ← r.length, l1]
  refine wpAny_call (make_map (f := f) I.kIn M.makes M.init (beq_iff_eq.mp M.fn) (codeAny_mono (F.run _ X.stack _ _ ⟨Value.ref (s.heap.objs.size + 1) :: us, ks.zip ws⟩ (g (Value.ref (s.heap.objs.size + 1) :: us) ws) _ _ E (hr.make C us (ks.zip ws))
    (I2.env0.make C us (ks.zip ws)) (hb.to _ (Value.ref (s.heap.objs.size + 1) :: us) ws I2.kIn n1 (rz.length.symm.trans l2)) r2 hq) fun r s' hq' => ?_))
  cases r with
  | error e => exact hx pins _ _ e s' I2 hq'
  | ok fl =>
    cases fl with
    | ret u =>
      obtain ⟨v, H', I3, rv, ev, q3⟩ := I2.after hq'
      subst ev
      exact ⟨rv, ⟨V.ref (s.heap.objs.size + 1), H', I3, rfl, q3⟩⟩
    | next => exact False.elim hq'
    | brk => exact False.elim hq'
    | cont => exact False.elim hq'
/-- f(e, .., k = v, ..) -/
theorem e_callK {x : Str} {i m : Nat} {ks : List Str} {ix : List Nat} {p : Pos} [c : Prg G X n Γ D fn] (tk : Takes X W) (hi : D.gfn x = some i) (hsh : (m + 1, ks, ix) ∈ D.kw i) (hg : Gl X x) (ha : AOk G X W true (e :: es) fl) (hkw : KOk G X W kws fk) (hm : es.length = m := by rfl) (hkl : kws.length = ks.length := by rfl)
    (hal : ∀ ρ ds, fl ρ = .ok ds → ds.length = m + 1) (hakl : ∀ ρ ds, fk ρ = .ok ds → ds.length = ks.length)
    (hall : (backToKw pos (keywordEach kws X.env)).all (·.1.isSome) = true := by rfl) (hks : (backToKw pos (keywordEach kws X.env)).filterMap (·.1) = ks := by rfl)
    (hdb : (x == ("__debug__" : Str)) = false := by decide) (he : starEach (e :: es) X.env = (false, eval e X.env) :: starEach es X.env := by rfl)
    (hpl : ((backTo pos (starEach (e :: es) X.env)).any (·.1) || (backToKw pos (keywordEach kws X.env)).any (·.1.isNone)) = false := by rfl) :
    EOk G X W .s (.Call (.Name x p) (e :: es) kws pos) (dCallK Γ i ix fl fk) := by
  obtain ⟨hni, I, hI, hmg⟩ := c.gfn x i hi
  obtain ⟨hk, hb⟩ := c.ok i I hI
  have kb := c.kw i I _ hI hsh
  refine ⟨fun pins s σ H Q I1 ⟨w, F, ρ, rl, q⟩ => ?_⟩
  unfold dCallK at q
  refine wpAny_Call_Name_kw (ld_glob I1 hg hmg ?_ hdb)
  refine PySem.W.callWith_KW (h₀ := X.base) I1.ok.mod.kin hk hall (thn (ha.run pos pins s σ H (fun vs H1 => ∃ F1 ds, Grow F H F1 H1 ∧ Datas G F1 vs ds ∧ fl ρ = .ok ds) I1 ⟨w, F, ρ, rl, ?_⟩) fun us s1 ⟨vs, H1, I2, r, F1, ds, g1, dd, hd⟩ => ?_) hpl he
  · cases hd : fl ρ with
    | bad => rw [hd] at q; exact q
    | ex c fs => rw [hd] at q; exact q
    | ok ds => exact fun vs F1 H1 g1 d1 => ⟨F1, ds, g1, d1, rfl⟩
  · rw [hd] at q
    refine thn (hkw.run.run pos pins s1 σ H1 (fun zs H2 => ∃ F2 es, Grow F1 H1 F2 H2 ∧ Datas G F2 zs es ∧ fk ρ = .ok es) I2 ⟨w, F1, ρ, rl.grow g1, ?_⟩) fun ws s2 ⟨zs, H2, I3, rz, F2, es', g2, d2, hes⟩ => ⟨I3.kIn, ?_⟩
    · replace q : ARes G W .s F H σ Q ((fk ρ).bind fun es => Γ i (pick ix (ds ++ es))) := q
      cases hes : fk ρ with
      | bad => rw [hes] at q; exact q
      | ex c fs => rw [hes] at q; exact fun cls dd F2 H2 g2 x => q cls dd F2 H2 (g1.trans g2) x
      | ok es' => exact fun vs F2 H2 g2 d2 => ⟨F2, es', g2, d2, rfl⟩
    · replace q : ARes G W .s F H σ Q ((fk ρ).bind fun es => Γ i (pick ix (ds ++ es))) := q
      rw [hes] at q
      rw [hks]
      have pr := PRes.of (ARes.from (x := Γ i (pick ix (ds ++ es'))) (g1.trans g2) q)
      refine run_fnNS (E := WE W σ) (c.fnn i I hI hni) (c.room.mono (Nat.le_succ _)) kb (passAt tk σ) I3 r rz (by rw [dd.length]; exact hal ρ ds hd) (by rw [d2.length]; exact hakl ρ es' hes) ?_
      exact ⟨F2, _, g2.fh, pick_datas ((dd.mono g2.f).append d2), c.len i I _ hI hni pr.ne, pr⟩
/-- f(k = v, ..) -/
theorem e_callK0 {x : Str} {i : Nat} {ks : List Str} {ix : List Nat} {p : Pos} [c : Prg G X n Γ D fn] (tk : Takes X W) (hi : D.gfn x = some i) (hsh : (0, ks, ix) ∈ D.kw i) (hg : Gl X x) (hkw : KOk G X W kws fk)
    (hakl : ∀ ρ ds, fk ρ = .ok ds → ds.length = ks.length)
    (hall : (backToKw pos (keywordEach kws X.env)).all (·.1.isSome) = true := by rfl) (hks : (backToKw pos (keywordEach kws X.env)).filterMap (·.1) = ks := by rfl)
    (hdb : (x == ("__debug__" : Str)) = false := by decide)
    (hpl : ((backTo pos (starEach [] X.env)).any (·.1) || (backToKw pos (keywordEach kws X.env)).any (·.1.isNone)) = false := by rfl) :
    EOk G X W .s (.Call (.Name x p) [] kws pos) (dCallK Γ i ix dNil fk) := by
  obtain ⟨hni, I, hI, hmg⟩ := c.gfn x i hi
  obtain ⟨hk, hb⟩ := c.ok i I hI
  have kb := c.kw i I _ hI hsh
  refine ⟨fun pins s σ H Q I1 ⟨w, F, ρ, rl, q⟩ => ?_⟩
  refine wpAny_Call_Name_kw (ld_glob I1 hg hmg ?_ hdb)
  replace q : ARes G W .s F H σ Q ((fk ρ).bind fun es => Γ i (pick ix ([] ++ es))) := q
  refine PySem.W.callWith_KW0 (h₀ := X.base) I1.ok.mod.kin hk hall (thn (hkw.run.run pos pins s σ H (fun zs H2 => ∃ F2 es, Grow F H F2 H2 ∧ Datas G F2 zs es ∧ fk ρ = .ok es) I1 ⟨w, F, ρ, rl, ?_⟩) fun ws s2 ⟨zs, H2, I3, rz, F2, es', g2, d2, hes⟩ => ⟨I3.kIn, ?_⟩) hpl
  · cases hes : fk ρ with
    | bad => rw [hes] at q; exact q
    | ex c fs => rw [hes] at q; exact q
    | ok es' => exact fun vs F2 H2 g2 d2 => ⟨F2, es', g2, d2, rfl⟩
  · rw [hes] at q
    rw [hks]
    have pr := PRes.of (ARes.from (x := Γ i (pick ix ([] ++ es'))) g2 q)
    refine run_fnNS (us := []) (vs := []) (E := WE W σ) (c.fnn i I hI hni) (c.room.mono (Nat.le_succ _)) kb (passAt tk σ) I3 .nil rz rfl (by rw [d2.length]; exact hakl ρ es' hes) ?_
    exact ⟨F2, _, g2.fh, pick_datas d2, c.len i I _ hI hni pr.ne, pr⟩
/-- C(k = v, ..) -/
theorem e_makeK0 {x : Str} {i cc : Nat} {ks : List Str} {ix : List Nat} {p : Pos} [c : Prg G X n Γ D fn] (tk : Takes X W) (hx : D.gcls x = some cc) (hi : D.ini cc = some i) (hsh : (1, ks, 0 :: ix.map (· + 1)) ∈ D.kw i) (hg : Gl X x) (hkw : KOk G X W kws fk)
    (hakl : ∀ ρ ds, fk ρ = .ok ds → ds.length = ks.length)
    (hall : (backToKw pos (keywordEach kws X.env)).all (·.1.isSome) = true := by rfl) (hks : (backToKw pos (keywordEach kws X.env)).filterMap (·.1) = ks := by rfl)
    (hdb : (x == ("__debug__" : Str)) = false := by decide)
    (hpl : ((backTo pos (starEach [] X.env)).any (·.1) || (backToKw pos (keywordEach kws X.env)).any (·.1.isNone)) = false := by rfl) :
    EOk G X W .s (.Call (.Name x p) [] kws pos) (dCallK Γ i ix dNil fk) := by
  obtain ⟨C, hC, hmg⟩ := c.gcls x cc hx
  obtain ⟨C', I, hC', hI, M⟩ := c.ini cc i hi
  rw [hC] at hC'
  cases hC'
  have kb := c.kw i I _ hI hsh
  refine ⟨fun pins s σ H Q I1 ⟨w, F, ρ, rl, q⟩ => ?_⟩
  refine wpAny_Call_Name_kw (ld_glob I1 hg hmg ?_ hdb)
  replace q : ARes G W .s F H σ Q ((fk ρ).bind fun es => Γ i (pick ix ([] ++ es))) := q
  refine PySem.W.callWith_KW0 (h₀ := X.base) I1.ok.mod.kin M.kp hall (thn (hkw.run.run pos pins s σ H (fun zs H2 => ∃ F2 es, Grow F H F2 H2 ∧ Datas G F2 zs es ∧ fk ρ = .ok es) I1 ⟨w, F, ρ, rl, ?_⟩) fun ws s2 ⟨zs, H2, I3, rz, F2, es', g2, d2, hes⟩ => ⟨I3.kIn, ?_⟩) hpl
  · cases hes : fk ρ with
    | bad => rw [hes] at q; exact q
    | ex c fs => rw [hes] at q; exact q
    | ok es' => exact fun vs F2 H2 g2 d2 => ⟨F2, es', g2, d2, rfl⟩
  · rw [hes] at q
    rw [hks]
    have q' : ARes G W .s F2 H2 σ Q (Γ i (pick ix es')) := ARes.from g2 q
    refine run_makeKS (us := []) (vs := []) (E := WE W σ) M (c.fni cc i I hi hI) c.room kb (passAt tk σ) I3 .nil rz rfl (by rw [d2.length]; exact hakl ρ es' hes) fun y dx ny ndx nyx => ?_
    have fy : F2 y = none := g2.fh.free ny
    have sf : Same F2 (upd (upd H2 dx (.own y)) y (.ins C dx [])) := fun b o z => by
      have z1 := g2.fh _ _ z
      rw [upd_ne (ne_of_none z1 ny), upd_ne (ne_of_none z1 ndx)]
      exact z1
    have pr := IRes'.of hC g2.fh ny ndx nyx q'
    show spI G _ _ _ (pick (0 :: ix.map (· + 1)) (V.ref y :: zs)) _ _ _
    rw [pick_cons]
    exact ⟨F2, _, y, dx, C, _, rfl, hC, sf, fy, upd_same, pick_datas d2, c.leni cc i I _ hi hI pr.ne, pr⟩
/-- C(e, .., k = v, ..) -/
theorem e_makeK {x : Str} {i cc m : Nat} {ks : List Str} {ix : List Nat} {p : Pos} [c : Prg G X n Γ D fn] (tk : Takes X W) (hx : D.gcls x = some cc) (hi : D.ini cc = some i) (hsh : (m + 2, ks, 0 :: ix.map (· + 1)) ∈ D.kw i) (hg : Gl X x) (ha : AOk G X W true (e :: es) fl) (hkw : KOk G X W kws fk)
    (hal : ∀ ρ ds, fl ρ = .ok ds → ds.length = m + 1) (hakl : ∀ ρ ds, fk ρ = .ok ds → ds.length = ks.length)
    (hall : (backToKw pos (keywordEach kws X.env)).all (·.1.isSome) = true := by rfl) (hks : (backToKw pos (keywordEach kws X.env)).filterMap (·.1) = ks := by rfl)
    (hdb : (x == ("__debug__" : Str)) = false := by decide) (he : starEach (e :: es) X.env = (false, eval e X.env) :: starEach es X.env := by rfl)
    (hpl : ((backTo pos (starEach (e :: es) X.env)).any (·.1) || (backToKw pos (keywordEach kws X.env)).any (·.1.isNone)) = false := by rfl) :
    EOk G X W .s (.Call (.Name x p) (e :: es) kws pos) (dCallK Γ i ix fl fk) := by
  obtain ⟨C, hC, hmg⟩ := c.gcls x cc hx
  obtain ⟨C', I, hC', hI, M⟩ := c.ini cc i hi
  rw [hC] at hC'
  cases hC'
  have kb := c.kw i I _ hI hsh
  refine ⟨fun pins s σ H Q I1 ⟨w, F, ρ, rl, q⟩ => ?_⟩
  unfold dCallK at q
  refine wpAny_Call_Name_kw (ld_glob I1 hg hmg ?_ hdb)
  refine PySem.W.callWith_KW (h₀ := X.base) I1.ok.mod.kin M.kp hall (thn (ha.run pos pins s σ H (fun vs H1 => ∃ F1 ds, Grow F H F1 H1 ∧ Datas G F1 vs ds ∧ fl ρ = .ok ds) I1 ⟨w, F, ρ, rl, ?_⟩) fun us s1 ⟨vs, H1, I2, r, F1, ds, g1, dd, hd⟩ => ?_) hpl he
  · cases hd : fl ρ with
    | bad => rw [hd] at q; exact q
    | ex c fs => rw [hd] at q; exact q
    | ok ds => exact fun vs F1 H1 g1 d1 => ⟨F1, ds, g1, d1, rfl⟩
  · rw [hd] at q
    replace q : ARes G W .s F H σ Q ((fk ρ).bind fun es => Γ i (pick ix (ds ++ es))) := q
    refine thn (hkw.run.run pos pins s1 σ H1 (fun zs H2 => ∃ F2 es, Grow F1 H1 F2 H2 ∧ Datas G F2 zs es ∧ fk ρ = .ok es) I2 ⟨w, F1, ρ, rl.grow g1, ?_⟩) fun ws s2 ⟨zs, H2, I3, rz, F2, es', g2, d2, hes⟩ => ⟨I3.kIn, ?_⟩
    · cases hes : fk ρ with
      | bad => rw [hes] at q; exact q
      | ex c fs => rw [hes] at q; exact fun cls dd F2 H2 g2 x => q cls dd F2 H2 (g1.trans g2) x
      | ok es' => exact fun vs F2 H2 g2 d2 => ⟨F2, es', g2, d2, rfl⟩
    · rw [hes] at q
      rw [hks]
      have q' : ARes G W .s F2 H2 σ Q (Γ i (pick ix (ds ++ es'))) := ARes.from (g1.trans g2) q
      refine run_makeKS (E := WE W σ) M (c.fni cc i I hi hI) c.room kb (passAt tk σ) I3 r rz (by rw [dd.length]; exact hal ρ ds hd) (by rw [d2.length]; exact hakl ρ es' hes) fun y dx ny ndx nyx => ?_
      have fy : F2 y = none := g2.fh.free ny
      have sf : Same F2 (upd (upd H2 dx (.own y)) y (.ins C dx [])) := fun b o z => by
        have z1 := g2.fh _ _ z
        rw [upd_ne (ne_of_none z1 ny), upd_ne (ne_of_none z1 ndx)]
        exact z1
      have pr := IRes'.of hC g2.fh ny ndx nyx q'
      show spI G _ _ _ (pick (0 :: ix.map (· + 1)) (V.ref y :: (vs ++ zs))) _ _ _
      rw [pick_cons]
      exact ⟨F2, _, y, dx, C, _, rfl, hC, sf, fy, upd_same, pick_datas ((dd.mono g2.f).append d2), c.leni cc i I _ hi hI pr.ne, pr⟩
/-- argument lists have a fixed length -/
def DLen (fl : DA) (n : Nat) : Prop := ∀ ρ ds, fl ρ = .ok ds → ds.length = n
theorem len_nil : ∀ ρ ds, dNil ρ = .ok ds → ds.length = 0 := fun _ ds h => by cases h; rfl
theorem len_cons {m : Nat} (h : ∀ ρ ds, fl ρ = .ok ds → ds.length = m) : ∀ ρ ds, dCons fa fl ρ = .ok ds → ds.length = m + 1 := fun ρ ds q => by
  unfold dCons at q
  cases ha : fa ρ with
  | bad => rw [ha] at q; cases q
  | ex c fs => rw [ha] at q; cases q
  | ok x =>
    rw [ha] at q
    replace q : (fl ρ).bind (fun r => .ok (x :: r)) = .ok ds := q
    cases hl : fl ρ with
    | bad => rw [hl] at q; cases q
    | ex c fs => rw [hl] at q; cases q
    | ok r =>
      rw [hl] at q
      cases q
      rw [List.length_cons, h ρ r hl]
/-- x.bit_length() -/
def oBits : PV → R PV
  | .int i => .ok (.int (Builtin.Int.intBits i : Nat))
  | _ => .bad
theorem e_bits {apos : Pos} (ha : EOk G X W k1 a fa) (hbase : attributeBase a "bit_length" X.env (eval a X.env) = eval a X.env := by rfl) (hline : (apos.endLine == pos.line) = true := by rfl) : EOk G X W .s (.Call (.Attribute a "bit_length" apos) [] [] pos) (dUn oBits fa) :=
  (pe_bits ha hbase hline).wk fun σ H Q ⟨w, F, ρ, r, q⟩ => un_reads r q fun v x F2 H2 g d q' => by
    cases x with
    | int i => exact ⟨i, d.toB.int, q' _ F2 H2 (.refl g.fh) (.int _)⟩
    | _ => exact q'.elim
/-! ### written dicts of the module -/
theorem DataB.dct {F H : Hp} {v : V} {kvs : List (PV × PV)} (h : DataB G F H v (.dct kvs)) : ∃ a, v = .ref a ∧ KD G a kvs := by
  rcases h with h | ⟨a, e, h⟩
  · cases h with | dct h => exact ⟨_, rfl, h⟩
  · exact h.elim
theorem kdX {a : Addr} {es : Array DictEntry} {n : Nat} (h : KDict G.K G.w a es n) : KDict X.K X.w a es n := by
  have h1 := CK.k (G := G) (X := X)
  have h2 := CK.w (G := G) (X := X)
  rw [h1, h2] at h
  exact h
def oInK (x y : PV) : R PV := match x, y with
  | .str z, .dct kvs => .ok (.bl (kget kvs z).isSome)
  | _, _ => .bad
def oNotInK (x y : PV) : R PV := match x, y with
  | .str z, .dct kvs => .ok (.bl (!(kget kvs z).isSome))
  | _, _ => .bad
def rInK (X : Cx) (neg : Bool) : R2 := fun x y H Q => ∃ (d : Addr) (es : Array DictEntry) (n : Nat) (z : Str) (r : Option Value), KDict X.K X.w d es n ∧ x = .str z ∧ y = .ref d ∧ PySem.W.nsIn X.K d z = some r ∧ Q (.bl (xor neg r.isSome)) H
theorem op_inK : OpR X (compareOp .In) (rInK X false) := fun pins s σ H x y v u Q I rx ry h => by
  obtain ⟨d, es, n, z, r, kd, e1, e2, e3, q⟩ := h
  exact op_in_kd kd pins s σ H x y v u Q I rx ry ⟨z, r, e1, e2, e3, by rw [Bool.false_xor] at q; exact q⟩
theorem op_notInK : OpR X (compareOp .NotIn) (rInK X true) := fun pins s σ H x y v u Q I rx ry h => by
  obtain ⟨d, es, n, z, r, kd, e1, e2, e3, q⟩ := h
  exact op_notIn_kd kd pins s σ H x y v u Q I rx ry ⟨z, r, e1, e2, e3, by rw [Bool.true_xor] at q; exact q⟩
theorem kd_isSome {a : Addr} {kvs : List (PV × PV)} (h : KD G a kvs) (z : Str) : ∃ es n r, KDict X.K X.w a es n ∧ PySem.W.nsIn X.K a z = some r ∧ r.isSome = (kget kvs z).isSome := by
  obtain ⟨es, n, kd, hz⟩ := h
  have hk := CK.k (G := G) (X := X)
  rcases hz z with ⟨h1, h2⟩ | ⟨d, u, v, h1, h2, _⟩
  · exact ⟨es, n, none, kdX kd, hk ▸ h2, by rw [h1]; rfl⟩
  · exact ⟨es, n, some u, kdX kd, hk ▸ h2, by rw [h1]; rfl⟩
theorem b_inK : BinOk G X .s (compareOp .In) oInK where
  ex := ⟨_, op_inK, fun F H v u x y Q d e dx dy q k => by
    cases x with
    | str z =>
      cases y with
      | dct kvs =>
        cases q
        obtain ⟨a, rfl, hk⟩ := dy.dct
        obtain ⟨es, n, r, h1, h2, h3⟩ := kd_isSome (X := X) hk z
        exact ⟨a, es, n, z, r, h1, dx.str, rfl, h2, by rw [Bool.false_xor, h3]; exact k _ F H (.refl e) (.bl _)⟩
      | _ => cases q
    | _ => cases q⟩
  ok := fun x y c fs => by unfold oInK; split <;> exact fun z => nomatch z
theorem b_notInK : BinOk G X .s (compareOp .NotIn) oNotInK where
  ex := ⟨_, op_notInK, fun F H v u x y Q d e dx dy q k => by
    cases x with
    | str z =>
      cases y with
      | dct kvs =>
        cases q
        obtain ⟨a, rfl, hk⟩ := dy.dct
        obtain ⟨es, n, r, h1, h2, h3⟩ := kd_isSome (X := X) hk z
        exact ⟨a, es, n, z, r, h1, dx.str, rfl, h2, by rw [Bool.true_xor, h3]; exact k _ F H (.refl e) (.bl _)⟩
      | _ => cases q
    | _ => cases q⟩
  ok := fun x y c fs => by unfold oNotInK; split <;> exact fun z => nomatch z
def oIxK (x y : PV) : R PV := match x, y with
  | .dct kvs, .str z => .ofOpt (kget kvs z)
  | _, _ => .bad
theorem e_ixK (ha : EOk G X W k1 a fa) (hb : EOk G X W k2 b fb) (hs : PlainIx b := by exact fun _ _ => rfl) : EOk G X W .s (.Subscript a b pos) (dBin oIxK fa fb) :=
  (pe_ix ix_kdict ha hb hs).wk fun σ H Q ⟨w, F, ρ, rl, q⟩ => bin_reads rl q fun v u x y F2 H2 g d1 d2 q' => by
    cases x with
    | dct kvs =>
      cases y with
      | str z =>
        obtain ⟨a, rfl, es, n, kd, hz⟩ := d1.dct
        simp only [oIxK] at q'
        rcases hz z with ⟨h1, h2⟩ | ⟨d, u', v', h1, h2, rv, hc⟩
        · rw [h1] at q'; exact q'.elim
        · rw [h1] at q'
          exact ⟨a, z, v', rfl, d2.str, ⟨es, n, u', (kdX (X := X) kd).at_, (kdX (X := X) kd).lit, CK.k (G := G) (X := X) ▸ h2, rv⟩, q' v' F2 H2 (.refl g.fh) hc.data⟩
      | _ => exact q'.elim
    | _ => exact q'.elim
end
end PP

/-! PPOwn: ==, != and len by the classes' own __eq__ and __len__; methods with keywords. -/
namespace PP
open PySem PySem.Spec L2

section
variable {prog : Program} {w : World} {A : Around} {E : Value → Shared → Prop} {s : Shared} {K : PySem.W.Frag} {x C L f : Addr} {h₀ : Heap} {m : Str → Option Value} {ox : Obj} {od : Option Obj} {b tb : Value}
theorem ifBound_ne {Q : Option Value → Shared → Prop} (X : K.In s.heap) (I : PySem.W.InstAt s.heap x ox C od) (hs : PySem.W.findIn K (.ref C) "__ne__" = some (some (.builtin "object.__ne__")))
    (h : wpAny (model prog w) A (call (.builtin "object.__ne__") [.ref x, b]) (fun v => Q (some v)) E s) : wpAny (model prog w) A (callSpecialIfBound? (.ref x) "__ne__" [b]) Q E s := by
  simp only [callSpecialIfBound?, bindSpecialIfBound?]
  refine wpAny_holding (wpAny_bind (wpAny_bind (wpAny_bind (I.type.here ((PySem.W.looks_findIn X hs).here ?_)))))
  refine wpAny_bind (wpAny_askSetting (wpAny_ite ?_))
  have fin : wpAny (model prog w) A (call (.builtin "object.__ne__") ([.ref x] ++ [b]) >>= fun v => pure (some v)) Q E s := wpAny_bind (wpAny_mono h (fun v s' h' => wpAny_pure h') fun _ _ h' => h')
  have hb := PySem.F.cmp_object.ne.bind (Value.ref x)
  split
  · exact wpAny_bind (wpAny_of_eq hb (wpAny_pure (by exact fin)))
  · exact wpAny_tryCatch (wpAny_bind (wpAny_of_eq hb (wpAny_pure (by exact fin))))
theorem objNe_K {Q : Fin → Shared → Prop} (hu : A.units < cLine) (X : K.In s.heap) (I : PySem.W.InstAt s.heap x ox C od) (hs : PySem.W.findIn K (.ref C) "__eq__" = some (some (.ref f))) (hf : PySem.W.isFn K (.ref f) = true)
    (hcall : wpAny (model prog w) A (call (.ref f) [.ref x, b]) (fun v s' => ∃ c, v = .bool c ∧ Q (.done (.ret (.bool (!c)))) s') E s) : wpAny (model prog w) A (Builtin.«object.__ne__» ⟨[.ref x, b], []⟩) Q E s := by
  unfold Builtin.«object.__ne__»
  repeat (first
    | with_reducible refine wpAny_cRoomFor hu ?_
    | (refine wpAny_bind (m := callSpecialIfBound? (.ref x) (Str.ofString "__eq__") [b])
        (PySem.W.ifBound_K X I hs hf (wpAny_mono hcall (fun r s' hr => by
          obtain ⟨c, rfl, hq⟩ := hr
          repeat (first | exact hq | exact wpAny_pure hq | exact wpAny_truthy_bool hq | (refine wpAny_bind (m := truthy (.bool _)) (wpAny_truthy_bool ?_)) | wp_step)) fun _ _ e => e)))
    | wp_step)
theorem ne_K {Q : Value → Shared → Prop} (hu : A.units + 1 < cLine) (X : K.In s.heap) (I : PySem.W.InstAt s.heap x ox C od) (hb : PySem.W.Looks (model prog w) s.heap (typeOf b) tb) (hn : PySem.W.notFirst K C tb = true)
    (hs : PySem.W.findIn K (.ref C) "__eq__" = some (some (.ref f))) (hf : PySem.W.isFn K (.ref f) = true) (hne : PySem.W.findIn K (.ref C) "__ne__" = some (some (.builtin "object.__ne__"))) (hm : PySem.W.mroIn K C (.type "object") = some true)
    (h : wpAny (model prog w) A.in1 (call (.ref f) [.ref x, b]) (fun v s' => ∃ c, v = .bool c ∧ Q (.bool (!c)) s') E s) : wpAny (model prog w) A (richCompare .NotEq (.ref x) b) Q E s := by
  have one : wpAny (model prog w) A (tryCompare (.ref x) "__ne__" b) (fun r s' => ∃ v, r = some v ∧ Q v s') E s := by
    unfold tryCompare
    have li : PySem.W.Looks (model prog w) s.heap (isInstance (.ref x) (.type "object")) true := by
      unfold isInstance
      exact I.type.andThen (PySem.W.looks_mroIn X hm)
    refine wpAny_bind (ifBound_ne X I hne (wpAny_call (codeAny_call_builtin PySem.F.cmp_object.ne.plain PySem.F.cmpEntry_ne
      (PySem.W.check_slot PySem.F.cmpKind_ne PySem.F.cmpSplit_ne li (PySem.F.cmpArgs_ne _ _) (objNe_K (A := A.in1) hu X I hs hf (wpAny_mono h (fun v s' hv => ?_) fun _ _ e => e))))))
    obtain ⟨c, rfl, hq⟩ := hv
    first | exact ⟨c, rfl, wpAny_pure ⟨_, rfl, hq⟩⟩ | exact ⟨c, rfl, ⟨_, rfl, hq⟩⟩ | exact ⟨c, rfl, wpAny_pure (wpAny_pure ⟨_, rfl, hq⟩)⟩
  unfold richCompare
  simp only [oneThing_ref]
  refine wpAny_holding (wpAny_bind (wpAny_cRoomFor (Nat.lt_of_succ_lt hu) ?_))
  rw [cmpInfo_NotEq]
  dsimp only
  refine wpAny_bind (I.type.here (wpAny_bind (hb.here ?_)))
  split
  · rename_i q
    have e : PySem.W.subIn K tb (.ref C) = some false := by
      rcases Bool.or_eq_true_iff.mp hn with e | e
      · rw [beq_iff_eq.mp e] at q; simp at q
      · exact beq_iff_eq.mp e
    refine wpAny_bind ((PySem.W.looks_subIn X e).here ?_)
    simp only [Bool.false_eq_true, if_false]
    refine wpAny_bind (wpAny_mono one (fun r s' z => ?_) fun _ _ e => e)
    obtain ⟨v, rfl, hq⟩ := z
    exact wpAny_pure hq
  · refine wpAny_bind (wpAny_pure ?_)
    simp only [Bool.false_eq_true, if_false]
    refine wpAny_bind (wpAny_mono one (fun r s' z => ?_) fun _ _ e => e)
    obtain ⟨v, rfl, hq⟩ := z
    exact wpAny_pure hq
end

theorem nf_ty {K : PySem.W.Frag} {C : Addr} : ∀ t ∈ [Ty.non, .bl, .int, .str, .tup, .lst, .dct], PySem.W.notFirst K C (.type t.name) = true := by
  intro t h
  simp only [List.mem_cons, List.not_mem_nil, or_false] at h
  rcases h with rfl | rfl | rfl | rfl | rfl | rfl | rfl <;> rfl

section
variable {G : Cfg} {X : Cx} [CK G X] {tb : Ty → Ty → Option Bool} [ck : Isi G X tb] {n : Nat} {Γ : Tab} {D : PrgD} {fn : Nat → Option FnI}
/-- an own def runs below the running body; no exception leaves it -/
theorem run_in {A : Around} {k : Nat} {f : Addr} {fd : FuncData} {ps : List Str} {sp : Sp} {pins : List (Addr × Obj)} {σ : L2.St} {H : Hp} {s : Shared} {Q : VK} {us : List Value} {vs : List V} (F : FnOk X.prog X.w X.K X.mg X.base (L2.CX X.prog X.w) k f fd ps sp) (hr : Room k A) (e0 : Env0 X.prog X.w X.K X.mg X.base A X.stack s H) (hb : Binds X.K fd ps [])
    (I : Inv X pins σ H s) (r : Vals vs us) (h : sp vs H Q (fun _ _ _ => False)) : wpAny (model X.prog X.w) A (call (.ref f) us) (EP X pins σ Q) X.xe s := by
  have hl : (us ++ []).length = ps.length := by rw [List.append_nil, ← r.length]; exact F.len _ _ _ _ h
  refine wpAny_call (codeAny_mono (F.run A X.stack s H ⟨us, []⟩ (us ++ []) vs Q _ hr e0 (hb s us I.kIn hl) (by rw [List.append_nil]; exact r) h) fun r s' hq => ?_)
  cases r with
  | error e => obtain ⟨_, _, _, _, _, _, _, _, _, _, _, _, z⟩ := hq; exact z.elim
  | ok fl =>
    cases fl with
    | ret u => exact I.after hq
    | next => exact False.elim hq
    | brk => exact False.elim hq
    | cont => exact False.elim hq
/-- what a comparison by an own def asks -/
def rOwnE (X : Cx) (ne : Bool) : R2 := fun x y H Q => ∃ (a C dx f : Addr) (fs : List (Str × V)) (tv : Value) (fd : FuncData) (ps : List Str) (sp : Sp) (n : Nat), x = .ref a ∧ H a = some (.ins C dx fs) ∧ TyX X.K H y tv ∧ PySem.W.notFirst X.K C tv = true ∧
  PySem.W.findIn X.K (.ref C) "__eq__" = some (some (.ref f)) ∧ PySem.W.isFn X.K (.ref f) = true ∧ PySem.W.findIn X.K (.ref C) "__ne__" = some (some (.builtin "object.__ne__")) ∧ PySem.W.mroIn X.K C (.type "object") = some true ∧
  FnOk X.prog X.w X.K X.mg X.base (L2.CX X.prog X.w) n f fd ps sp ∧ Room (n + 1) X.A ∧ Binds X.K fd ps [] ∧ sp [x, y] H (fun v H' => ∃ b, v = .bl b ∧ Q (.bl (xor ne b)) H') (fun _ _ _ => False)
theorem own_inst {pins : List (Addr × Obj)} {σ : L2.St} {H : Hp} {s : Shared} {a C dx : Addr} {fs : List (Str × V)} (I : Inv X pins σ H s) (h : H a = some (.ins C dx fs)) : ∃ ox od, PySem.W.InstAt s.heap a ox C od := by
  obtain ⟨mA, J, _⟩ := ins_get I.hok h
  obtain ⟨od, J, _⟩ := J.look
  exact ⟨_, _, J⟩
theorem op_ownE : OpR X (compareOp .Eq) (rOwnE X false) := by
  intro pins s σ H x y v u Q I rx ry h
  obtain ⟨a, C, dx, f, fs, tv, fd, ps, sp, n, rfl, ha, ty, hn, hs, hf, _, _, F, hr, hb, q⟩ := h
  cases (show v = Value.ref a from rx)
  obtain ⟨ox, od, J⟩ := own_inst I ha
  obtain ⟨m, hF⟩ := I.fr
  obtain ⟨P, kt, hp, _⟩ := kit_of I ry ty
  refine PySem.W.cmp_K (op := .Eq) (tb := tv) hr.units0 hF I.ok.mod.kin J (kt.ty _ _ I.kIn hp) hn hs hf ?_
  refine wpAny_mono (run_in (us := [.ref a, u]) (vs := [.ref a, y]) F (hr.mono (Nat.le_succ _)) I.env0 hb I (.cons rfl (.cons ry .nil)) q) (fun w s' z => ?_) fun _ _ x => x
  obtain ⟨z', H', I', rz, b, rfl, qz⟩ := z
  cases (show w = Value.bool b from rz)
  exact ⟨.bl b, H', I', rfl, by simpa using qz⟩
theorem op_ownNe : OpR X (compareOp .NotEq) (rOwnE X true) := by
  intro pins s σ H x y v u Q I rx ry h
  obtain ⟨a, C, dx, f, fs, tv, fd, ps, sp, n, rfl, ha, ty, hn, hs, hf, hne, hm, F, hr, hb, q⟩ := h
  cases (show v = Value.ref a from rx)
  obtain ⟨ox, od, J⟩ := own_inst I ha
  obtain ⟨P, kt, hp, _⟩ := kit_of I ry ty
  refine ne_K (tb := tv) (by have := hr.un; omega) I.kIn J (kt.ty _ _ I.kIn hp) hn hs hf hne hm ?_
  refine wpAny_mono (run_in (us := [.ref a, u]) (vs := [.ref a, y]) F hr.in1 I.env0.in1 hb I (.cons rfl (.cons ry .nil)) q) (fun w s' z => ?_) fun _ _ x => x
  obtain ⟨z', H', I', rz, b, rfl, qz⟩ := z
  cases (show w = Value.bool b from rz)
  exact ⟨b, rfl, .bl (!b), H', I', rfl, by simpa using qz⟩
/-- x == y: where x is an object, by its own def -/
def noLst : PV → Bool
  | .lst _ => false
  | _ => true
def oOwnE (Γ : Tab) (t : List (Nat × Nat)) (ne : Bool) (x y : PV) : R PV := match x with
  | .obj c fs => match t.lookup c with
    | some i => if noLst y && y.ty.isSome then (match Γ i [.obj c fs, y] with
      | .ok (.bl b) => .ok (.bl (xor ne b))
      | _ => .bad) else .bad
    | none => .bad
  | x => if ne then oNe x y else oEq x y
omit [CK G X] ck in
theorem oOwnE_ok {t : List (Nat × Nat)} {ne : Bool} (x y : PV) (c : Nat) (fs : List PV) : oOwnE Γ t ne x y ≠ .ex c fs := fun h => by
  unfold oOwnE at h
  split at h
  · split at h
    · split at h
      · split at h <;> cases h
      · cases h
    · cases h
  · split at h
    · unfold oNe at h; split at h <;> cases h
    · unfold oEq at h; split at h <;> cases h
omit ck in
theorem DataB.stab {F H : Hp} {v : V} {d : PV} (h : DataB G F H v d) (n : noLst d = true) : Data G F v d := by
  rcases h with h | ⟨a, rfl, h⟩
  · exact h
  · cases d with
    | lst ds => cases n
    | _ => exact h.elim
include ck in
theorem own_step [c : Prg G X n Γ D fn] {t : List (Nat × Nat)} (ht : (t.all fun p => D.mth p.1 "__eq__" == some p.2) = true) {F H : Hp} {v u : V} {cc : Nat} {fs : List PV} {y : PV} {Q : VK} {d : PV} {ne : Bool} (e : Same F H) (dx : DataB G F H v (.obj cc fs)) (dy : DataB G F H u y)
    (q : oOwnE Γ t ne (.obj cc fs) y = .ok d) (k : ∀ v' F' H', Grow F H F' H' → Data G F' v' d → Q v' H') : rOwnE X ne v u H Q := by
  simp only [oOwnE] at q
  cases hl : t.lookup cc with
  | none => rw [hl] at q; cases q
  | some i =>
    rw [hl] at q
    simp only at q
    have h1 := List.all_eq_true.mp ht (cc, i) (mem_of_lookup hl)
    simp only [beq_iff_eq] at h1
    obtain ⟨hni, C, I, hC, hI, hm⟩ := c.mth cc _ i h1
    obtain ⟨hkp, hb⟩ := c.ok i I hI
    by_cases hc : (noLst y && y.ty.isSome) = true
    · rw [if_pos hc] at q
      rw [Bool.and_eq_true] at hc
      obtain ⟨ty, hty⟩ := Option.isSome_iff_exists.mp hc.2
      obtain ⟨tv, htv, htx⟩ := tyX_of (X := X) e dy hty
      have d1 : Data G F v (.obj cc fs) := dx.stab rfl
      have d2 : Data G F u y := dy.stab hc.1
      cases hg : Γ i [.obj cc fs, y] with
      | bad => rw [hg] at q; cases q
      | ex _ _ => rw [hg] at q; cases q
      | ok z =>
        rw [hg] at q
        cases z with
        | bl b =>
          cases q
          cases id d1 with
          | @obj a C' ddx _ gs _ e1 e2 e3 e4 =>
            rw [hC] at e1
            cases e1
            obtain ⟨_, _, _, o2⟩ := ck.ins cc C hC
            refine ⟨a, C, ddx, I.f, gs, tv, I.fd, I.ps, _, n, rfl, e _ _ e2, htx, ck.nf cc C ty tv hC htv, hm.at_, hm.fn, ck.ne cc C hC, o2, c.fnn i I hI hni, c.room, hb, ?_⟩
            refine ⟨F, [.obj cc fs, y], e, .cons d1 (.cons d2 .nil), c.len i I _ hI hni (by rw [hg]; exact fun z => nomatch z), ?_⟩
            rw [hg]
            intro v' F' H' g dv
            cases dv
            exact ⟨b, rfl, k _ F' H' g (.bl _)⟩
        | _ => cases q
    · rw [if_neg hc] at q; cases q
include ck in
theorem q_eqO [c : Prg G X n Γ D fn] (t : List (Nat × Nat)) (ht : (t.all fun p => D.mth p.1 "__eq__" == some p.2) = true := by rfl) : BinOk G X .s (compareOp .Eq) (oOwnE Γ t false) where
  ex := by
    obtain ⟨r, h1, h2⟩ := (b_eq (G := G) (X := X) (by have := c.room.un; omega)).ex
    refine ⟨_, opr_or h1 op_ownE, fun F H v u x y Q d e dx dy q k => ?_⟩
    cases x with
    | obj cc fs => exact .inr (own_step ht e dx dy q k)
    | _ => exact .inl (h2 F H v u _ y Q d e dx dy q k)
  ok := fun x y c fs => oOwnE_ok x y c fs
include ck in
theorem q_neO [c : Prg G X n Γ D fn] (t : List (Nat × Nat)) (ht : (t.all fun p => D.mth p.1 "__eq__" == some p.2) = true := by rfl) : BinOk G X .s (compareOp .NotEq) (oOwnE Γ t true) where
  ex := by
    obtain ⟨r, h1, h2⟩ := (b_ne (G := G) (X := X) (by have := c.room.un; omega)).ex
    refine ⟨_, opr_or h1 op_ownNe, fun F H v u x y Q d e dx dy q k => ?_⟩
    cases x with
    | obj cc fs => exact .inr (own_step ht e dx dy q k)
    | _ => exact .inl (h2 F H v u _ y Q d e dx dy q k)
  ok := fun x y c fs => oOwnE_ok x y c fs

/-! ### len -/
def rOwnLen (X : Cx) : List V → Hp → VK → Prop := fun xs H Q => ∃ (a C dx f : Addr) (fs : List (Str × V)) (fd : FuncData) (ps : List Str) (sp : Sp) (n : Nat), xs = [.ref a] ∧ H a = some (.ins C dx fs) ∧
  PySem.W.findIn X.K (.ref C) "__len__" = some (some (.ref f)) ∧ PySem.W.isFn X.K (.ref f) = true ∧ FnOk X.prog X.w X.K X.mg X.base (L2.CX X.prog X.w) n f fd ps sp ∧ Room (n + 1) X.A ∧ Binds X.K fd ps [] ∧
  sp xs H (fun v H' => ∃ i : Int, v = .int i ∧ 0 ≤ i ∧ i < 2 ^ 63 ∧ Q (.int i) H') (fun _ _ _ => False)
theorem call_ownLen : CallR X (.builtin "len") (rOwnLen X) := by
  intro pins s σ H xs us Q I r h
  obtain ⟨a, C, dx, f, fs, fd, ps, sp, n, rfl, ha, hs, hf, F, hr, hb, q⟩ := h
  obtain ⟨u, rfl, ru⟩ := r.one
  cases (show u = Value.ref a from ru)
  obtain ⟨ox, od, J⟩ := own_inst I ha
  obtain ⟨m, hF⟩ := I.fr
  refine PySem.W.len_K hF I.ok.mod.kin J hs hf ?_
  refine wpAny_mono (run_in (us := [.ref a]) (vs := [.ref a]) F hr.in1 I.env0.in1 hb I r q) (fun w s' z => ?_) fun _ _ x => x
  obtain ⟨z', H', I', rz, i, rfl, h0, h1, qz⟩ := z
  obtain ⟨t', rfl⟩ := (show ∃ t, w = Value.int i t from rz)
  exact ⟨⟨h0, h1⟩, .int i, H', I'.tok _, ⟨_, rfl⟩, qz⟩
def oOwnL (Γ : Tab) (t : List (Nat × Nat)) (x : PV) : R PV := match x with
  | .obj c fs => match t.lookup c with
    | some i => (match Γ i [.obj c fs] with
      | .ok (.int n) => if 0 ≤ n ∧ n < 2 ^ 63 then .ok (.int n) else .bad
      | _ => .bad)
    | none => .bad
  | x => oLen x
theorem b_ownL [c : Prg G X n Γ D fn] (t : List (Nat × Nat)) (ht : (t.all fun p => D.mth p.1 "__len__" == some p.2) = true := by rfl) : CallOk G X .s (.builtin "len") false (f1 (oOwnL Γ t)) := by
  obtain ⟨r, h1, h2⟩ := (b_len (G := G) (X := X)).ex
  refine call1 (callr_or h1 call_ownLen) (fun d c fs h => ?_) fun F H v x Q d e dv q k => ?_
  · unfold oOwnL at h
    split at h
    · split at h
      · split at h
        · split at h <;> cases h
        · cases h
      · cases h
    · exact absurd h (f1_ok (g := oLen) (fun d c fs h => by unfold oLen at h; split at h <;> split at h <;> cases h) [_] _ _)
  · cases x with
    | obj cc fs =>
      refine .inr ?_
      simp only [oOwnL] at q
      cases hl : t.lookup cc with
      | none => rw [hl] at q; cases q
      | some i =>
        rw [hl] at q
        simp only at q
        have h1 := List.all_eq_true.mp ht (cc, i) (mem_of_lookup hl)
        simp only [beq_iff_eq] at h1
        obtain ⟨hni, C, I, hC, hI, hm⟩ := c.mth cc _ i h1
        obtain ⟨hkp, hb⟩ := c.ok i I hI
        have d1 : Data G F v (.obj cc fs) := dv.stab rfl
        cases hg : Γ i [.obj cc fs] with
        | bad => rw [hg] at q; cases q
        | ex _ _ => rw [hg] at q; cases q
        | ok z =>
          rw [hg] at q
          cases z with
          | int m =>
            simp only at q
            split at q
            · rename_i hc
              cases q
              cases id d1 with
              | @obj a C' ddx _ gs _ e1 e2 e3 e4 =>
                rw [hC] at e1
                cases e1
                refine ⟨a, C, ddx, I.f, gs, I.fd, I.ps, _, n, rfl, e _ _ e2, hm.at_, hm.fn, c.fnn i I hI hni, c.room, hb, ?_⟩
                refine ⟨F, [.obj cc fs], e, .cons d1 .nil, c.len i I _ hI hni (by rw [hg]; exact fun z => nomatch z), ?_⟩
                rw [hg]
                intro v' F' H' g dv
                cases dv
                exact ⟨m, rfl, hc.1, hc.2, k _ F' H' g (.int _)⟩
            · cases q
          | _ => cases q
    | _ => exact .inl (h2 F H [v] [_] Q d e (.cons dv .nil) q k)
end

/-! ### o.m(k = v, ..) -/
section
variable {G : Cfg} {X : Cx} [CK G X] {W : WX} {k k1 k2 k3 : Kd} {e a b c : Expr} {es : List Expr} {f fa fb fc : DE} {fl fk : DA} {pos : Pos} {n : Nat} {Γ : Tab} {D : PrgD} {fn : Nat → Option FnI} {kws : List Keyword}
/-- self and what is handed over, in the parameters' order -/
def dMethK (Γ : Tab) (t : List (Nat × List Nat × Nat)) (fo : DE) (fl fk : DA) : DE := fun ρ => (fo ρ).bind fun x => match x with
  | .obj c fs => match t.lookup c with
    | some (ix, i) => (fl ρ).bind fun ds => (fk ρ).bind fun es => Γ i (pick ix (.obj c fs :: (ds ++ es)))
    | none => .bad
  | _ => .bad
theorem e_methK0 {m : Str} {ks : List Str} {t : List (Nat × List Nat × Nat)} {o : Expr} {fo : DE} {apos : Pos} {pl : Sem Bool} [c : Prg G X n Γ D fn] (tk : Takes X W) (ho : EOk G X W k o fo) (hkw : KOk G X W kws fk) (hk : k.st = true := by rfl)
    (ht : (t.all fun p => D.mth p.1 m == some p.2.2 && decide (m ∉ G.names p.1) && (D.kw p.2.2).contains (1, ks, p.2.1)) = true)
    (hakl : ∀ ρ ds, fk ρ = .ok ds → ds.length = ks.length)
    (hall : (backToKw pos (keywordEach kws X.env)).all (·.1.isSome) = true := by rfl) (hks : (backToKw pos (keywordEach kws X.env)).filterMap (·.1) = ks := by rfl)
    (hpl : ((backTo pos (starEach [] X.env)).any (·.1) || (backToKw pos (keywordEach kws X.env)).any (·.1.isNone)) = false := by rfl)
    (hev : eval (.Call (.Attribute o m apos) [] kws pos) X.env = (do
      let ov ← eval o X.env
      standAt apos.atName
      let (f, first) ← holding [ov] (getMethod ov m pl)
      callWith pos f first (backTo pos (starEach [] X.env)) (backToKw pos (keywordEach kws X.env))) := by rfl) : EOk G X W .s (.Call (.Attribute o m apos) [] kws pos) (dMethK Γ t fo dNil fk) := by
  refine ⟨fun pins s σ H Q I0 ⟨w, F, ρ, rl, q⟩ => ?_⟩
  unfold dMethK at q
  refine PySem.W.methodCall_KW (pl := pl) (thn (ho.run pins s σ H (fun v H1 => ∃ F1 x, Grow F H F1 H1 ∧ Data G F1 v x ∧ fo ρ = .ok x) I0 ⟨w, F, ρ, rl, ?_⟩) fun u s1 ⟨v, H1, I1, rv, F1, x, g1, dx, hx⟩ => ?_) hev
  · cases hx : fo ρ with
    | bad => rw [hx] at q; exact q
    | ex c fs => rw [hx] at q; exact q
    | ok x =>
      intro v F1 H1 g1 d1
      obtain ⟨F1', g1', d1'⟩ := d1.stable hk g1
      exact ⟨F1', x, g1', d1', rfl⟩
  · rw [hx] at q
    cases x with
    | obj cc fs =>
      replace q : ARes G W .s F H σ Q (match t.lookup cc with
        | some (ix, i) => (fk ρ).bind fun es => Γ i (pick ix (.obj cc fs :: ([] ++ es)))
        | none => .bad) := q
      cases ht' : t.lookup cc with
      | none => rw [ht'] at q; exact q.elim
      | some ixi =>
        obtain ⟨ix, i⟩ := ixi
        rw [ht'] at q
        replace q : ARes G W .s F H σ Q ((fk ρ).bind fun es => Γ i (pick ix (.obj cc fs :: es))) := q
        have h1 := List.all_eq_true.mp ht (cc, (ix, i)) (mem_of_lookupG (c := cc) ht')
        simp only [Bool.and_eq_true, beq_iff_eq, decide_eq_true_eq, List.contains_iff_mem] at h1
        obtain ⟨hni, C, I, hC, hI, hm⟩ := c.mth cc m i h1.1.1
        have kb := c.kw i I _ hI h1.2
        cases dx with
        | @obj a C' ddx _ gs _ e1 e2 e3 e4 =>
          rw [hC] at e1
          cases e1
          obtain rfl : u = Value.ref a := rv
          have ck := CK.cl (X := X) cc C hC
          refine getmeth_ok I1 (g1.fh _ _ e2) ck.1 hm (lookup_none (by rw [e3]; exact h1.1.2)) ?_
          refine PySem.W.callWith_KW0 (first := [.ref a]) (h₀ := X.base) I1.ok.mod.kin hm.kp hall (thn (hkw.run.run pos pins s1 σ H1 (fun zs H2 => ∃ F2 es, Grow F1 H1 F2 H2 ∧ Datas G F2 zs es ∧ fk ρ = .ok es) I1 ⟨w, F1, ρ, rl.grow g1, ?_⟩) fun ws s2 ⟨zs, H2, I3, rz, F2, es', g2, d2, hes⟩ => ⟨I3.kIn, ?_⟩) hpl
          · cases hes : fk ρ with
            | bad => rw [hes] at q; exact q
            | ex c fs => rw [hes] at q; exact fun cls dd F2 H2 g2 x => q cls dd F2 H2 (g1.trans g2) x
            | ok es' => exact fun vs F2 H2 g2 d2 => ⟨F2, es', g2, d2, rfl⟩
          · rw [hes] at q
            rw [hks]
            have g12 := g1.trans g2
            have pr := PRes.of (ARes.from (x := Γ i (pick ix (.obj cc fs :: es'))) g12 q)
            refine run_fnNS (us := [.ref a]) (vs := [.ref a]) (E := WE W σ) (c.fnn i I hI hni) (c.room.mono (Nat.le_succ _)) kb (passAt tk σ) I3 (.cons rfl .nil) rz rfl (by rw [d2.length]; exact hakl ρ es' hes) ?_
            exact ⟨F2, _, g12.fh, pick_datas (.cons (.obj hC (g2.f _ _ e2) e3 (e4.mono g2.f)) d2), c.len i I _ hI hni pr.ne, pr⟩
    | _ => exact q.elim
end
end PP

/-! PPMax: max and min of a tuple of ints. -/
namespace PP
open PySem PySem.Spec PyProof.Rows L2
section
variable {prog : Program} {w : World} {A : Around} {E : Value → Shared → Prop} {s : Shared} {l : Addr} {xs : Array (Int × Tok)}
theorem iter_intTup {vs : Array Value} {Q : Value → Shared → Prop} (hl : s.heap.IsTuple l vs)
    (h : ∀ s₂ : Shared, s₂ = { s with heap := s.heap.push { cls := .type "tuple_iterator", data := .fields #[.ref l, .int 0 0] } } →
      (s₂.heap.IsTupleIter s.heap.objs.size l 0 ∧ s₂.heap.IsTuple l vs) → (∀ b ∈ [s.heap.objs.size, l], b < s₂.heap.objs.size) → l ≠ s.heap.objs.size → Q (.ref s.heap.objs.size) s₂) :
    wpAny (model prog w) A (pyIter (.ref l)) Q E s := by
  have hlt : l < s.heap.objs.size := by obtain ⟨_, e, _⟩ := hl; exact Heap.lt_size e
  refine iter_tuple hl (h _ rfl ⟨⟨_, Heap.get?_push_size _ rfl, rfl, rfl⟩, hl.push _⟩ (fun b hb => ?_) (Nat.ne_of_lt hlt))
  show b < (s.heap.push _).objs.size
  rw [Heap.size_push]
  rcases List.mem_cons.mp hb with rfl | hb
  · exact Nat.lt_succ_self _
  · rcases List.mem_cons.mp hb with rfl | hb
    · exact Nat.lt_succ_of_lt hlt
    · cases hb
theorem old_keptO {h' : Heap} {o : Obj} (hk : ∀ b u, b ∉ [s.heap.objs.size] → (s.heap.push o).get? b = some u → h'.get? b = some u) :
    ∀ b u, s.heap.get? b = some u → h'.get? b = some u := fun b u e => by
  refine hk b u (fun hm => ?_) (Heap.get?_push_of_some _ e)
  rcases List.mem_cons.mp hm with e1 | hm
  · exact absurd (e1 ▸ Heap.lt_size e) (Nat.lt_irrefl _)
  · cases hm
theorem max_intTup {Q : Value → Shared → Prop} (hh : A.handled = none) (hl : s.heap.IsTuple l (intItems xs)) (hne : 0 < xs.size)
    (h : ∀ v h' tk, (intItems xs)[argBest (fun i j => decide (numAt xs i > numAt xs j)) (xs.size - 1)]? = some v → (∀ b o, s.heap.get? b = some o → h'.get? b = some o) → Q v { s with heap := h', toks := tk }) :
    wpAny (model prog w) A (call (.builtin "max") [.ref l]) Q E s := by
  refine call_max_walk (iter_intTup hl fun s₂ e st hfp hlI => ?_)
  subst e
  refine ⟨_, _, _, _, _, _, _, rfl, Walks.tuple (A := A.in1) hh _ l hlI (intItems xs), st, hfp, by simpa [intItems] using hne, CmpOf.ints_gt (numAt xs) (fun _ _ => intItems_at), fun v h' tk hP hk => ?_⟩
  exact h v h' tk (by simpa [intItems] using hP) (old_keptO hk)
theorem min_intTup {Q : Value → Shared → Prop} (hh : A.handled = none) (hl : s.heap.IsTuple l (intItems xs)) (hne : 0 < xs.size)
    (h : ∀ v h' tk, (intItems xs)[argBest (fun i j => decide (numAt xs i < numAt xs j)) (xs.size - 1)]? = some v → (∀ b o, s.heap.get? b = some o → h'.get? b = some o) → Q v { s with heap := h', toks := tk }) :
    wpAny (model prog w) A (call (.builtin "min") [.ref l]) Q E s := by
  refine call_min_walk (iter_intTup hl fun s₂ e st hfp hlI => ?_)
  subst e
  refine ⟨_, _, _, _, _, _, _, rfl, Walks.tuple (A := A.in1) hh _ l hlI (intItems xs), st, hfp, by simpa [intItems] using hne, CmpOf.ints_lt (numAt xs) (fun _ _ => intItems_at), fun v h' tk hP hk => ?_⟩
  exact h v h' tk (by simpa [intItems] using hP) (old_keptO hk)
end
section
variable {prog : Program} {w : World} {A : Around} {E : Value → Shared → Prop} {s : Shared} {l : Addr} {its : List Value} {ns : List Int} {Q : Value → Shared → Prop}
theorem max_rawT (hh : A.handled = none) (hl : s.heap.IsTuple l its.toArray) (hi : IntsAre its ns) (hne : 0 < ns.length)
    (h : ∀ h' tk M t', (∀ b o, s.heap.get? b = some o → h'.get? b = some o) → M ∈ ns → (∀ a, a ∈ ns → a ≤ M) → Q (.int M t') { s with heap := h', toks := tk }) : wpAny (model prog w) A (call (.builtin "max") [.ref l]) Q E s := by
  obtain ⟨xs, e⟩ := hi.allInts.items
  have hn : numsOf (intItems xs).toList = ns := by rw [← e]; exact hi.numsOf
  rw [nums_intItems] at hn
  subst hn
  rw [e] at hl
  have hsz : 0 < xs.size := by simpa using hne
  refine max_intTup hh hl hsz fun v h' tk hv hk => ?_
  obtain ⟨t, rfl⟩ := intItems_at hv
  obtain ⟨h1, h2⟩ := argBest_gt (numAt xs) (xs.size - 1)
  refine h h' tk _ t hk ?_ fun a ha => ?_
  · rw [numAt_eq]; exact PySem.getD_mem (by rw [List.length_map, Array.length_toList]; omega)
  · obtain ⟨j, hj, rfl⟩ := mem_getD ha
    rw [List.length_map, Array.length_toList] at hj
    rw [← numAt_eq]; exact h2 j (by omega)
theorem min_rawT (hh : A.handled = none) (hl : s.heap.IsTuple l its.toArray) (hi : IntsAre its ns) (hne : 0 < ns.length)
    (h : ∀ h' tk M t', (∀ b o, s.heap.get? b = some o → h'.get? b = some o) → M ∈ ns → (∀ a, a ∈ ns → M ≤ a) → Q (.int M t') { s with heap := h', toks := tk }) : wpAny (model prog w) A (call (.builtin "min") [.ref l]) Q E s := by
  obtain ⟨xs, e⟩ := hi.allInts.items
  have hn : numsOf (intItems xs).toList = ns := by rw [← e]; exact hi.numsOf
  rw [nums_intItems] at hn
  subst hn
  rw [e] at hl
  have hsz : 0 < xs.size := by simpa using hne
  refine min_intTup hh hl hsz fun v h' tk hv hk => ?_
  obtain ⟨t, rfl⟩ := intItems_at hv
  obtain ⟨h1, h2⟩ := argBest_lt (numAt xs) (xs.size - 1)
  refine h h' tk _ t hk ?_ fun a ha => ?_
  · rw [numAt_eq]; exact PySem.getD_mem (by rw [List.length_map, Array.length_toList]; omega)
  · obtain ⟨j, hj, rfl⟩ := mem_getD ha
    rw [List.length_map, Array.length_toList] at hj
    rw [← numAt_eq]; exact h2 j (by omega)
end
section
variable {G : Cfg} {X : Cx} [CK G X]
def rMaxT (K : PySem.W.Frag) : List V → Hp → VK → Prop := fun vs H Q => ∃ (a : Addr) (ns : List Int), vs = [V.ref a] ∧ SqT K H a (ns.map V.int) ∧ 0 < ns.length ∧ ∀ m, m ∈ ns → (∀ y, y ∈ ns → y ≤ m) → Q (.int m) H
def rMinT (K : PySem.W.Frag) : List V → Hp → VK → Prop := fun vs H Q => ∃ (a : Addr) (ns : List Int), vs = [V.ref a] ∧ SqT K H a (ns.map V.int) ∧ 0 < ns.length ∧ ∀ m, m ∈ ns → (∀ y, y ∈ ns → m ≤ y) → Q (.int m) H
theorem cr_maxT (hc : X.calm = true) : CallR X (.builtin "max") (rMaxT X.K) := by
  intro pins s σ H vs us Q I r h
  obtain ⟨a, ns, rfl, hs, hne, q⟩ := h
  obtain ⟨its, rv, hl, _⟩ := I.tuple hs
  rw [Vals.ref1 r]
  exact max_rawT (I.ok.hd hc) hl rv.ints hne fun h' tk m t' hk h1 h2 => ⟨.int _, H, I.kept hk, ⟨_, rfl⟩, q m h1 h2⟩
theorem cr_minT (hc : X.calm = true) : CallR X (.builtin "min") (rMinT X.K) := by
  intro pins s σ H vs us Q I r h
  obtain ⟨a, ns, rfl, hs, hne, q⟩ := h
  obtain ⟨its, rv, hl, _⟩ := I.tuple hs
  rw [Vals.ref1 r]
  exact min_rawT (I.ok.hd hc) hl rv.ints hne fun h' tk m t' hk h1 h2 => ⟨.int _, H, I.kept hk, ⟨_, rfl⟩, q m h1 h2⟩
def oMaxA (d : PV) : R PV := match d with
  | .tup ds => match intsP ds with
    | some (n :: r) => .ok (.int (maxI n r))
    | _ => .bad
  | d => oMax d
def oMinA (d : PV) : R PV := match d with
  | .tup ds => match intsP ds with
    | some (n :: r) => .ok (.int (minI n r))
    | _ => .bad
  | d => oMin d
theorem b_maxA (hc : X.calm = true) : CallOk G X .s (.builtin "max") false (f1 oMaxA) := by
  obtain ⟨r, h1, h2⟩ := (b_max (G := G) (X := X) hc).ex
  refine call1 (callr_or h1 (cr_maxT hc)) (fun d c fs h => ?_) fun F H v x Q d e dv q k => ?_
  · unfold oMaxA at h
    split at h
    · split at h <;> cases h
    · exact absurd h ((b_max (G := G) (X := X) hc).ok [_] _ _)
  · cases x with
    | tup ds =>
      refine .inr ?_
      simp only [oMaxA] at q
      cases hi : intsP ds with
      | none => rw [hi] at q; cases q
      | some ns =>
        rw [hi] at q
        cases ns with
        | nil => cases q
        | cons n r =>
          cases q
          obtain ⟨a, vs, rfl, h3, h4⟩ := dv.tup
          rw [intsP_of h4 hi] at h3
          refine ⟨a, n :: r, rfl, sqTX (sqT_same e h3), by simp, fun m hm hle => ?_⟩
          obtain ⟨s1, s2⟩ := maxI_spec r n
          have em : m = maxI n r := Int.le_antisymm (s2 m hm) (hle _ s1)
          rw [em]
          exact k _ F H (.refl e) (.int _)
    | _ => exact .inl (h2 F H [v] [_] Q d e (.cons dv .nil) q k)
theorem b_minA (hc : X.calm = true) : CallOk G X .s (.builtin "min") false (f1 oMinA) := by
  obtain ⟨r, h1, h2⟩ := (b_min (G := G) (X := X) hc).ex
  refine call1 (callr_or h1 (cr_minT hc)) (fun d c fs h => ?_) fun F H v x Q d e dv q k => ?_
  · unfold oMinA at h
    split at h
    · split at h <;> cases h
    · exact absurd h ((b_min (G := G) (X := X) hc).ok [_] _ _)
  · cases x with
    | tup ds =>
      refine .inr ?_
      simp only [oMinA] at q
      cases hi : intsP ds with
      | none => rw [hi] at q; cases q
      | some ns =>
        rw [hi] at q
        cases ns with
        | nil => cases q
        | cons n r =>
          cases q
          obtain ⟨a, vs, rfl, h3, h4⟩ := dv.tup
          rw [intsP_of h4 hi] at h3
          refine ⟨a, n :: r, rfl, sqTX (sqT_same e h3), by simp, fun m hm hle => ?_⟩
          obtain ⟨s1, s2⟩ := minI_spec r n
          have em : m = minI n r := Int.le_antisymm (hle _ s1) (s2 m hm)
          rw [em]
          exact k _ F H (.refl e) (.int _)
    | _ => exact .inl (h2 F H [v] [_] Q d e (.cons dv .nil) q k)
end
end PP

set_option maxHeartbeats 1000000
/-! PPRev: tuple(reversed(x)), x a tuple or a list. -/
namespace PP
open PySem PySem.Spec PyProof.Rows L2
namespace RvT
theorem nolen_rt : typeLookup (.type "reversed") "__len__" = pure none := by rw [typeLookup_type, builtinLookup_eq_fast]; kernel_rfl
theorem hint_rt : typeLookup (.type "reversed") "__length_hint__" = pure (some (.builtin "reversed.__length_hint__")) := by rw [typeLookup_type, builtinLookup_eq_fast]; kernel_rfl
theorem slot_rt_hint : PySem.Slot "reversed" "__length_hint__" "reversed.__length_hint__" :=
  .of (owner := "reversed") (n := "__length_hint__") (by rw [typeLookup_type, builtinLookup_eq_fast]; kernel_rfl) (by decide +kernel) (by decide +kernel) (by decide +kernel)
    (by first | exact .inl (by decide +kernel) | exact .inr (by decide +kernel)) (by rw [isSubtype_type]; kernel_rfl)
theorem entry_rt_hint : entryFor table "reversed.__length_hint__" = some Builtin.«reversed.__length_hint__» := entryFor_of_tree (by kernel_rfl)
theorem args_rt_hint (a : Value) : argsOk "reversed.__length_hint__" ⟨[a], []⟩ := by
  unfold argsOk; rw [signature?_of (id := "reversed.__length_hint__") (n := ['_', '_', 't', 'n', 'i', 'h', '_', 'h', 't', 'g', 'n', 'e', 'l', '_', '_']) (o := ['d', 'e', 's', 'r', 'e', 'v', 'e', 'r']) (by kernel_rfl) RT.owner_rt]; kernel_rfl
theorem isTup_at {h h' : Heap} {a : Addr} {items : Array Value} (x : IsTup h a items) (e : ∀ o, h.get? a = some o → h'.get? a = some o) : IsTup h' a items := let ⟨o, ho, r⟩ := x; ⟨o, e _ ho, r⟩
section
variable {prog : Program} {w : World} {A : Around} {E : Value → Shared → Prop} {s : Shared}
theorem walks_rt (hh : A.handled = none) (I t : Addr) (hne : t ≠ I) (items : Array Value) (hsz : items.size ≤ sizeLine) :
    PySem.Walks prog w A I [I, t] [I] items.size (fun i v => items[items.size - 1 - i]? = some v) (fun i h => i ≤ items.size ∧ RT.IsRt h I t ((items.size : Int) - 1 - (i : Int)) ∧ IsTup h t items) where
  sub := fun b hb => by simp at hb; simp [hb]
  frame := fun _ _ _ x hk => ⟨x.1, x.2.1.at fun o e => hk I (by simp) o e, isTup_at x.2.2 fun o e => hk t (by simp) o e⟩
  item := fun i s Q E hi x hQ => by
    have e : (items.size : Int) - 1 - (i : Int) = ((items.size - 1 - i : Nat) : Int) := by omega
    have hit := x.2.1
    rw [e] at hit
    have hx : items[items.size - 1 - i]? = some (items[items.size - 1 - i]'(by omega)) := Array.getElem?_eq_getElem (by omega)
    refine RT.next_rt_item hit x.2.2 hx hsz fun h' hit' hs' => ?_
    have e2 : ((items.size - 1 - i : Nat) : Int) - 1 = (items.size : Int) - 1 - ((i + 1 : Nat) : Int) := by omega
    rw [e2] at hit'
    exact hQ _ h' (s.toks + 1) hx ⟨hi, hit', isTup_at x.2.2 fun o eo => (hs'.2 t hne).trans eo⟩ fun b o hb eo => hs'.extBut b o (fun h => hb (by simp [h])) eo
  done := fun s Q E x hQ => by
    have e : (items.size : Int) - 1 - (items.size : Int) = -1 := by omega
    have hit := x.2.1
    rw [e] at hit
    exact RT.next_rt_end hh hit fun h' he' => hQ h' s.toks fun b o hb eo => he' b o (fun h => hb (by simp [h])) eo
  self := fun _ _ _ _ x hQ => RT.iter_rt x.2.1 hQ
/-- what the extension asks of the length: more than nothing, or nothing -/
theorem hint_run {it t : Addr} {items : Array Value} {Q : Bool → Shared → Prop} (hit : RT.IsRt s.heap it t ((items.size : Int) - 1)) (ht : IsTup s.heap t items) (hn : items.size ≤ sizeLine)
    (hQ : ∀ tk, Q (((items.size : Int)) != 0) { s with toks := tk }) : wpAny (model prog w) A (Builtin.List.listLengthHint (.ref it)) Q E s := by
  have hT : s.TypeIs (.ref it) "reversed" := hit.typeIs
  have hn2 := hn
  rw [sizeLine_eq] at hn2
  obtain ⟨o, ho, hc, hd⟩ := id hit
  unfold Builtin.List.listLengthHint
  refine wpAny_bind (wpAny_specialOf hT nolen_rt ?_)
  show wpAny _ A (specialOf (Value.ref it) (Str.ofString "__length_hint__") >>= _) _ _ _
  refine wpAny_bind (wpAny_specialOf hT hint_rt ?_)
  generalize hid : ("reversed.__length_hint__" : String) = id0
  wp_delta
  rw [show splitId id0 = some ("reversed", "__length_hint__") from by subst hid; decide +kernel]
  subst hid
  refine wpAny_bind (wpAny_isInstance (b := true) hT (by rw [isSubtype_type]; kernel_rfl) ?_)
  refine PySem.W.KFB.if_not rfl ?_
  refine PySem.W.KFB.if_not (by decide +kernel) ?_
  refine wpAny_bind (wpAny_rule ?_)
  refine wpAny_bind (wpAny_of_eq (slot_rt_hint.bind _) ?_)
  try dsimp only
  refine wpAny_bind (wpAny_attempt (wpAny_call_entry slot_rt_hint hT entry_rt_hint ?_ (args_rt_hint _)))
  unfold Builtin.«reversed.__length_hint__»
  refine wpAny_bind (wpAny_of_eq (a := Value.ref it) (by first | rfl | kernel_rfl) ?_)
  try dsimp only
  refine wpAny_bind (wpAny_field ho hd (x := .ref t) rfl ?_)
  try dsimp only
  refine PySem.W.KFB.if_not (by first | rfl | decide) ?_
  refine wpAny_bind (len_tuple ht (by omega) ?_)
  refine wpAny_bind (wpAny_of_eq (a := some ((items.size : Nat) : Int)) rfl ?_)
  try dsimp only
  refine wpAny_bind (wpAny_field (s := { s with toks := s.toks + 1 + 1 }) ho hd (x := rawInt ((items.size : Int) - 1)) rfl ?_)
  show wpAny _ _ (if ((items.size : Nat) : Int) < ((items.size : Int) - 1) + 1 then _ else _) _ _ _
  rw [if_neg (by omega), show ((items.size : Int) - 1) + 1 = ((items.size : Nat) : Int) by omega]
  show wpAny _ _ (mkInt ((items.size : Nat) : Int) >>= fun v => ret v) _ _ _
  refine wpAny_bind (wpAny_mkInt (wpAny_pure ⟨_, rfl, ?_⟩))
  refine wpAny_bind ?_
  unfold asInt?
  refine wpAny_pure ?_
  have hfit : Builtin.List.listFitsIndex ((items.size : Nat) : Int) = true := by
    show (decide (-(2 ^ 63 : Int) ≤ ((items.size : Nat) : Int)) && decide (((items.size : Nat) : Int) < 2 ^ 63)) = true
    rw [Bool.and_eq_true]
    exact ⟨decide_eq_true (Int.le_trans (by decide) (Int.natCast_nonneg _)), decide_eq_true (Int.lt_of_le_of_lt (show ((items.size : Nat) : Int) ≤ 16777216 by omega) (by decide))⟩
  have hlong : Builtin.List.listTooLong ((items.size : Nat) : Int).toNat = false := by
    show decide (((items.size : Nat) : Int).toNat > sizeLine) = false
    exact decide_eq_false (by rw [Int.toNat_natCast]; omega)
  have hneg : ¬ ((items.size : Nat) : Int) < 0 := by omega
  generalize hI : ((items.size : Nat) : Int) = n at *
  show wpAny _ _ (if (!Builtin.List.listFitsIndex n) = true then _ else _) _ _ _
  rw [hfit]
  refine PySem.W.KFB.if_not rfl ?_
  rw [if_neg hneg]
  refine PySem.W.KFB.if_not hlong ?_
  exact wpAny_pure (hQ _)
/-- reversed(t) collected -/
theorem collect_rt {it t : Addr} {items : Array Value} {Q : List Value → Shared → Prop} (hh : A.handled = none) (hit : RT.IsRt s.heap it t ((items.size : Int) - 1)) (ht : IsTup s.heap t items) (hne : t ≠ it) (hn : items.size ≤ sizeLine)
    (hQ : ∀ (h' : Heap) (tk : Nat) (acc : Array Value), (∀ b o, b ≠ it → s.heap.get? b = some o → h'.get? b = some o) → ItemsOf (fun i v => items[items.size - 1 - i]? = some v) acc items.size → Q acc.toList { s with heap := h', toks := tk }) :
    wpAny (model prog w) A (collect (.ref it)) Q E s := by
  have W := (walks_rt (prog := prog) (w := w) (A := A.in1) hh it t hne items hn).toS
  obtain ⟨oi, hoi, _⟩ := id hit
  obtain ⟨ol, hol, _⟩ := id ht
  have hSi : s.heap.objs.size ≠ it := Nat.ne_of_gt (Heap.lt_size hoi)
  have hSl : s.heap.objs.size ≠ t := Nat.ne_of_gt (Heap.lt_size hol)
  have hSf : s.heap.objs.size ∉ [it, t] := by simp only [List.mem_cons, List.not_mem_nil, or_false, not_or]; exact ⟨hSi, hSl⟩
  unfold collect
  refine wpAny_bind (wpAny_runValue (codeAny_builtin F.entry_proto_collect ?_))
  rw [Around.under_plainId F.plain_proto_collect _]
  show wpAny _ A.in1 (newList [] >>= fun l' => again (.builtin "list.__iadd__" ⟨[l', .ref it], []⟩)) _ _ s
  refine wpAny_bind (wpAny_newObj_type ?_)
  refine wpAny_pure ⟨plainId_quiet F.plain_list_iadd _, codeAny_builtin F.entry_list_iadd ?_⟩
  rw [Around.under_plainId F.plain_list_iadd _]
  have hS₁ : (s.heap.push { cls := .type "list", data := .seq ([] : List Value).toArray }).get? s.heap.objs.size = some { cls := .type "list", data := .seq ([] : List Value).toArray } := Heap.get?_push_size _ rfl
  have hit1 : RT.IsRt (s.heap.push { cls := .type "list", data := .seq ([] : List Value).toArray }) it t ((items.size : Int) - 1) := hit.at fun o e => Heap.get?_push_of_some _ e
  have ht1 : IsTup (s.heap.push { cls := .type "list", data := .seq ([] : List Value).toArray }) t items := ht.push _
  have hT : ({ s with heap := s.heap.push { cls := .type "list", data := .seq ([] : List Value).toArray } } : Shared).TypeIs (.ref it) "reversed" := RT.IsRt.typeIs (s := { s with heap := s.heap.push { cls := .type "list", data := .seq ([] : List Value).toArray } }) hit1
  have h1 : Builtin.List.listSameRef (.ref s.heap.objs.size) (.ref it) = false := by simp [Builtin.List.listSameRef, hSi]
  have h2 : (Value.type "reversed" == Value.type "list") = false := by decide
  have h3 : (Value.type "reversed" == Value.type "tuple") = false := by decide
  show wpAny _ A.in1 (Builtin.List.listExtendWith (.ref s.heap.objs.size) (.ref it) (.ref s.heap.objs.size)) _ _ _
  unfold Builtin.List.listExtendWith
  refine wpAny_bind (wpAny_typeOf hT ?_)
  simp only [h1, h2, h3, Bool.or_false, Bool.false_eq_true, if_false]
  refine wpAny_bind (RT.iter_rt (s := { s with heap := s.heap.push { cls := .type "list", data := .seq ([] : List Value).toArray } }) hit1 ?_)
  refine wpAny_bind (wpAny_holding (hint_run (s := { s with heap := s.heap.push { cls := .type "list", data := .seq ([] : List Value).toArray } }) hit1 ht1 hn fun tk => ?_))
  have e0 : ((items.size : Nat) : Int) - 1 - ((0 : Nat) : Int) = (items.size : Int) - 1 := by omega
  by_cases h0 : items.size = 0
  · have hb : (((items.size : Nat) : Int) != 0) = false := by rw [h0]; rfl
    rw [hb]
    refine PySem.W.KFB.if_not (by decide +kernel) ?_
    refine wpAny_pure ⟨plainId_quiet F.plain_extend_loop _, codeAny_extend_loopS W hn _ hSf _ items.size 0 _ _ _ rfl (Nat.zero_le _) ⟨Nat.zero_le _, by rw [e0]; exact hit1, ht1⟩ hS₁ (ItemsOf.nil _) fun s' acc' c' hm hS' hacc => ?_⟩
    show wpAny _ A (load s.heap.objs.size >>= _) _ _ s'
    refine wpAny_bind (wpAny_load hS' ?_)
    refine wpAny_pure ?_
    rw [Moved.eq_with hm]
    refine hQ s'.heap s'.toks acc' (fun b o hb e => hm.heap b o (fun hmem => ?_) (Heap.get?_push_of_some _ e)) hacc
    rcases List.mem_cons.mp hmem with e' | hmem
    · exact absurd (Heap.lt_size e) (by rw [e']; exact Nat.lt_irrefl _)
    · exact hb (List.mem_singleton.mp hmem)
  · have hb : (((items.size : Nat) : Int) != 0) = true := by simp [h0]
    rw [hb]
    refine PySem.W.KFB.if_so rfl ?_
    refine wpAny_bind (wpAny_rule ?_)
    refine wpAny_bind ?_
    show wpAny _ A.in1 (updateSeq s.heap.objs.size (·.push .none) >>= fun _ => updateSeq s.heap.objs.size (·.pop)) _ _ _
    refine wpAny_bind (wpAny_updateSeq hS₁ rfl ?_)
    have hS₂ := Heap.get?_update_self (Obj.mapSeq (·.push Value.none)) hS₁ rfl
    refine wpAny_updateSeq hS₂ rfl ?_
    have hS₃ := Heap.get?_update_self (Obj.mapSeq (·.pop)) hS₂ rfl
    have oth : ∀ b o, b ≠ s.heap.objs.size → (s.heap.push { cls := .type "list", data := .seq ([] : List Value).toArray }).get? b = some o →
        (((s.heap.push { cls := .type "list", data := .seq ([] : List Value).toArray }).update s.heap.objs.size (Obj.mapSeq (·.push Value.none))).update s.heap.objs.size (Obj.mapSeq (·.pop))).get? b = some o :=
      fun b o hb e => (Heap.get?_update_other _ _ (Ne.symm hb)).trans ((Heap.get?_update_other _ _ (Ne.symm hb)).trans e)
    refine wpAny_pure ⟨plainId_quiet F.plain_extend_loop _, codeAny_extend_loopS W hn _ hSf _ items.size 0 _ _ _ rfl (Nat.zero_le _) ⟨Nat.zero_le _, by rw [e0]; exact hit1.at fun o e => oth _ o hSi.symm e, isTup_at ht1 fun o e => oth _ o hSl.symm e⟩ hS₃ (ItemsOf.nil _) fun s' acc' c' hm hS' hacc => ?_⟩
    show wpAny _ A (load s.heap.objs.size >>= _) _ _ s'
    refine wpAny_bind (wpAny_load hS' ?_)
    refine wpAny_pure ?_
    rw [Moved.eq_with hm]
    refine hQ s'.heap s'.toks acc' (fun b o hb e => hm.heap b o (fun hmem => ?_) (oth b o (Nat.ne_of_lt (Heap.lt_size e)) (Heap.get?_push_of_some _ e))) hacc
    rcases List.mem_cons.mp hmem with e' | hmem
    · exact absurd (Heap.lt_size e) (by rw [e']; exact Nat.lt_irrefl _)
    · exact hb (List.mem_singleton.mp hmem)
theorem code_tuple_new_rt {it t : Addr} {items : Array Value} {Q₁ : Value → Shared → Prop} (hh : A.handled = none) (hit : RT.IsRt s.heap it t ((items.size : Int) - 1)) (ht : IsTup s.heap t items) (hne : t ≠ it) (hn : items.size ≤ sizeLine)
    (h : ∀ (h' : Heap) (tk : Nat) (acc : Array Value), (∀ b o, b ≠ it → s.heap.get? b = some o → h'.get? b = some o) → ItemsOf (fun i v => items[items.size - 1 - i]? = some v) acc items.size →
      Q₁ (.ref h'.objs.size) { s with heap := h'.push { cls := .type "tuple", data := .seq acc }, toks := tk }) :
    codeAny (model prog w) A (.call (.builtin "tuple.__new__") ⟨[.type "tuple", .ref it], []⟩) (wants Q₁ E) s := by
  refine codeAny_of_tree ?_
  show wpAny _ A.in1 (do checkBuiltinCall "tuple.__new__" ⟨[.type "tuple", .ref it], []⟩; again (.builtin "tuple.__new__" ⟨[.type "tuple", .ref it], []⟩)) _ _ s
  refine wpAny_bind (wpAny_of_eq (F.newCall_tuple_1 _) (wpAny_pure ⟨plainId_quiet F.plain_tuple_new _, codeAny_builtin F.entry_tuple_new ?_⟩))
  rw [Around.under_plainId F.plain_tuple_new _]
  have hsub := sub_tuple_self
  have hinit := init_tuple_lookup
  have hmh := madeHere_tuple
  have hTI : s.TypeIs (.ref it) "reversed" := hit.typeIs
  have hh1 : A.in1.handled = none := hh
  wp_walk using wpAny_typeOf hTI, collect_rt (A := A.in1) hh1 hit ht hne hn
  intro h' tk acc hk hacc
  show wpAny _ _ (Builtin.Tuple.tupleExact acc.toList.toArray >>= fun v => ret v) _ _ _
  unfold Builtin.Tuple.tupleExact
  refine wpAny_bind (wpAny_newObj_type ?_ (by show acc.toList.toArray.size ≤ sizeLine; simp only [Array.toArray_toList]; rw [hacc.1]; exact hn))
  refine wpAny_pure ?_
  have e : acc.toList.toArray = acc := by simp
  rw [e]
  exact h h' tk acc hk hacc
theorem call_tuple_rt {it t : Addr} {items : Array Value} {Q : Value → Shared → Prop} (hh : A.handled = none) (hit : RT.IsRt s.heap it t ((items.size : Int) - 1)) (ht : IsTup s.heap t items) (hne : t ≠ it) (hn : items.size ≤ sizeLine)
    (hQ : ∀ (h' : Heap) (tk : Nat) (acc : Array Value), (∀ b o, b ≠ it → s.heap.get? b = some o → h'.get? b = some o) → ItemsOf (fun i v => items[items.size - 1 - i]? = some v) acc items.size →
      Q (.ref h'.objs.size) { s with heap := h'.push { cls := .type "tuple", data := .seq acc }, toks := tk }) :
    wpAny (model prog w) A (call (.type "tuple") [.ref it]) Q E s := by
  refine callType_codes (Q₁ := fun obj s₁ => s₁.TypeIs obj "tuple" ∧ Q obj s₁) F.called_tuple (F.typeCall_tuple_1 _) F.entry_object_init
    (code_tuple_new_rt (A := A.in1) hh hit ht hne hn fun h' tk acc hk hacc => ⟨⟨_, Heap.get?_push_size _ rfl, rfl⟩, hQ h' tk acc hk hacc⟩) fun obj s₁ h₁ => ?_
  exact ⟨h₁.1, F.args_object_init_2 obj _, object_init_meets F.called_tuple.init.lookup F.called_tuple.made (by decide) prog w A.in1 _ s₁ ⟨h₁.1, rfl, h₁.2⟩⟩
end
end RvT
section
variable {X : Cx}
/-- tuple(reversed(x)), x a tuple -/
def tTupRevT (K : PySem.W.Frag) (te : TE) : TE := fun σ H Q => te σ H fun v H1 => ∃ (a : Addr) (xs : List V), v = .ref a ∧ SqT K H1 a xs ∧ ∀ q, H1 q = none → Q (.ref q) (upd H1 q (.tup xs.reverse))
theorem pe_tupRevT {e : Expr} {te : TE} {p p2 pos pos2 : Pos} (hc : X.calm = true) (hg : Gl X "tuple") (hm : X.mg "tuple" = none) (hg2 : Gl X "reversed") (hm2 : X.mg "reversed" = none) (he : PE X e te)
    (hs : starEach [e] X.env = (false, eval e X.env) :: starEach [] X.env := by rfl)
    (hs2 : starEach [.Call (.Name "reversed" p2) [e] [] pos2] X.env = (false, eval (.Call (.Name "reversed" p2) [e] [] pos2) X.env) :: starEach [] X.env := by rfl) :
    PE X (.Call (.Name "tuple" p) [.Call (.Name "reversed" p2) [e] [] pos2] [] pos) (tTupRevT X.K te) := by
  refine ⟨fun pins s σ H Q I h => ?_⟩
  refine Call_ (ld_blt I hg hm boot_tuple (PyProof.Rows.callWith_type1 (args_cons (Call_ (ld_blt I hg2 hm2 PyProof.Rows.boot_reversed (PyProof.Rows.callWith_type1 (args_cons (thn (he.run pins s σ H _ I h) fun u s1 ⟨v, H1, I1, r1, q1⟩ => args_nil ?_) hs) hs rfl))) hs2) hs2 rfl))
  obtain ⟨a, xs, ev, hq, q⟩ := q1
  subst ev
  obtain rfl : u = Value.ref a := r1
  obtain ⟨its, rv, p', hz⟩ := I1.tuple hq
  have hl := rv.length
  have hn63 := line63
  refine RT.call_reversed_tup p' (fun A E Q k => len_tuple p' (by simp only [List.size_toArray] <;> omega) k) (args_nil ?_)
  have k0 : ∀ b o, s1.heap.get? b = some o → (s1.heap.push (RT.rtObj a ((its.toArray.size : Int) - 1))).get? b = some o := fun b o e => Heap.get?_push_of_some _ e
  have I2 : Inv X pins σ H1 { s1 with heap := s1.heap.push (RT.rtObj a ((its.toArray.size : Int) - 1)), toks := s1.toks + 1 + 1 } := I1.kept (t' := s1.toks + 1 + 1) k0
  obtain ⟨f0, f1, f2, f3, f4, f5⟩ := I1.fpOk (H' := H1) (b := s1.heap.objs.size) (Nat.le_refl _) (I1.hok.fresh (Nat.le_refl _))
  have hne : a ≠ s1.heap.objs.size := Nat.ne_of_lt (IsTup.lt p')
  have hn : its.toArray.size ≤ sizeLine := by rw [List.size_toArray, ← rv.length]; exact hz
  refine RvT.call_tuple_rt (s := { s1 with heap := s1.heap.push (RT.rtObj a ((its.toArray.size : Int) - 1)), toks := s1.toks + 1 + 1 }) (I1.ok.hd hc) ⟨_, Heap.get?_push_size _ rfl, rfl, rfl⟩ (IsTup.push p' _) hne hn fun h' tk acc hk hi => ?_
  have I3 : Inv X pins σ H1 { s1 with heap := h', toks := tk } := I2.turned (t' := tk) (fun b o hb e => hk b o hb e) f0 f1 f3 f4 f5
  refine ⟨.ref h'.objs.size, upd H1 h'.objs.size (.tup xs.reverse), I3.laid (t' := tk) (fun c o e => Heap.get?_push_of_some _ e) (Nat.le_refl _) (show ObjOk X.prog X.w _ _ _ (.tup xs.reverse) from ⟨by rw [List.length_reverse]; exact hz, acc.toList, RT.vals_rev rv hi, ?_⟩), rfl, q _ (I3.hok.fresh (Nat.le_refl _))⟩
  rw [Array.toArray_toList]
  exact IsTup.new _ _
end
section
variable {G : Cfg} {X : Cx} [CK G X] {W : WX} {k : Kd} {a : Expr} {fa : DE} {n : Nat} {Γ : Tab} {D : PrgD} {fn : Nat → Option FnI}
def oTupRev : PV → R PV
  | .tup ds => .ok (.tup ds.reverse)
  | _ => .bad
theorem e_tupRev {p p2 pos pos2 : Pos} [c : Prg G X n Γ D fn] (ha : EOk G X W k a fa) (hc : X.calm = true := by rfl) (hg : Gl X "tuple" := by rfl) (hg2 : Gl X "reversed" := by rfl)
    (hs : starEach [a] X.env = (false, eval a X.env) :: starEach [] X.env := by rfl)
    (hs2 : starEach [.Call (.Name "reversed" p2) [a] [] pos2] X.env = (false, eval (.Call (.Name "reversed" p2) [a] [] pos2) X.env) :: starEach [] X.env := by rfl) :
    EOk G X W .s (.Call (.Name "tuple" p) [.Call (.Name "reversed" p2) [a] [] pos2] [] pos) (dUn oTupRev fa) :=
  (pe_tupRevT hc hg (c.blt "tuple" (by decide)) hg2 (c.blt "reversed" (by decide)) ha hs hs2).wk fun σ H Q ⟨w, F, ρ, r, q⟩ => un_reads r q fun v x F2 H2 g d q' => by
    cases x with
    | tup ds =>
      have d1 : Data G F2 v (.tup ds) := by
        rcases d.toB with z | ⟨_, _, z⟩
        · exact z
        · exact z.elim
      cases d1 with
      | @tup a vs _ h1 k1 =>
        refine ⟨a, vs, rfl, sqTX (sqT_same g.fh h1), fun p np => ?_⟩
        have gl := Grow.laid (o := .tup vs.reverse) g.fh np
        exact q' _ _ _ gl (.tup (.of upd_same) (k1.reverse.mono gl.f))
    | _ => exact q'.elim
end
end PP

/-! PPEnd: a def's denotation; all defs of a program keep their promises. -/
namespace PP
open PySem PySem.Spec L2

def fnDen (np nN : Nat) (s : DS) : List PV → R PV := fun ds => if ds.length = np then (match s (ds.map Slot.fr ++ List.replicate (nN - np) Slot.no) with
  | .rt d => .ok d
  | .ro d => .ok d
  | .nx _ => .ok .non
  | .ex c fs _ => .ex c fs
  | _ => .bad) else .bad
def iniDen (c m np nN : Nat) (s : DS) : List PV → R PV := fun ds => if ds.length + 1 = np then (match s (Slot.sf c [] :: (ds.map Slot.fr ++ List.replicate (nN - np) Slot.no)) with
  | .nx (.sf c' ds' :: _) => if c' = c ∧ ds'.length = m then .ok (.obj c ds') else .bad
  | .ex c' fs _ => .ex c' fs
  | _ => .bad) else .bad
section
variable {G : Cfg} {P : Program} {w : World} {K : PySem.W.Frag} {mg : Str → Option Value} {base : Heap} {D : PrgD} {fn : Nat → Option FnI} {tb : Ty → Ty → Option Bool}
abbrev bodyCx (P : Program) (w : World) (K : PySem.W.Frag) (mg : Str → Option Value) (base : Heap) (N : List Str) (qual : Str) (st : Stmt) (f : Addr) (cdv : Value) (A : Around) (outer : List Env) (s : Shared) (H : Hp) (E : XK) : Cx :=
  cxOf (L2.CX P w) P w K mg base N qual (defScope st) f cdv A outer s H E
abbrev bodyW (E : XK) : WX := fun cls d _ H => E cls d H
/-- what does not change with the fuel -/
structure PrgS (G : Cfg) (K : PySem.W.Frag) (w : World) (mg : Str → Option Value) (D : PrgD) (fn : Nat → Option FnI) (tb : Ty → Ty → Option Bool) : Prop where
  gk : G.K = K
  gw : G.w = w
  cl : ∀ c C, G.cls c = some C → Cls K C ∧ ∀ f ∈ G.names c, NoAttr K C f
  ok : ∀ i I, fn i = some I → PySem.W.keepIn K (.ref I.f) = true ∧ Binds K I.fd I.ps []
  gfn : ∀ x i, D.gfn x = some i → (∀ c, D.ini c ≠ some i) ∧ ∃ I, fn i = some I ∧ mg x = some (.ref I.f)
  blt : ∀ x ∈ bltNames, mg x = none
  con : ∀ x d, D.con x = some d → ∃ v u, mg x = some u ∧ RelV v u ∧ ∀ F, Data G F v d
  gcls : ∀ x c, D.gcls x = some c → ∃ C, G.cls c = some C ∧ mg x = some (.ref C)
  ini : ∀ c i, D.ini c = some i → ∃ C I, G.cls c = some C ∧ fn i = some I ∧ Mk K C I.f
  inj : ∀ c c' i, D.ini c = some i → D.ini c' = some i → c = c'
  mth : ∀ c m i, D.mth c m = some i → (∀ c, D.ini c ≠ some i) ∧ ∃ C I, G.cls c = some C ∧ fn i = some I ∧ Meth K C m I.f
  kw : ∀ i I t, fn i = some I → t ∈ D.kw i → KBn K I.fd I.ps t.1 t.2.1 (fun us ws => pick t.2.2 (us ++ ws)) (fun vs zs => pick t.2.2 (vs ++ zs))
  ins : ∀ c C, G.cls c = some C → PySem.W.findIn K (.ref C) "__class__" = some (some (.builtin "object.__class__")) ∧ PySem.W.specialIn K (.builtin "object.__class__") "__get__" = some (some (.builtin "getset_descriptor.__get__")) ∧
    PySem.W.takesIn K (.builtin "object.__class__") = some true ∧ PySem.W.mroIn K C (.type "object") = some true
  is : ∀ t u tv uv b, tb t u = some b → t.val G = some tv → u.val G = some uv → PySem.W.kitOne K tv uv = some b
  nfc : ∀ (c : Nat) (C : Addr) (c' : Nat) (C' : Addr), G.cls c = some C → G.cls c' = some C' → PySem.W.notFirst K C (.ref C') = true
  ne : ∀ (c : Nat) (C : Addr), G.cls c = some C → PySem.W.findIn K (.ref C) "__ne__" = some (some (.builtin "object.__ne__"))
theorem PrgS.nf {G : Cfg} {K : PySem.W.Frag} {w : World} {mg : Str → Option Value} {D : PrgD} {fn : Nat → Option FnI} {tb : Ty → Ty → Option Bool} (S : PrgS G K w mg D fn tb) (c : Nat) (C : Addr) (t : Ty) (tv : Value) (h : G.cls c = some C) (ht : t.val G = some tv) : PySem.W.notFirst K C tv = true := by
  cases t with
  | cls c' =>
    obtain ⟨C', h1, h2⟩ := Option.map_eq_some_iff.mp (show (G.cls c').map Value.ref = some tv from ht)
    rw [← h2]
    exact S.nfc c C c' C' h h1
  | _ => cases ht; exact nf_ty _ (by decide)
/-- the defs at a level -/
structure PrgL (G : Cfg) (P : Program) (w : World) (K : PySem.W.Frag) (mg : Str → Option Value) (base : Heap) (n : Nat) (Γ : Tab) (D : PrgD) (fn : Nat → Option FnI) : Prop where
  fnn : ∀ i I, fn i = some I → (∀ c, D.ini c ≠ some i) → FnOk P w K mg base (L2.CX P w) n I.f I.fd I.ps (spP G I.ps.length (Γ i))
  fno : ∀ i I, fn i = some I → D.own i = true → FnOk P w K mg base (L2.CX P w) n I.f I.fd I.ps (spO G I.ps.length (Γ i))
  fni : ∀ c i I, D.ini c = some i → fn i = some I → FnOk P w K mg base (L2.CX P w) n I.f I.fd I.ps (spI G I.ps.length c (Γ i))
  len : ∀ i I ds, fn i = some I → (∀ c, D.ini c ≠ some i) → Γ i ds ≠ .bad → ds.length = I.ps.length
  leni : ∀ c i I ds, D.ini c = some i → fn i = some I → Γ i ds ≠ .bad → ds.length + 1 = I.ps.length
theorem PrgS.ck (S : PrgS G K w mg D fn tb) {X : Cx} (hK : X.K = K) (hw : X.w = w) : CK G X := ⟨S.gk.trans hK.symm, S.gw.trans hw.symm, fun c C h => by rw [hK]; exact S.cl c C h⟩
theorem PrgS.prg (S : PrgS G K w mg D fn tb) {n : Nat} {Γ : Tab} (L : PrgL G P w K mg base n Γ D fn) {N : List Str} {qual : Str} {st : Stmt} {f : Addr} {cdv : Value} {A : Around} {outer : List Env} {s : Shared} {H : Hp} {E : XK} (r : Room (n + 1) (A.deeper (PyProof.Rows.envOfC qual (defScope st) s.heap.objs.size f cdv))) :
    Prg G (bodyCx P w K mg base N qual st f cdv A outer s H E) n Γ D fn := ⟨r, S.ok, L.fnn, L.fno, L.fni, L.len, L.leni, S.gfn, S.blt, S.con, S.gcls, S.ini, S.mth, S.kw⟩
/-- a def's body means s (a function of what the defs answer) -/
def BodyOk (G : Cfg) (P : Program) (w : World) (K : PySem.W.Frag) (mg : Str → Option Value) (base : Heap) (D : PrgD) (fn : Nat → Option FnI) (tb : Ty → Ty → Option Bool) (N : List Str) (qual : Str) (st : Stmt) (s : Tab → DS) : Prop :=
  ∀ (n : Nat) (Γ : Tab) (f : Addr) (cdv : Value) (A : Around) (outer : List Env) (sh : Shared) (H : Hp) (E : XK), CK G (bodyCx P w K mg base N qual st f cdv A outer sh H E) → Isi G (bodyCx P w K mg base N qual st f cdv A outer sh H E) tb → Prg G (bodyCx P w K mg base N qual st f cdv A outer sh H E) n Γ D fn →
    SsOk G (bodyCx P w K mg base N qual st f cdv A outer sh H E) (bodyW E) (defBody st) (s Γ)
theorem start_rel {F H : Hp} {N : List Str} {vs : List V} {ds : List PV} (e : Same F H) (d : Datas G F vs ds) (hN : ds.length ≤ N.length) : Rel G ⟨F, H, none⟩ F H (ds.map Slot.fr ++ List.replicate (N.length - ds.length) Slot.no) (L2.start N vs) := by
  refine ⟨⟨.refl _, fun b o _ h => h, fun p h => (nomatch h), e, fun a o h => .inl h⟩, ?_, fun i s h => ?_, fun i j a di dj hne h1 h2 h3 h4 => ?_⟩
  · simp [L2.start, d.length]
  · by_cases hi : i < ds.length
    · rw [List.getElem?_append_left (by simpa using hi), List.getElem?_map, List.getElem?_eq_getElem hi] at h
      cases h
      obtain ⟨v, hv, dv⟩ := d.get' (List.getElem?_eq_getElem hi)
      refine ⟨some v, ?_, v, rfl, dv⟩
      unfold L2.start
      rw [List.getElem?_append_left (by simpa [d.length] using hi), List.getElem?_map, hv]
      rfl
    · have hl := (List.getElem?_eq_some_iff.mp h).1
      rw [List.getElem?_append_right (by simpa using Nat.le_of_not_lt hi), List.getElem?_replicate] at h
      split at h
      · cases h
        simp at hl
        refine ⟨none, ?_, trivial⟩
        unfold L2.start
        rw [List.getElem?_append_right (by simp [d.length]; omega), List.getElem?_replicate, if_pos (by simp [d.length]; omega)]
      · cases h
  · have no : ∀ {i : Nat} {d : PV}, (ds.map Slot.fr ++ List.replicate (N.length - ds.length) Slot.no)[i]? = some (.ow d) → False := fun {i d} h => by
      have := List.mem_of_getElem? h
      simp at this
    exact no h1
theorem fn_ok (S : PrgS G K w mg D fn tb) {n : Nat} {Γ : Tab} (L : PrgL G P w K mg base n Γ D fn) {x qual : Str} {st : Stmt} {N ps : List Str} {f : Addr} {fd : FuncData} {s : Tab → DS} (F : Fun K x qual st f fd) (Sc : FnScope N ps (defScope st))
    (hb : BodyOk G P w K mg base D fn tb N qual st s) (hN : ps.length ≤ N.length) : FnOk P w K mg base (L2.CX P w) (n + 2) f fd ps (spP G ps.length (fnDen ps.length N.length (s Γ))) := by
  refine F.okX Sc (fun vs H Q E h => ?_) fun cdv A outer sh H vs Q E hr h => ?_
  · obtain ⟨F0, ds, _, d, hl, _⟩ := h
    rw [d.length]; exact hl
  · obtain ⟨F0, ds, e, d, hl, pr⟩ := h
    refine ⟨_, hb n Γ f cdv A outer sh H E (S.ck rfl rfl) ⟨S.ins, S.is, S.nf, S.ne⟩ (S.prg L hr), ⟨F0, H, none⟩, F0, _, start_rel e d (by rw [hl]; exact hN), ?_⟩
    unfold fnDen at pr
    rw [if_pos hl] at pr
    rw [← hl] at pr
    have hbase : ∀ {F' H' : Hp}, Base ⟨F0, H, none⟩ F' H' → Grow F0 H F' H' := fun b => b.to rfl
    cases hs : s Γ (ds.map Slot.fr ++ List.replicate (N.length - ds.length) Slot.no) with
    | nx ρ' => rw [hs] at pr; exact fun σ' F' H' g r => pr .non F' H' (hbase r.base) .non
    | rt v => rw [hs] at pr; exact fun v' F' H' b dv => pr v' F' H' (hbase b) dv
    | ro v =>
      rw [hs] at pr
      rintro v' F' H' b ⟨a, rfl, n0, nf, ho⟩
      cases v with
      | lst ds0 =>
        obtain ⟨us, hu, dd⟩ := ho
        have sh : Same (upd F' a (.lst us)) H' := fun x o q => by
          by_cases hx : x = a
          · subst hx; rw [upd_same] at q; cases q; exact hu
          · rw [upd_ne hx] at q; exact b.fh x o q
        have sf : Same F' (upd F' a (.lst us)) := fun x o q => by rw [upd_ne (ne_of_none q nf)]; exact q
        have b2 : Base ⟨F0, H, none⟩ (upd F' a (.lst us)) H' := ⟨b.f.trans sf, b.h, b.hp, sh, fun x o q => by
          by_cases hx : x = a
          · subst hx; exact .inr n0
          · rw [upd_ne hx] at q; exact b.new x o q⟩
        exact pr (.ref a) _ H' (hbase b2) (.lst upd_same (dd.mono sf))
      | _ => exact ho.elim
    | ex c fs ρ' => rw [hs] at pr; exact fun cls dd σ' F' H' g r x => pr cls dd F' H' (hbase r.base) x
    | bk ρ' => rw [hs] at pr; exact pr.elim
    | ct ρ' => rw [hs] at pr; exact pr.elim
    | bad => rw [hs] at pr; exact pr.elim
/-- a def that only hands out lists of its own -/
theorem fn_okO (S : PrgS G K w mg D fn tb) {n : Nat} {Γ : Tab} (L : PrgL G P w K mg base n Γ D fn) {x qual : Str} {st : Stmt} {N ps : List Str} {f : Addr} {fd : FuncData} {s : Tab → DS} (F : Fun K x qual st f fd) (Sc : FnScope N ps (defScope st))
    (hb : BodyOk G P w K mg base D fn tb N qual st s) (hN : ps.length ≤ N.length) (hno : ∀ ρ, (∀ d, s Γ ρ ≠ .rt d) ∧ ∀ ρ', s Γ ρ ≠ .nx ρ') : FnOk P w K mg base (L2.CX P w) (n + 2) f fd ps (spO G ps.length (fnDen ps.length N.length (s Γ))) := by
  refine F.okX Sc (fun vs H Q E h => ?_) fun cdv A outer sh H vs Q E hr h => ?_
  · obtain ⟨F0, ds, _, d, hl, _⟩ := h
    rw [d.length]; exact hl
  · obtain ⟨F0, ds, e, d, hl, pr⟩ := h
    refine ⟨_, hb n Γ f cdv A outer sh H E (S.ck rfl rfl) ⟨S.ins, S.is, S.nf, S.ne⟩ (S.prg L hr), ⟨F0, H, none⟩, F0, _, start_rel e d (by rw [hl]; exact hN), ?_⟩
    unfold fnDen at pr
    rw [if_pos hl] at pr
    rw [← hl] at pr
    have hbase : ∀ {F' H' : Hp}, Base ⟨F0, H, none⟩ F' H' → Grow F0 H F' H' := fun b => b.to rfl
    have hn := hno (ds.map Slot.fr ++ List.replicate (N.length - ds.length) Slot.no)
    cases hs : s Γ (ds.map Slot.fr ++ List.replicate (N.length - ds.length) Slot.no) with
    | nx ρ' => exact absurd hs (hn.2 ρ')
    | rt v => exact absurd hs (hn.1 v)
    | ro v =>
      rw [hs] at pr
      rintro v' F' H' b ⟨a, rfl, n0, nf, ho⟩
      exact pr (.ref a) F' H' (hbase b) ⟨a, rfl, n0, nf, ho⟩
    | ex c fs ρ' => rw [hs] at pr; exact fun cls dd σ' F' H' g r x => pr cls dd F' H' (hbase r.base) x
    | bk ρ' => rw [hs] at pr; exact pr.elim
    | ct ρ' => rw [hs] at pr; exact pr.elim
    | bad => rw [hs] at pr; exact pr.elim
/-- statements that never hand out a plain value, that never go on -/
def NoP (s : DS) : Prop := ∀ ρ d, s ρ ≠ .rt d
def NoN (s : DS) : Prop := ∀ ρ ρ', s ρ ≠ .nx ρ'
theorem noP_exo {α : Type} {ρ : PEnv} {x : R α} {f : α → Out} {d : PV} (h : ∀ a, f a ≠ .rt d) : exo ρ x f ≠ .rt d := by
  cases x with
  | ok a => exact h a
  | ex c fs => exact fun z => nomatch z
  | bad => exact fun z => nomatch z
section
variable {s t : DS} {c : DT} {f fi : DE} {g : DG} {it : DA} {i : Nat} {is : List Nat}
theorem noP_seq (h : NoP s) (k : NoP t) : NoP (sSeq s t) := fun ρ d => by
  unfold sSeq
  have := h ρ d
  cases hs : s ρ with
  | nx ρ1 => exact k ρ1 d
  | rt v => rw [hs] at this; exact this
  | _ => exact fun z => nomatch z
theorem noP_nx : NoP sNx := fun _ _ z => nomatch z
theorem noP_bad : NoP sBad := fun _ _ z => nomatch z
theorem noP_brk : NoP sBrk := fun _ _ z => nomatch z
theorem noP_cnt : NoP sCnt := fun _ _ z => nomatch z
theorem noP_asg : NoP (sAsg i f) := fun _ _ => noP_exo fun _ z => nomatch z
theorem noP_asgO : NoP (sAsgO i f) := fun _ _ => noP_exo fun _ z => nomatch z
theorem noP_drop : NoP (sDrop f) := fun _ _ => noP_exo fun _ z => nomatch z
theorem noP_asgG : NoP (sAsgG f g) := fun ρ _ => noP_exo fun a => by cases g a ρ <;> exact fun z => nomatch z
theorem noP_aug {g : PV → PV → R PV} : NoP (sAug i g f) := fun ρ d => by
  unfold sAug
  split
  · exact noP_exo fun _ => noP_exo fun _ z => nomatch z
  · exact fun z => nomatch z
theorem noP_app : NoP (sApp i f) := fun ρ d => by
  unfold sApp
  split
  · exact noP_exo fun _ => by split <;> exact fun z => nomatch z
  · exact fun z => nomatch z
theorem noP_ext : NoP (sExt i f) := fun ρ d => by
  unfold sExt
  split
  · refine noP_exo fun _ => ?_
    split
    · split <;> exact fun z => nomatch z
    · exact fun z => nomatch z
  · exact fun z => nomatch z
theorem noP_setI : NoP (sSetI i fi f) := fun ρ d => by
  unfold sSetI
  refine noP_exo fun _ => ?_
  split
  · refine noP_exo fun _ => ?_
    split
    · split <;> exact fun z => nomatch z
    · exact fun z => nomatch z
  · exact fun z => nomatch z
theorem noP_if (h : NoP s) (k : NoP t) : NoP (sIf c s t) := fun ρ d => noP_exo fun b => by
  cases b
  · exact k ρ d
  · exact h ρ d
theorem noP_frz (h : NoP s) : NoP (sFrz is s) := fun ρ d => h _ d
theorem noP_thF (h : NoP s) : NoP (sThF i s) := fun ρ d => by
  unfold sThF
  have := h ρ d
  cases hs : s ρ with
  | nx ρ1 => exact fun z => nomatch z
  | rt v => rw [hs] at this; exact this
  | _ => exact fun z => nomatch z
theorem noP_forL (h : NoP s) : ∀ (ds : List PV), NoP (forL g s ds)
  | [] => fun _ _ z => nomatch z
  | d :: r => fun ρ v => by
    unfold forL
    cases g d ρ with
    | ok ρ1 =>
      have := h ρ1 v
      cases hs : s ρ1 with
      | nx ρ2 => simp only [hs]; exact noP_forL h r ρ2 v
      | ct ρ2 => simp only [hs]; exact noP_forL h r ρ2 v
      | bk ρ2 => simp only [hs]; exact fun z => nomatch z
      | rt v' => simp only [hs]; rw [hs] at this; exact this
      | _ => simp only [hs]; exact fun z => nomatch z
    | _ => exact fun z => nomatch z
theorem noP_for (h : NoP s) : NoP (sFor it g s) := fun ρ d => noP_exo fun ds => noP_forL h ds ρ d
theorem noP_retO : NoP (sRetO i) := fun ρ d => by
  unfold sRetO
  split <;> exact fun z => nomatch z
theorem noP_retX : NoP (sRetX f) := fun _ _ => noP_exo fun _ z => nomatch z
theorem noN_retX : NoN (sRetX f) := fun ρ ρ' => by
  unfold sRetX
  cases f ρ <;> exact fun z => nomatch z
theorem noN_retO : NoN (sRetO i) := fun ρ d => by
  unfold sRetO
  split <;> exact fun z => nomatch z
theorem noN_seq (k : NoN t) : NoN (sSeq s t) := fun ρ ρ' => by
  unfold sSeq
  cases hs : s ρ with
  | nx ρ1 => exact k ρ1 ρ'
  | _ => exact fun z => nomatch z
theorem noN_frz (h : NoN s) : NoN (sFrz is s) := fun ρ d => h _ d
theorem noN_if (h : NoN s) (k : NoN t) : NoN (sIf c s t) := fun ρ d => by
  unfold sIf
  cases c ρ with
  | ok b => cases b; exact k ρ d; exact h ρ d
  | ex c fs => exact fun z => nomatch z
  | bad => exact fun z => nomatch z
end
theorem ini_ok (S : PrgS G K w mg D fn tb) {n : Nat} {Γ : Tab} (L : PrgL G P w K mg base n Γ D fn) {x qual : Str} {st : Stmt} {N ps : List Str} {f : Addr} {fd : FuncData} {s : Tab → DS} {c : Nat} (F : Fun K x qual st f fd) (Sc : FnScope N ps (defScope st))
    (hb : BodyOk G P w K mg base D fn tb N qual st s) (hN : ps.length ≤ N.length) : FnOk P w K mg base (L2.CX P w) (n + 2) f fd ps (spI G ps.length c (iniDen c (G.names c).length ps.length N.length (s Γ))) := by
  refine F.okX Sc (fun vs H Q E h => ?_) fun cdv A outer sh H vs Q E hr h => ?_
  · obtain ⟨F0, ds, p, dx, C, us, rfl, hC, e, fp, hp, d, hl, _⟩ := h
    rw [List.length_cons, d.length]; exact hl
  · obtain ⟨F0, ds, p, dx, C, us, rfl, hC, e, fp, hp, d, hl, pr⟩ := h
    have hrel : Rel G ⟨F0, H, some p⟩ F0 H (Slot.sf c [] :: (ds.map Slot.fr ++ List.replicate (N.length - ps.length) Slot.no)) (L2.start N (.ref p :: us)) := by
      obtain ⟨N0, N', rfl⟩ : ∃ N0 N', N = N0 :: N' := by
        cases N with
        | nil => exact absurd hN (by rw [← hl]; simp)
        | cons a r => exact ⟨a, r, rfl⟩
      have r0 := start_rel (G := G) (N := N') e d (by simp at hN; omega)
      have en : (N0 :: N').length - ps.length = N'.length - ds.length := by rw [List.length_cons]; omega
      rw [en]
      have es : L2.start (N0 :: N') (.ref p :: us) = some (.ref p) :: L2.start N' us := by
        unfold L2.start
        simp only [List.map_cons, List.length_cons, List.cons_append, Nat.add_sub_add_right]
      rw [es]
      refine ⟨⟨.refl _, fun b o _ h => h, fun p' h => by cases h; exact ⟨_, hp⟩, e, fun a o h => .inl h⟩, by simp [r0.len.symm], fun i sl h => ?_, fun i j a di dj hne h1 h2 h3 h4 => ?_⟩
      · cases i with
        | zero =>
          simp at h
          subst h
          exact ⟨_, rfl, p, C, dx, [], rfl, rfl, fp, ⟨_, hp⟩, hC, hp, by simp, .nil⟩
        | succ i =>
          rw [List.getElem?_cons_succ] at h
          obtain ⟨v, h1, h2⟩ := r0.ok i sl h
          refine ⟨v, by rw [List.getElem?_cons_succ]; exact h1, ?_⟩
          have := List.mem_of_getElem? h
          cases sl with
          | fr d => exact h2
          | no => trivial
          | ow d => simp at this
          | sf c d => simp at this
      · have no : ∀ {i : Nat} {d : PV}, (Slot.sf c [] :: (ds.map Slot.fr ++ List.replicate (N'.length - ds.length) Slot.no))[i]? = some (.ow d) → False := fun {i d} h => by
          have := List.mem_of_getElem? h
          simp at this
        exact no h1
    refine ⟨_, hb n Γ f cdv A outer sh H E (S.ck rfl rfl) ⟨S.ins, S.is, S.nf, S.ne⟩ (S.prg L hr), ⟨F0, H, some p⟩, F0, _, hrel, ?_⟩
    unfold iniDen at pr
    rw [if_pos hl] at pr
    have gg : ∀ {F' H' : Hp}, Base ⟨F0, H, some p⟩ F' H' → Same F0 F' ∧ Same F' H' ∧ (∀ b o, b ≠ p → H b = some o → H' b = some o) ∧ (∀ a o, F' a = some o → F0 a = some o ∨ H a = none) := fun b =>
      ⟨b.f, b.fh, fun x o hx q => b.h x o (fun z => hx (Option.some.inj z).symm) q, b.new⟩
    cases hs : s Γ (Slot.sf c [] :: (ds.map Slot.fr ++ List.replicate (N.length - ps.length) Slot.no)) with
    | nx ρ' =>
      rw [hs] at pr
      cases ρ' with
      | nil => exact pr.elim
      | cons sl ρr =>
        cases sl with
        | sf c' ds' =>
          simp only at pr
          by_cases hc : c' = c ∧ ds'.length = (G.names c).length
          · rw [if_pos hc] at pr
            obtain ⟨rfl, hdl⟩ := hc
            intro σ' F' H' g r
            obtain ⟨sv, hsv, p', C', dx', fs, _, es, np, _, ec, eh, en, kk⟩ := r.ok 0 _ rfl
            cases es
            rw [hC] at ec
            cases ec
            obtain ⟨g1, g2, g3, g4⟩ := gg r.base
            exact pr dx' fs ds' F' H' rfl g1 g2 g3 g4 np eh (by rw [en, hdl, List.take_length]) kk
          · rw [if_neg hc] at pr; exact pr.elim
        | _ => exact pr.elim
    | ex c' fs ρ' =>
      rw [hs] at pr
      intro cls dd σ' F' H' g r x
      obtain ⟨g1, g2, g3, g4⟩ := gg r.base
      have np : F' p = none := by
        cases z : F' p with
        | none => rfl
        | some o =>
          rcases g4 p o z with q | q
          · rw [fp] at q; cases q
          · rw [hp] at q; cases q
      exact pr cls dd F' H' g1 g2 g3 g4 np x
    | rt v => rw [hs] at pr; exact pr.elim
    | ro v => rw [hs] at pr; exact pr.elim
    | bk ρ' => rw [hs] at pr; exact pr.elim
    | ct ρ' => rw [hs] at pr; exact pr.elim
    | bad => rw [hs] at pr; exact pr.elim
/-- all defs: i's body means s i -/
structure DefOk (G : Cfg) (P : Program) (w : World) (K : PySem.W.Frag) (mg : Str → Option Value) (base : Heap) (D : PrgD) (fn : Nat → Option FnI) (tb : Ty → Ty → Option Bool) (I : FnI) (step : Tab → List PV → R PV) (ini : Option Nat) (own : Bool) : Prop where
  ex : ∃ (x qual : Str) (st : Stmt) (N : List Str) (s : Tab → DS), Fun K x qual st I.f I.fd ∧ FnScope N I.ps (defScope st) ∧ BodyOk G P w K mg base D fn tb N qual st s ∧ I.ps.length ≤ N.length ∧
    match ini with
    | none => (∀ Γ, step Γ = fnDen I.ps.length N.length (s Γ)) ∧ (own = true → ∀ Γ, NoP (s Γ) ∧ NoN (s Γ))
    | some c => ∀ Γ, step Γ = iniDen c (G.names c).length I.ps.length N.length (s Γ)
def tab (step : Nat → Tab → List PV → R PV) : Nat → Tab
  | 0 => fun _ _ => .bad
  | n + 1 => fun i => step i (tab step n)
theorem fnDen_len {np nN : Nat} {s : DS} {ds : List PV} (h : fnDen np nN s ds ≠ .bad) : ds.length = np := by
  unfold fnDen at h
  split at h
  · assumption
  · exact absurd rfl h
theorem iniDen_len {c m np nN : Nat} {s : DS} {ds : List PV} (h : iniDen c m np nN s ds ≠ .bad) : ds.length + 1 = np := by
  unfold iniDen at h
  split at h
  · assumption
  · exact absurd rfl h
theorem all_ok (S : PrgS G K w mg D fn tb) {step : Nat → Tab → List PV → R PV} (h : ∀ i I, fn i = some I → (∀ c, D.ini c ≠ some i) → DefOk G P w K mg base D fn tb I (step i) none (D.own i)) (hi : ∀ c i I, D.ini c = some i → fn i = some I → DefOk G P w K mg base D fn tb I (step i) (some c) false) (hown : ∀ c i, D.ini c = some i → D.own i = false) :
    ∀ m, PrgL G P w K mg base (2 * m) (tab step m) D fn
  | 0 => {
      fnn := fun i I _ _ => ⟨fun vs H Q E h => by obtain ⟨_, _, _, _, _, z⟩ := h; exact z.elim, fun A outer s H args us vs Q E _ _ _ _ h => by obtain ⟨_, _, _, _, _, z⟩ := h; exact z.elim⟩
      fno := fun i I _ _ => ⟨fun vs H Q E h => by obtain ⟨_, _, _, _, _, z⟩ := h; exact z.elim, fun A outer s H args us vs Q E _ _ _ _ h => by obtain ⟨_, _, _, _, _, z⟩ := h; exact z.elim⟩
      fni := fun c i I _ _ => ⟨fun vs H Q E h => by obtain ⟨_, _, _, _, _, _, _, _, _, _, _, _, _, z⟩ := h; exact z.elim, fun A outer s H args us vs Q E _ _ _ _ h => by obtain ⟨_, _, _, _, _, _, _, _, _, _, _, _, _, z⟩ := h; exact z.elim⟩
      len := fun i I ds _ _ z => absurd rfl z
      leni := fun c i I ds _ _ z => absurd rfl z }
  | m + 1 => {
      fnn := fun i I hI hn => by
        obtain ⟨x, qual, st, N, s, F, Sc, hb, hN, he, _⟩ := (h i I hI hn).ex
        show FnOk P w K mg base (L2.CX P w) (2 * m + 2) I.f I.fd I.ps (spP G I.ps.length (step i (tab step m)))
        rw [he]
        exact fn_ok S (all_ok S h hi hown m) F Sc hb hN
      fno := fun i I hI ho => by
        have hn : ∀ c, D.ini c ≠ some i := fun c z => by rw [hown c i z] at ho; cases ho
        obtain ⟨x, qual, st, N, s, F, Sc, hb, hN, he, hno⟩ := (h i I hI hn).ex
        show FnOk P w K mg base (L2.CX P w) (2 * m + 2) I.f I.fd I.ps (spO G I.ps.length (step i (tab step m)))
        rw [he]
        exact fn_okO S (all_ok S h hi hown m) F Sc hb hN fun ρ => ⟨fun d => (hno ho _).1 ρ d, fun ρ' => (hno ho _).2 ρ ρ'⟩
      fni := fun c i I hc hI => by
        obtain ⟨x, qual, st, N, s, F, Sc, hb, hN, he⟩ := (hi c i I hc hI).ex
        show FnOk P w K mg base (L2.CX P w) (2 * m + 2) I.f I.fd I.ps (spI G I.ps.length c (step i (tab step m)))
        rw [he]
        exact ini_ok S (all_ok S h hi hown m) F Sc hb hN
      len := fun i I ds hI hn z => by
        obtain ⟨x, qual, st, N, s, F, Sc, hb, hN, he, _⟩ := (h i I hI hn).ex
        have z' : step i (tab step m) ds ≠ .bad := z
        rw [he] at z'
        exact fnDen_len z'
      leni := fun c i I ds hc hI z => by
        obtain ⟨x, qual, st, N, s, F, Sc, hb, hN, he⟩ := (hi c i I hc hI).ex
        have z' : step i (tab step m) ds ≠ .bad := z
        rw [he] at z'
        exact iniDen_len z' }

/-! ### the law -/
def spLaw (K : PySem.W.Frag) : Sp := fun vs H Q E => ∃ (a : Addr) (ns : List Int), vs = [.ref a] ∧ ns.length ≤ 63 ∧ SqL K H a (ns.map V.int) ∧ ∀ H', Q (.bl true) H'
theorem law_ok {step : Nat → Tab → List PV → R PV} {m i : Nat} {I : FnI} (pure : ∀ ns : List Int, ns.length ≤ 63 → tab step m i [.scr (ns.map PV.int)] = .ok (.bl true)) (gk : G.K = K) (L : PrgL G P w K mg base (2 * m) (tab step m) D fn) (hI : fn i = some I) (hps : I.ps = [("script" : Str)]) (hn : ∀ c, D.ini c ≠ some i) :
    FnOk P w K mg base (L2.CX P w) (2 * m) I.f I.fd [("script" : Str)] (spLaw K) := by
  have h := L.fnn i I hI hn
  rw [hps] at h
  refine h.imp fun vs H Q E ⟨a, ns, e, hl, hs, q⟩ => ?_
  subst e
  refine ⟨H, [.scr (ns.map PV.int)], .refl _, .cons (.scr (by rw [gk]; exact hs) (Datas.ints ns)) .nil, rfl, ?_⟩
  rw [pure ns hl]
  intro v F' H' g d
  cases d
  exact q H'
/-! ### lists of facts -/
def AllI {α : Type} (p : Nat → α → Prop) : Nat → List α → Prop
  | _, [] => True
  | i, a :: r => p i a ∧ AllI p (i + 1) r
theorem AllI.get {α : Type} {p : Nat → α → Prop} : ∀ {n : Nat} {l : List α} {i : Nat} {a : α}, AllI p n l → l[i]? = some a → p (n + i) a
  | _, [], _, _, _, h => by simp at h
  | n, b :: r, 0, a, h, e => by
    simp at e
    subst e
    exact h.1
  | n, b :: r, i + 1, a, h, e => by
    have := AllI.get h.2 (show r[i]? = some a by simpa using e)
    rw [Nat.add_right_comm] at this
    exact this
theorem AllI.get0 {α : Type} {p : Nat → α → Prop} {l : List α} {i : Nat} {a : α} (h : AllI p 0 l) (e : l[i]? = some a) : p i a := by
  have := h.get e
  rwa [Nat.zero_add] at this
def AllL {α : Type} (p : α → Prop) : List α → Prop
  | [] => True
  | a :: r => p a ∧ AllL p r
theorem AllL.mem {α : Type} {p : α → Prop} {a : α} : ∀ {l : List α}, AllL p l → a ∈ l → p a
  | [], _, h => by simp at h
  | b :: r, h, e => by
    rcases List.mem_cons.mp e with rfl | e
    · exact h.1
    · exact AllL.mem h.2 e
theorem mem_of_lookupS {α : Type} {t : List (Str × α)} {c : Str} {i : α} (hl : t.lookup c = some i) : (c, i) ∈ t := by
  induction t with
  | nil => cases hl
  | cons p r ih =>
    rw [List.lookup_cons] at hl
    by_cases hc : c = p.1
    · rw [hc, beq_self_eq_true] at hl
      cases hl
      rw [hc]
      exact List.mem_cons_self
    · rw [show (c == p.1) = false by simpa using hc] at hl
      exact List.mem_cons_of_mem _ (ih hl)
theorem ini_ne {t : List (Nat × Nat)} {i : Nat} (h : (t.any fun p => p.2 == i) = false) : ∀ c, t.lookup c ≠ some i := fun c z => by
  have := List.any_eq_false.mp h _ (mem_of_lookup z)
  simp at this
theorem kbn {K : PySem.W.Frag} {fd : FuncData} {ps ks : List Str} {n : Nat} {ix : List Nat} (h : ∀ (s : Shared) (us ws : List Value), K.In s.heap → us.length = n → ws.length = ks.length → BindsTo s fd ⟨us, ks.zip ws⟩ (ps.zip (pick ix (us ++ ws)))) : KBn K fd ps n ks (fun us ws => pick ix (us ++ ws)) (fun vs zs => pick ix (vs ++ zs)) := ⟨h, fun r rz => pick_vals (r.append rz)⟩
theorem ini_inj {t : List (Nat × Nat)} (h : ∀ p ∈ t, ∀ q ∈ t, p.2 = q.2 → p.1 = q.1) {c c' i : Nat} (h1 : t.lookup c = some i) (h2 : t.lookup c' = some i) : c = c' := h _ (mem_of_lookup h1) _ (mem_of_lookup h2) rfl
theorem kw_of {α : Type} {P : Nat → α → Prop} {t : List (Nat × List α)} (h : AllL (fun q : Nat × List α => AllL (fun x => P q.1 x) q.2) t) {i : Nat} {x : α} (hx : x ∈ (t.lookup i).getD []) : P i x := by
  cases hl : t.lookup i with
  | none => rw [hl] at hx; simp at hx
  | some l =>
    rw [hl] at hx
    have h2 := AllL.mem (p := fun q : Nat × List α => AllL (fun x => P q.1 x) q.2) h (mem_of_lookupG hl)
    exact AllL.mem (p := fun x => P i x) h2 hx
theorem isi_at {K : PySem.W.Frag} {t u tv uv : Value} {b : Bool} (h : PySem.W.kitOne K t u = some b) (ht : some t = some tv) (hu : some u = some uv) : PySem.W.kitOne K tv uv = some b := by
  cases ht; cases hu; exact h
/-! ### written dicts -/
def entW (e : DictEntry) : Option (Str × Int × PV) := match e.key, e.val with
  | .str x _, .int i _ => some (x, e.hash, .int i)
  | .str x _, .str y _ => some (x, e.hash, .str y)
  | .str x _, .bool b => some (x, e.hash, .bl b)
  | .str x _, .none => some (x, e.hash, .non)
  | _, _ => none
def kdW (K : PySem.W.Frag) (a : Addr) : Option (List (Option (Str × Int × PV))) := match K.lookup a with
  | some ⟨.type c, none, .dict es _, sl⟩ => (match decide (c = "dict") && (sl.isEmpty && !(a == sysModules)) with
    | true => some (es.toList.map entW)
    | false => none)
  | _ => none
def entIn (p : Params) (kvs : List (Str × PV)) : List (Option (Str × Int × PV)) := kvs.map fun k => some (k.1, PyData.keyHash p k.1, k.2)
theorem entW_inv {e : DictEntry} {x : Str} {hh : Int} {d : PV} (h : entW e = some (x, hh, d)) : ∃ t u v, e.key = .str x t ∧ e.hash = hh ∧ e.val = u ∧ RelV v u ∧ Cst v d := by
  unfold entW at h
  split at h
  · rename_i x t i u h1 h2; cases h; exact ⟨t, _, .int i, h1, rfl, h2, ⟨u, rfl⟩, .int i⟩
  · rename_i x t y u h1 h2; cases h; exact ⟨t, _, .str y, h1, rfl, h2, ⟨u, rfl⟩, .str y⟩
  · rename_i x t b h1 h2; cases h; exact ⟨t, _, .bl b, h1, rfl, h2, rfl, .bl b⟩
  · rename_i x t h1 h2; cases h; exact ⟨t, _, .non, h1, rfl, h2, rfl, .non⟩
  · cases h
theorem ents_lit {p : Params} : ∀ {l : List DictEntry} {kvs : List (Str × PV)}, l.map entW = entIn p kvs → PySem.W.KeysLit p l
  | [], _, _ => trivial
  | e :: r, [], h => by cases h
  | e :: r, k :: ks, h => by
    have h1 : entW e :: r.map entW = some (k.1, PyData.keyHash p k.1, k.2) :: entIn p ks := h
    injection h1 with h2 h3
    obtain ⟨t, u, v, e1, e2, _⟩ := entW_inv h2
    exact ⟨⟨_, t, e1, e2⟩, ents_lit h3⟩
theorem ents_get {p : Params} {z : Str} : ∀ {l : List DictEntry} {kvs : List (Str × PV)}, l.map entW = entIn p kvs →
    (kget (kvs.map fun k => (PV.str k.1, k.2)) z = none ∧ l.find? (fun e => e.key.isStr z) = none ∧ l.any (·.refKey) = false) ∨ ∃ d e v, kget (kvs.map fun k => (PV.str k.1, k.2)) z = some d ∧ l.find? (fun e => e.key.isStr z) = some e ∧ RelV v e.val ∧ Cst v d
  | [], [], _ => .inl ⟨rfl, rfl, rfl⟩
  | [], _ :: _, h => by cases h
  | e :: r, [], h => by cases h
  | e :: r, k :: ks, h => by
    have h1 : entW e :: r.map entW = some (k.1, PyData.keyHash p k.1, k.2) :: entIn p ks := h
    injection h1 with h2 h3
    obtain ⟨t, u, v, e1, e2, e3, rv, hc⟩ := entW_inv h2
    by_cases hz : k.1 = z
    · refine .inr ⟨k.2, e, v, ?_, ?_, by rw [e3]; exact rv, hc⟩
      · show (if k.1 = z then some k.2 else _) = _
        rw [if_pos hz]
      · rw [List.find?_cons, e1]
        have : (Value.str k.1 t).isStr z = true := by rw [PySem.W.isStr_of]; simp [Value.isStrOf, hz]
        rw [this]
    · have hn : (Value.str k.1 t).isStr z = false := by rw [PySem.W.isStr_of]; simp [Value.isStrOf, hz]
      have hk : kget ((k :: ks).map fun k => (PV.str k.1, k.2)) z = kget (ks.map fun k => (PV.str k.1, k.2)) z := by
        show (if k.1 = z then some k.2 else _) = _
        rw [if_neg hz]
      rw [hk, List.find?_cons, e1, hn]
      rcases ents_get (z := z) h3 with ⟨a1, a2, a3⟩ | q
      · refine .inl ⟨a1, a2, ?_⟩
        rw [List.any_cons, a3, Bool.or_false]
        unfold DictEntry.refKey
        rw [e1]
      · exact .inr q
theorem kd_ok {G : Cfg} {a : Addr} {kvs : List (Str × PV)} (h : kdW G.K a = some (entIn G.w.params kvs)) : KD G a (kvs.map fun k => (PV.str k.1, k.2)) := by
  unfold kdW at h
  cases q : G.K.lookup a with
  | none => rw [q] at h; cases h
  | some o =>
    obtain ⟨oc, od, dt, osl⟩ := o
    rw [q] at h
    cases oc with
    | type c =>
      cases od with
      | none =>
        cases dt with
        | dict es n =>
          have h1 : (match decide (c = "dict") && (osl.isEmpty && !(a == sysModules)) with
            | true => some (es.toList.map entW)
            | false => none) = some (entIn G.w.params kvs) := h
          cases z : decide (c = "dict") && (osl.isEmpty && !(a == sysModules)) with
          | false => rw [z] at h1; cases h1
          | true =>
            rw [z] at h1
            simp only [Bool.and_eq_true, decide_eq_true_eq, Bool.not_eq_true', Array.isEmpty_iff] at z
            obtain ⟨e1, e2, e3⟩ := z
            subst e1 e2
            have h2 := Option.some.inj h1
            refine ⟨es, n, ⟨q, ents_lit h2, e3⟩, fun z => ?_⟩
            unfold PySem.W.nsIn
            rw [q]
            rcases ents_get (z := z) h2 with ⟨a1, a2, a3⟩ | ⟨d, e, v, a1, a2, a3, a4⟩
            · exact .inl ⟨a1, by simp only [a2, a3]; rfl⟩
            · exact .inr ⟨d, e.val, v, a1, by simp only [a2], a3, a4⟩
        | _ => cases h
      | some b => cases dt <;> cases h
    | _ => cases od <;> cases dt <;> cases h
theorem kd_ok2 {G : Cfg} {a : Addr} {kvs : List (Str × PV)} {es : Array DictEntry} {n : Nat} (q : G.K.lookup a = some ⟨.type "dict", none, .dict es n, #[]⟩) (h2 : es.toList.map entW = entIn G.w.params kvs) (e3 : (a == sysModules) = false) : KD G a (kvs.map fun k => (PV.str k.1, k.2)) := by
  refine ⟨es, n, ⟨q, ents_lit h2, e3⟩, fun z => ?_⟩
  unfold PySem.W.nsIn
  rw [q]
  rcases ents_get (z := z) h2 with ⟨a1, a2, a3⟩ | ⟨d, e, v, a1, a2, a3, a4⟩
  · exact .inl ⟨a1, by simp only [a2, a3]; rfl⟩
  · exact .inr ⟨d, e.val, v, a1, by simp only [a2], a3, a4⟩
/-! ### written tuples of plain constants -/
def valC : Value → Option PV
  | .int i _ => some (.int i)
  | .str x _ => some (.str x)
  | .bool b => some (.bl b)
  | .none => some .non
  | _ => none
def valsC : List Value → Option (List PV)
  | [] => some []
  | v :: r => match valC v, valsC r with
    | some d, some ds => some (d :: ds)
    | _, _ => none
def tupO (o : Obj) : Option (List PV) := match o.cls, o.data with
  | .type c, .seq its _ => if c = "tuple" ∧ its.size ≤ 1000 then valsC its.toList else none
  | _, _ => none
theorem valC_ok {v : Value} {d : PV} (h : valC v = some d) : ∃ x, RelV x v ∧ Cst x d := by
  unfold valC at h
  split at h
  · cases h; exact ⟨.int _, ⟨_, rfl⟩, .int _⟩
  · cases h; exact ⟨.str _, ⟨_, rfl⟩, .str _⟩
  · cases h; exact ⟨.bl _, rfl, .bl _⟩
  · cases h; exact ⟨.non, rfl, .non⟩
  · cases h
theorem valsC_ok {F : Hp} {G : Cfg} : ∀ {vs : List Value} {ds : List PV}, valsC vs = some ds → ∃ xs, Vals xs vs ∧ Datas G F xs ds
  | [], ds, h => by cases h; exact ⟨[], .nil, .nil⟩
  | v :: r, ds, h => by
    unfold valsC at h
    split at h
    · rename_i d ds' h1 h2
      cases h
      obtain ⟨x, r1, c1⟩ := valC_ok h1
      obtain ⟨xs, r2, c2⟩ := valsC_ok (F := F) (G := G) h2
      exact ⟨x :: xs, .cons r1 r2, .cons c1.data c2⟩
    · cases h
theorem tup_ok {G : Cfg} {a : Addr} {o : Obj} {ds : List PV} (hl : G.K.lookup a = some o) (h : tupO o = some ds) (F : Hp) : Data G F (.ref a) (.tup ds) := by
  unfold tupO at h
  split at h
  · rename_i c its n h1 h2
    split at h
    · rename_i hc
      obtain ⟨xs, r, dd⟩ := valsC_ok (F := F) (G := G) h
      exact .tup (.inr ⟨o, its, n, hl, by rw [h1, hc.1], h2, Nat.le_trans hc.2 (by decide), r⟩) dd
    · cases h
  · cases h
end
end PP

/-! PPShort: the rules as the printed terms use them. -/
namespace PP
open PySem PySem.Spec L2
section
variable {G : Cfg} {X : Cx} [CK G X] {W : WX} {k k1 k2 k3 : Kd} {e a b c : Expr} {es : List Expr} {f fa fb fc : DE} {fl : DA} {pos : Pos} {n : Nat} {Γ : Tab} {D : PrgD} {fn : Nat → Option FnI}
theorem v (i : Nat) {x : Str} (hN : X.N[i]? = some x := by rfl) (hv : Vis X.env.scope x := by first | exact Or.inl rfl | exact Or.inr (Or.inl rfl) | exact Or.inr (Or.inr rfl)) (hd : (x == ("__debug__" : Str)) = false := by decide) (hcd : (x == ("__classdict__" : Str)) = false := by decide) : EOk G X W .s (.Name x pos) (dVar i) := e_var hN hv hd hcd
theorem bv (i : Nat) {x : Str} (hN : X.N[i]? = some x := by rfl) (hv : Vis X.env.scope x := by first | exact Or.inl rfl | exact Or.inr (Or.inl rfl) | exact Or.inr (Or.inr rfl)) (hd : (x == ("__debug__" : Str)) = false := by decide) (hcd : (x == ("__classdict__" : Str)) = false := by decide) : EOk G X W .b (.Name x pos) (dBVar i) := e_bvar hN hv hd hcd
theorem gc {x : Str} {d : PV} [c : Prg G X n Γ D fn] (hc : D.con x = some d := by rfl) (hg : Gl X x := by rfl) (hdb : (x == ("__debug__" : Str)) = false := by decide) : EOk G X W .s (.Name x pos) (dC d) := by
  obtain ⟨v, u, hm, r, hd⟩ := c.con x d hc
  exact e_glob hg hm r hd hdb
theorem q_eq [c : Prg G X n Γ D fn] : BinOk G X .s (compareOp .Eq) oEq := b_eq (by have := c.room.un; omega)
theorem q_ne [c : Prg G X n Γ D fn] : BinOk G X .s (compareOp .NotEq) oNe := b_ne (by have := c.room.un; omega)
theorem q_in [c : Prg G X n Γ D fn] : BinOk G X .s (compareOp .In) oIn := b_in (by have := c.room.un; omega)
theorem q_notIn [c : Prg G X n Γ D fn] : BinOk G X .s (compareOp .NotIn) oNotIn := b_notIn (by have := c.room.un; omega)
theorem ecmp {op : CmpOp} {g : PV → PV → R PV} (ha : EOk G X W k1 a fa) (hb : EOk G X W k2 b fb) (ho : BinOk G X k (compareOp op) g) (hm : behindInMarks op b = false := by rfl) : EOk G X W k (.Compare a [op] [b] pos) (dBin g fa fb) := e_cmp ha hb ho hm
theorem tcmp {op : CmpOp} {g : PV → PV → R PV} (ha : EOk G X W k1 a fa) (hb : EOk G X W k2 b fb) (ho : BinOk G X .s (compareOp op) g) (hm : behindInMarks op b = false := by rfl) : TOk G X W (.Compare a [op] [b] pos) (dTst (dBin g fa fb)) := t_cmp ha hb ho hm
theorem cB {x : Str} {id : String} {g : List PV → R PV} {p : Pos} {st : Bool} [c : Prg G X n Γ D fn] (hc : CallOk G X k (.builtin id) st g) (ha : AOk G X W st (e :: es) fl) (hx : x ∈ bltNames := by decide) (hg : Gl X x := by rfl) (hv : bootBuiltins x = some (.builtin id) := by rfl)
    (hn : x ≠ "__name__" := by decide) (hdb : (x == ("__debug__" : Str)) = false := by decide)
    (he : starEach (e :: es) X.env = (false, eval e X.env) :: starEach es X.env := by rfl) (hpl : (backTo pos (starEach es X.env)).any (·.1) = false := by rfl) : EOk G X W k (.Call (.Name x p) (e :: es) [] pos) (dFn g fl) := e_callB hc hx hg hv ha hn hdb he hpl
theorem cT {x : Str} {T : String} {g : List PV → R PV} {p : Pos} {st : Bool} [c : Prg G X n Γ D fn] (hc : CallOk G X k (.type T) st g) (ha : AOk G X W st (e :: es) fl) (hx : x ∈ bltNames := by decide) (hg : Gl X x := by rfl) (hv : bootBuiltins x = some (.type T) := by rfl)
    (hn : x ≠ "__name__" := by decide) (hdb : (x == ("__debug__" : Str)) = false := by decide)
    (he : starEach (e :: es) X.env = (false, eval e X.env) :: starEach es X.env := by rfl) (hpl : (backTo pos (starEach es X.env)).any (·.1) = false := by rfl) : EOk G X W k (.Call (.Name x p) (e :: es) [] pos) (dFn g fl) := e_callTy hc hx hg hv ha hn hdb he hpl
theorem cU {x : Str} (i : Nat) {p : Pos} [c : Prg G X n Γ D fn] (tk : Takes X W) (ha : AOk G X W true (e :: es) fl) (hi : D.gfn x = some i := by rfl) (hg : Gl X x := by rfl) (hdb : (x == ("__debug__" : Str)) = false := by decide)
    (he : starEach (e :: es) X.env = (false, eval e X.env) :: starEach es X.env := by rfl) (hpl : (backTo pos (starEach es X.env)).any (·.1) = false := by rfl) :
    EOk G X W .s (.Call (.Name x p) (e :: es) [] pos) (dCall Γ i fl) := e_call tk hi hg ha hdb he hpl
theorem cUO {x : Str} (i : Nat) {p : Pos} [c : Prg G X n Γ D fn] (tk : Takes X W) (ha : AOk G X W true (e :: es) fl) (hi : D.gfn x = some i := by rfl) (ho : D.own i = true := by rfl) (hg : Gl X x := by rfl) (hdb : (x == ("__debug__" : Str)) = false := by decide)
    (he : starEach (e :: es) X.env = (false, eval e X.env) :: starEach es X.env := by rfl) (hpl : (backTo pos (starEach es X.env)).any (·.1) = false := by rfl) :
    EOk G X W .n (.Call (.Name x p) (e :: es) [] pos) (dCall Γ i fl) := e_callO tk hi ho hg ha hdb he hpl
theorem cU0 {x : Str} (i : Nat) {p : Pos} [c : Prg G X n Γ D fn] (tk : Takes X W) (hi : D.gfn x = some i := by rfl) (hg : Gl X x := by rfl) (hdb : (x == ("__debug__" : Str)) = false := by decide) :
    EOk G X W .s (.Call (.Name x p) [] [] pos) (dCall Γ i dNil) := e_call0 tk hi hg hdb
theorem cM {x : Str} (i cc : Nat) {p : Pos} [c : Prg G X n Γ D fn] (tk : Takes X W) (ha : AOk G X W true (e :: es) fl) (hx : D.gcls x = some cc := by rfl) (hi : D.ini cc = some i := by rfl) (hg : Gl X x := by rfl) (hdb : (x == ("__debug__" : Str)) = false := by decide)
    (he : starEach (e :: es) X.env = (false, eval e X.env) :: starEach es X.env := by rfl) (hpl : (backTo pos (starEach es X.env)).any (·.1) = false := by rfl) :
    EOk G X W .s (.Call (.Name x p) (e :: es) [] pos) (dCall Γ i fl) := e_make tk hx hi hg ha hdb he hpl
theorem yB {x : Str} (u : Ty) [c : Prg G X n Γ D fn] (hx : x ∈ bltNames := by decide) (hg : Gl X x := by rfl) (hv : bootBuiltins x = some (.type u.name) := by rfl) (hu : u.val G = some (.type u.name) := by rfl) (hn : x ≠ "__name__" := by decide) (hd : (x == ("__debug__" : Str)) = false := by decide) : TyOk G X (.Name x pos) u := y_blt hx hg hv hu hn hd
theorem yC {x : Str} (cc : Nat) [c : Prg G X n Γ D fn] (hx : D.gcls x = some cc := by rfl) (hg : Gl X x := by rfl) (hd : (x == ("__debug__" : Str)) = false := by decide) : TyOk G X (.Name x pos) (.cls cc) := y_cls hx hg hd
theorem tkB {P : Program} {w : World} {K : PySem.W.Frag} {mg : Str → Option Value} {base : Heap} {N : List Str} {qual : Str} {st : Stmt} {f : Addr} {cdv : Value} {A : Around} {outer : List Env} {s : Shared} {H : Hp} {E : XK} : Takes (bodyCx P w K mg base N qual st f cdv A outer s H E) (bodyW E) := takes_of rfl rfl rfl rfl
theorem ppB {P : Program} {w : World} {K : PySem.W.Frag} {mg : Str → Option Value} {base : Heap} {N : List Str} {qual : Str} {st : Stmt} {f : Addr} {cdv : Value} {A : Around} {outer : List Env} {s : Shared} {H : Hp} {E : XK} : PassesOwn (model P w) (bodyCx P w K mg base N qual st f cdv A outer s H E).A (bodyCx P w K mg base N qual st f cdv A outer s H E).env (bodyCx P w K mg base N qual st f cdv A outer s H E).xe := passes_of (X := bodyCx P w K mg base N qual st f cdv A outer s H E) rfl
end
end PP

/-! PPLend: a def is given own lists for the time of the call; what it answers holds no list. -/
namespace PP
open PySem PySem.Spec L2

mutual
/-- no list within -/
def lfree : PV → Bool
  | .non | .bl _ | .int _ | .str _ | .dct _ => true
  | .tup xs => lfrees xs
  | .obj _ xs => lfrees xs
  | _ => false
def lfrees : List PV → Bool
  | [] => true
  | x :: r => lfree x && lfrees r
end
section
variable {G : Cfg} {X : Cx} [CK G X] {W : WX} {k k1 k2 k3 : Kd} {e a b c : Expr} {es : List Expr} {f fa fb fc : DE} {fl fk fo : DA} {pos : Pos} {n : Nat} {Γ : Tab} {D : PrgD} {fn : Nat → Option FnI}
/-- F1 with own lists taken in -/
structure Lent (F1 Fs H1 : Hp) : Prop where
  f : Same F1 Fs
  h : Same Fs H1
  only : ∀ a o, Fs a = some o → F1 a = some o ∨ ∃ vs, o = .lst vs
theorem lend1 {F1 Fs H1 : Hp} {v : V} {d : PV} (L : Lent F1 Fs H1) (h : DataB G F1 H1 v d) : ∃ Ft, Lent F1 Ft H1 ∧ Same Fs Ft ∧ Data G Ft v d := by
  rcases h with h | ⟨a, rfl, h⟩
  · exact ⟨Fs, L, .refl _, h.mono L.f⟩
  · cases d with
    | lst ds =>
      obtain ⟨vs, ha, k⟩ := h
      cases hs : Fs a with
      | some o =>
        have := L.h _ _ hs
        rw [ha] at this
        cases this
        exact ⟨Fs, L, .refl _, .lst hs (k.mono L.f)⟩
      | none =>
        have sf : Same Fs (upd Fs a (.lst vs)) := fun b u q => by rw [upd_ne (ne_of_none q hs)]; exact q
        refine ⟨upd Fs a (.lst vs), ⟨L.f.trans sf, fun b u q => ?_, fun b u q => ?_⟩, sf, .lst upd_same (k.mono (L.f.trans sf))⟩
        · by_cases hb : b = a
          · subst hb; rw [upd_same] at q; cases q; exact ha
          · rw [upd_ne hb] at q; exact L.h _ _ q
        · by_cases hb : b = a
          · subst hb; rw [upd_same] at q; cases q; exact .inr ⟨vs, rfl⟩
          · rw [upd_ne hb] at q; exact L.only _ _ q
    | _ => exact h.elim
theorem lend {F1 H1 : Hp} : ∀ {vs : List V} {ds : List PV} {Fs : Hp}, Lent F1 Fs H1 → DatasB G F1 H1 vs ds → ∃ Ft, Lent F1 Ft H1 ∧ Same Fs Ft ∧ Datas G Ft vs ds
  | _, _, Fs, L, .nil => ⟨Fs, L, .refl _, .nil⟩
  | _, _, Fs, L, .cons h k => by
    obtain ⟨Ft, L1, s1, h1⟩ := lend1 L h
    obtain ⟨Fu, L2, s2, k2⟩ := lend L1 k
    exact ⟨Fu, L2, s1.trans s2, .cons (h1.mono s2) k2⟩
/-- one more object of F', no list -/
theorem back1 {F1 Fs H1 F' H' Fb : Hp} {a : Addr} {o : HO} (L : Lent F1 Fs H1) (g : Grow Fs H1 F' H') (gb : Grow F1 H1 Fb H') (sb : Same Fb F') (ha : F' a = some o) (hl : ∀ vs, o ≠ .lst vs) : ∃ Fc, Grow F1 H1 Fc H' ∧ Same Fb Fc ∧ Same Fc F' ∧ Fc a = some o := by
  cases hb : Fb a with
  | some u =>
    have := sb _ _ hb
    rw [ha] at this
    cases this
    exact ⟨Fb, gb, .refl _, sb, hb⟩
  | none =>
    have sf : Same Fb (upd Fb a o) := fun b u q => by rw [upd_ne (ne_of_none q hb)]; exact q
    refine ⟨upd Fb a o, ⟨gb.f.trans sf, gb.h, fun b u q => ?_, fun b u q => ?_⟩, sf, fun b u q => ?_, upd_same⟩
    · by_cases hx : b = a
      · subst hx; rw [upd_same] at q; cases q; exact g.fh _ _ ha
      · rw [upd_ne hx] at q; exact gb.fh _ _ q
    · by_cases hx : b = a
      · subst hx
        rw [upd_same] at q
        cases q
        rcases g.new b o ha with z | z
        · rcases L.only b o z with z | ⟨vs, z⟩
          · have := gb.f _ _ z
            rw [hb] at this
            cases this
          · exact absurd z (hl vs)
        · exact .inr z
      · rw [upd_ne hx] at q; exact gb.new _ _ q
    · by_cases hx : b = a
      · subst hx; rw [upd_same] at q; cases q; exact ha
      · rw [upd_ne hx] at q; exact sb _ _ q
mutual
theorem back {F1 Fs H1 F' H' : Hp} (L : Lent F1 Fs H1) (g : Grow Fs H1 F' H') : ∀ {v : V} {d : PV} {Fa : Hp}, Data G F' v d → lfree d = true → Grow F1 H1 Fa H' → Same Fa F' → ∃ Fb, Grow F1 H1 Fb H' ∧ Same Fa Fb ∧ Same Fb F' ∧ Data G Fb v d
  | _, _, Fa, .non, _, ga, sa => ⟨Fa, ga, .refl _, sa, .non⟩
  | _, _, Fa, .bl b, _, ga, sa => ⟨Fa, ga, .refl _, sa, .bl b⟩
  | _, _, Fa, .int b, _, ga, sa => ⟨Fa, ga, .refl _, sa, .int b⟩
  | _, _, Fa, .str b, _, ga, sa => ⟨Fa, ga, .refl _, sa, .str b⟩
  | _, _, Fa, .dct h, _, ga, sa => ⟨Fa, ga, .refl _, sa, .dct h⟩
  | _, _, _, .lst _ _, h, _, _ => by simp [lfree] at h
  | _, _, _, .scr _ _, h, _, _ => by simp [lfree] at h
  | _, _, Fa, .tup h k, hf, ga, sa => by
    obtain ⟨Fb, gb, s1, s2, kb⟩ := backs L g k (by simpa [lfree] using hf) ga sa
    rcases h with (h | ⟨o, h⟩) | h
    · obtain ⟨Fc, gc, s3, s4, ec⟩ := back1 L g gb s2 h (fun vs z => nomatch z)
      exact ⟨Fc, gc, s1.trans s3, s4, .tup (.inl (.inl ec)) (kb.mono s3)⟩
    · obtain ⟨Fc, gc, s3, s4, ec⟩ := back1 L g gb s2 h (fun vs z => nomatch z)
      exact ⟨Fc, gc, s1.trans s3, s4, .tup (.inl (.inr ⟨o, ec⟩)) (kb.mono s3)⟩
    · exact ⟨Fb, gb, s1, s2, .tup (.inr h) kb⟩
  | _, _, Fa, .obj hc h hn k, hf, ga, sa => by
    obtain ⟨Fb, gb, s1, s2, kb⟩ := backs L g k (by simpa [lfree] using hf) ga sa
    obtain ⟨Fc, gc, s3, s4, ec⟩ := back1 L g gb s2 h (fun vs z => nomatch z)
    exact ⟨Fc, gc, s1.trans s3, s4, .obj hc ec hn (kb.mono s3)⟩
theorem backs {F1 Fs H1 F' H' : Hp} (L : Lent F1 Fs H1) (g : Grow Fs H1 F' H') : ∀ {vs : List V} {ds : List PV} {Fa : Hp}, Datas G F' vs ds → lfrees ds = true → Grow F1 H1 Fa H' → Same Fa F' → ∃ Fb, Grow F1 H1 Fb H' ∧ Same Fa Fb ∧ Same Fb F' ∧ Datas G Fb vs ds
  | _, _, Fa, .nil, _, ga, sa => ⟨Fa, ga, .refl _, sa, .nil⟩
  | _, _, Fa, @Datas.cons _ _ _ _ d1 ds1 h k, hf, ga, sa => by
    have hf2 : lfree d1 = true ∧ lfrees ds1 = true := by simpa [lfrees] using hf
    obtain ⟨Fb, gb, s1, s2, hb⟩ := back L g h hf2.1 ga sa
    obtain ⟨Fc, gc, s3, s4, kc⟩ := backs L g k hf2.2 gb s2
    exact ⟨Fc, gc, s1.trans s3, s4, .cons (hb.mono s3) kc⟩
end
def lf (x : R PV) : R PV := x.bind fun d => if lfree d = true then .ok d else .bad
theorem ARes.lend {F1 Fs H1 : Hp} {σ : L2.St} {Q : VK} {x : R PV} (s : Same F1 H1) (L : Lent F1 Fs H1) (h : ARes G W .s F1 H1 σ Q (lf x)) (hx : ∀ c fs, x ≠ .ex c fs) : PRes G Fs H1 Q (fun cls dd H' => W cls dd σ H') x := by
  cases x with
  | ok d =>
    have h : ARes G W .s F1 H1 σ Q (if lfree d = true then .ok d else .bad) := h
    by_cases hf : lfree d = true
    · rw [if_pos hf] at h
      intro v F' H' g dv
      obtain ⟨Fb, gb, _, _, db⟩ := back L g dv hf (Grow.heap s g.h) (L.f.trans g.f)
      exact h v Fb H' gb db
    · rw [if_neg hf] at h; exact h.elim
  | ex c fs => exact absurd rfl (hx c fs)
  | bad => exact h
def exb (x : R PV) : R PV := match x with
  | .ex _ _ => .bad
  | x => x
theorem ARes.exb {F1 H1 : Hp} {σ : L2.St} {Q : VK} {x : R PV} (h : ARes G W .s F1 H1 σ Q (lf (exb x))) : ARes G W .s F1 H1 σ Q (lf x) ∧ ∀ c fs, x ≠ .ex c fs := by
  cases x with
  | ok d => exact ⟨h, fun _ _ z => nomatch z⟩
  | ex c fs => exact h.elim
  | bad => exact ⟨h, fun _ _ z => nomatch z⟩
/-- f(e, ..) with own lists among the arguments -/
def dCallL (Γ : Tab) (i : Nat) (fl : DA) : DE := fun ρ => (fl ρ).bind fun ds => lf (exb (Γ i ds))
theorem lent0 {F H : Hp} (e : Same F H) : Lent F F H := ⟨.refl _, e, fun a o h => .inl h⟩
theorem cUL {x : Str} (i : Nat) {p : Pos} [c : Prg G X n Γ D fn] (tk : Takes X W) (ha : AOk G X W false (e :: es) fl) (hi : D.gfn x = some i := by rfl) (hg : Gl X x := by rfl) (hdb : (x == ("__debug__" : Str)) = false := by decide)
    (he : starEach (e :: es) X.env = (false, eval e X.env) :: starEach es X.env := by rfl) (hpl : (backTo pos (starEach es X.env)).any (·.1) = false := by rfl) :
    EOk G X W .s (.Call (.Name x p) (e :: es) [] pos) (dCallL Γ i fl) := by
  obtain ⟨hni, I, hI, hmg⟩ := c.gfn x i hi
  obtain ⟨hk, hb⟩ := c.ok i I hI
  refine (pe_callSD (E := fun σ => WE W σ) (c.fnn i I hI hni) (c.room.mono (Nat.le_succ _)) hg hmg hk hb .nil (fun σ => passAt tk σ) ha hdb he hpl).wk fun σ H Q ⟨w, F, ρ, rl, q⟩ => ?_
  refine ⟨w, F, ρ, rl, ?_⟩
  unfold dCallL at q
  cases hd : fl ρ with
  | bad => rw [hd] at q; exact q
  | ex c fs => rw [hd] at q; exact q
  | ok ds =>
    rw [hd] at q
    intro vs F2 H2 g2 d
    have d : DatasB G F2 H2 vs ds := d
    obtain ⟨Fs, L, _, dd⟩ := lend (lent0 g2.fh) d
    rw [List.append_nil]
    have q2 := ARes.exb (ARes.from (x := lf (exb (Γ i ds))) g2 q)
    have pr := ARes.lend g2.fh L q2.1 q2.2
    exact ⟨Fs, ds, L.h, dd, c.len i I ds hI hni pr.ne, pr⟩
theorem PRes.ares {F H : Hp} {σ : L2.St} {Q : VK} {x : R PV} (h : PRes G F H Q (fun cls dd H' => W cls dd σ H') x) : ARes G W .s F H σ Q x := by
  cases x with
  | ok d => exact h
  | ex c fs => exact h
  | bad => exact h
/-- C(e, ..) with own lists among the arguments -/
theorem cML {x : Str} (i cc : Nat) {p : Pos} [c : Prg G X n Γ D fn] (tk : Takes X W) (ha : AOk G X W false (e :: es) fl) (hx : D.gcls x = some cc := by rfl) (hi : D.ini cc = some i := by rfl) (hg : Gl X x := by rfl) (hdb : (x == ("__debug__" : Str)) = false := by decide)
    (he : starEach (e :: es) X.env = (false, eval e X.env) :: starEach es X.env := by rfl) (hpl : (backTo pos (starEach es X.env)).any (·.1) = false := by rfl) :
    EOk G X W .s (.Call (.Name x p) (e :: es) [] pos) (dCallL Γ i fl) := by
  obtain ⟨C, hC, hmg⟩ := c.gcls x cc hx
  obtain ⟨C', I, hC', hI, M⟩ := c.ini cc i hi
  rw [hC] at hC'
  cases hC'
  obtain ⟨hk, hb⟩ := c.ok i I hI
  refine ⟨fun pins s σ H Q I0 ⟨w, F, ρ, rl, q⟩ => ?_⟩
  refine wpAny_Call_Name_kw (ld_glob I0 hg hmg ?_ hdb)
  refine PySem.W.callWith_K (h₀ := X.base) I0.ok.mod.kin M.kp (thn (ha.run pos pins s σ H (fun vs H1 => ∃ F1 ds, Grow F H F1 H1 ∧ DatasB G F1 H1 vs ds ∧ fl ρ = .ok ds) I0 ⟨w, F, ρ, rl, ?_⟩) fun us s1 ⟨vs, H1, I1, r, F1, ds, g1, dd, hd⟩ => ⟨I1.kIn, ?_⟩) he hpl
  · unfold dCallL at q
    cases hd : fl ρ with
    | bad => rw [hd] at q; exact q
    | ex c fs => rw [hd] at q; exact q
    | ok ds => exact fun vs F1 H1 g1 d1 => ⟨F1, ds, g1, d1, rfl⟩
  · have q1 : ARes G W .s F1 H1 σ Q (lf (exb (Γ i ds))) := ARes.from g1 (by unfold dCallL at q; rw [hd] at q; exact q)
    have q2 := ARes.exb q1
    obtain ⟨Fs, L, _, dd⟩ := lend (lent0 g1.fh) dd
    have q' : ARes G W .s Fs H1 σ Q (Γ i ds) := (ARes.lend g1.fh L q2.1 q2.2).ares
    refine run_makeS (E := WE W σ) M (c.fni cc i I hi hI) c.room hb (passAt tk σ) I1 r fun y dx ny ndx nyx => ?_
    have fy : Fs y = none := L.h.free ny
    have sf : Same Fs (upd (upd H1 dx (.own y)) y (.ins C dx [])) := fun b o z => by
      have z1 := L.h _ _ z
      rw [upd_ne (ne_of_none z1 ny), upd_ne (ne_of_none z1 ndx)]
      exact z1
    have pr := IRes'.of hC L.h ny ndx nyx q'
    exact ⟨Fs, ds, y, dx, C, vs, rfl, hC, sf, fy, upd_same, dd, c.leni cc i I ds hi hI pr.ne, pr⟩
/-- o.m(e, ..) with own lists among the arguments -/
def dMethL (Γ : Tab) (t : List (Nat × Nat)) (fo : DE) (fl : DA) : DE := fun ρ => (fo ρ).bind fun x => match x with
  | .obj c fs => match t.lookup c with
    | some i => (fl ρ).bind fun ds => lf (exb (Γ i (.obj c fs :: ds)))
    | none => .bad
  | _ => .bad
theorem mML {m : Str} {t : List (Nat × Nat)} {o : Expr} {fo : DE} {apos : Pos} {pl : Sem Bool} [c : Prg G X n Γ D fn] (tk : Takes X W) (ho : EOk G X W k o fo) (ha : AOk G X W false (e :: es) fl) (hk : k.st = true := by rfl)
    (ht : (t.all fun p => D.mth p.1 m == some p.2 && decide (m ∉ G.names p.1)) = true := by rfl)
    (hst : starEach (e :: es) X.env = (false, eval e X.env) :: starEach es X.env := by rfl) (hpl : (backTo pos (starEach es X.env)).any (·.1) = false := by rfl)
    (hev : eval (.Call (.Attribute o m apos) (e :: es) [] pos) X.env = (do
      let ov ← eval o X.env
      standAt apos.atName
      let (f, first) ← holding [ov] (getMethod ov m pl)
      callWith pos f first (backTo pos (starEach (e :: es) X.env)) (backToKw pos (keywordEach [] X.env))) := by rfl) : EOk G X W .s (.Call (.Attribute o m apos) (e :: es) [] pos) (dMethL Γ t fo fl) := by
  refine ⟨fun pins s σ H Q I0 ⟨w, F, ρ, rl, q⟩ => ?_⟩
  unfold dMethL at q
  refine PySem.W.methodCall_KW (pl := pl) (thn (ho.run pins s σ H (fun v H1 => ∃ F1 x, Grow F H F1 H1 ∧ Data G F1 v x ∧ fo ρ = .ok x) I0 ⟨w, F, ρ, rl, ?_⟩) fun u s1 ⟨v, H1, I1, rv, F1, x, g1, dx, hx⟩ => ?_) hev
  · cases hx : fo ρ with
    | bad => rw [hx] at q; exact q
    | ex c fs => rw [hx] at q; exact q
    | ok x =>
      intro v F1 H1 g1 d1
      obtain ⟨F1', g1', d1'⟩ := d1.stable hk g1
      exact ⟨F1', x, g1', d1', rfl⟩
  · rw [hx] at q
    cases x with
    | obj cc fs =>
      replace q : ARes G W .s F H σ Q (match t.lookup cc with
        | some i => (fl ρ).bind fun ds => lf (exb (Γ i (.obj cc fs :: ds)))
        | none => .bad) := q
      cases ht' : t.lookup cc with
      | none => rw [ht'] at q; exact q.elim
      | some i =>
        rw [ht'] at q
        replace q : ARes G W .s F H σ Q ((fl ρ).bind fun ds => lf (exb (Γ i (.obj cc fs :: ds)))) := q
        have h1 := List.all_eq_true.mp ht (cc, i) (mem_of_lookup ht')
        simp only [Bool.and_eq_true, beq_iff_eq, decide_eq_true_eq] at h1
        obtain ⟨hni, C, I, hC, hI, hm⟩ := c.mth cc m i h1.1
        obtain ⟨hkp, hb⟩ := c.ok i I hI
        cases dx with
        | @obj a C' ddx _ gs _ e1 e2 e3 e4 =>
          rw [hC] at e1
          cases e1
          obtain rfl : u = Value.ref a := rv
          have ck := CK.cl (X := X) cc C hC
          refine getmeth_ok I1 (g1.fh _ _ e2) ck.1 hm (lookup_none (by rw [e3]; exact h1.2)) ?_
          refine PySem.W.callWith_K (first := [.ref a]) (h₀ := X.base) I1.ok.mod.kin hm.kp (thn (ha.run pos pins s1 σ H1 (fun vs H2 => ∃ F2 ds, Grow F1 H1 F2 H2 ∧ DatasB G F2 H2 vs ds ∧ fl ρ = .ok ds) I1 ⟨w, F1, ρ, rl.grow g1, ?_⟩) fun us s2 ⟨vs, H2, I2, r, F2, ds, g2, d2, hl⟩ => ⟨I2.kIn, ?_⟩) hst hpl
          · cases hl : fl ρ with
            | bad => rw [hl] at q; exact q
            | ex c fs => rw [hl] at q; exact fun cls dd F2 H2 g2 x => q cls dd F2 H2 (g1.trans g2) x
            | ok ds => exact fun vs F2 H2 g2 d2 => ⟨F2, ds, g2, d2, rfl⟩
          · have g12 := g1.trans g2
            rw [hl] at q
            have d2' : DatasB G F2 H2 (.ref a :: vs) (.obj cc fs :: ds) := .cons (.inl (.obj hC (g2.f _ _ e2) e3 (e4.mono g2.f))) d2
            obtain ⟨Fs, L, _, dd⟩ := lend (lent0 g2.fh) d2'
            have q2 := ARes.exb (ARes.from (x := lf (exb (Γ i (.obj cc fs :: ds)))) g12 q)
            have pr := ARes.lend g2.fh L q2.1 q2.2
            exact run_fnSD (us := .ref a :: us) (vs := .ref a :: vs) (ds := []) (dvs := []) (E := fun σ => WE W σ) (c.fnn i I hI hni) (c.room.mono (Nat.le_succ _)) hb .nil (passAt tk σ) I2 (.cons rfl r) (by rw [List.append_nil]; exact ⟨Fs, _, L.h, dd, c.len i I _ hI hni pr.ne, pr⟩)
    | _ => exact q.elim
end
end PP

/-! denotations of k10_words_of_counts -/
namespace PPK10
open PySem PySem.Spec L2 PP
def isiL : List ((Ty × Ty) × Bool) := [(((.cls 0), .bl), false), (((.cls 0), .int), false), (((.cls 0), .lst), false), (((.cls 0), .str), false), (((.cls 0), .tup), false), (((.cls 0), (.cls 0)), true), ((.non, (.cls 0)), false), ((.bl, (.cls 0)), false), ((.int, (.cls 0)), false), ((.str, (.cls 0)), false), ((.tup, (.cls 0)), false), ((.lst, (.cls 0)), false)]
def isiT : Ty → Ty → Option Bool := fun t u => isiL.lookup (t, u)
def D : PrgD where
  gfn := fun x => ([(("law" : Str), (0 : Nat)), (("_law_holds" : Str), (1 : Nat)), (("_law_draws" : Str), (2 : Nat)), (("_law_deeds" : Str), (3 : Nat)), (("_law_cell" : Str), (5 : Nat)), (("_law_word" : Str), (6 : Nat)), (("_law_told" : Str), (7 : Nat)), (("_law_kept" : Str), (8 : Nat)), (("_law_integer" : Str), (9 : Nat)), (("_law_equal_rightly" : Str), (10 : Nat)), (("_law_mixed" : Str), (11 : Nat)), (("_law_deed" : Str), (12 : Nat)), (("as_tuple" : Str), (13 : Nat)), (("is_inputs" : Str), (14 : Nat)), (("is_below" : Str), (15 : Nat)), (("is_deed" : Str), (16 : Nat)), (("_law_numbers" : Str), (17 : Nat)), (("_law_same" : Str), (19 : Nat)), (("_law_near" : Str), (22 : Nat)), (("is_integer" : Str), (24 : Nat)), (("are_values" : Str), (25 : Nat)), (("is_count_deed" : Str), (26 : Nat)), (("_law_value" : Str), (27 : Nat)), (("is_number" : Str), (28 : Nat)), (("are_words" : Str), (29 : Nat)), (("deed_word" : Str), (30 : Nat)), (("_law_count" : Str), (31 : Nat)), (("is_word" : Str), (32 : Nat)), (("counted_word" : Str), (33 : Nat))] : List (Str × Nat)).lookup x
  con := fun x => ([("SIZES", (.dct [(.str "zero", (.int 0)), (.str "ones", (.int 0)), (.str "not", (.int 1)), (.str "and", (.int 2)), (.str "or", (.int 2)), (.str "xor", (.int 2)), (.str "shift", (.int 1)), (.str "minus", (.int 1)), (.str "add", (.int 2)), (.str "sub", (.int 2))]))] : List (Str × PV)).lookup x
  gcls := fun x => ([("Row", 0)] : List (Str × Nat)).lookup x
  ini := fun c => ([(0, 4)] : List (Nat × Nat)).lookup c
  mth := fun c m => ([((0, "write"), 18), ((0, "all_words"), 20), ((0, "__len__"), 21), ((0, "__eq__"), 23)] : List ((Nat × Str) × Nat)).lookup (c, m)
  kw := fun i => (([] : List (Nat × List (Nat × List Str × List Nat))).lookup i).getD []
  own := fun i => ([] : List Nat).contains i
def wFuel : Nat := 1000000
/-- law -/
def s0 (Γ : Tab) : DS :=
  (sTry0 (sRet (dCall Γ 1 (dCons (dVar 0) dNil))))
def N0 : List Str := ["script"]
/-- _law_holds -/
def s1 (Γ : Tab) : DS :=
  (sSeq (sAsg 1 (dCall Γ 2 (dCons (dCall Γ 5 (dCons (dVar 0) (dCons (dC (.int 0)) dNil))) (dCons (dLst (dCons (dC (.int 3)) (dCons (dC (.int 8)) (dCons (dC (.int 65)) (dCons (dC (.int 3)) (dCons (dC (.int 4)) (dCons (dC (.int 11)) (dCons (dC (.int 3)) (dCons (dC (.int 60)) (dCons (dC (.int 60)) (dCons (dC (.int 60)) (dCons (dC (.int 60)) dNil)))))))))))) dNil))))
  (sSeq (sAsg 2 (dBin oAdd (dC (.int 1)) (dBin oIx (dVar 1) (dC (.int 0)))))
  (sSeq (sAsg 3 (dBin oAdd (dC (.int 1)) (dBin oIx (dVar 1) (dC (.int 1)))))
  (sSeq (sAsg 4 (dBin oIx (dVar 1) (dC (.int 2))))
  (sSeq (sIf (dTst (dBin oEq (dBin oIx (dVar 1) (dC (.int 3))) (dC (.int 0)))) (sAsg 4 (dBin oIx (dLst (dCons (dC (.int 0)) (dCons (dC (.int 1)) (dCons (dC (.int 2)) (dCons (dC (.int 64)) dNil))))) (dBin oIx (dVar 1) (dC (.int 4))))) sNx)
  (sSeq (sAsg 5 (dCall Γ 3 (dCons (dVar 0) (dCons (dC (.int 4)) (dCons (dVar 2) (dCons (dVar 3) dNil))))))
  (sSeq (sAsg 6 (dBin oMod (dBin oIx (dVar 1) (dC (.int 5))) (dBin oAdd (dVar 2) (dVar 3))))
  (sSeq (sIf (dTst (dBin oGt (dBin oIx (dVar 1) (dC (.int 6))) (dC (.int 0)))) (sAsg 6 (dBin oSub (dBin oAdd (dVar 2) (dVar 3)) (dC (.int 1)))) sNx)
  (sSeq (sThF 7 (sAsgO 7 (dLc (dRng1 (dVar 2)) (gNm 11) dYes (dCall Γ 6 (dCons (dCall Γ 5 (dCons (dVar 0) (dCons (dBin oAdd (dC (.int 1)) (dVar 11)) dNil))) (dCons (dVar 4) dNil))) [11])))
  (sSeq (sAsg 8 (dCall Γ 4 (dCons (dVar 2) (dCons (dFn (f1 oList) (dCons (dVar 5) dNil)) (dCons (dVar 6) dNil)))))
  (sSeq (sIf (dOrT (dNotT (dTru (dCall Γ 8 (dCons (dVar 8) (dCons (dVar 5) dNil))))) (dNotT (dTru (dCall Γ 9 (dCons (dUn (oFld [(0, 2)]) (dVar 8)) (dCons (dVar 6) dNil)))))) (sRet (dC (.bl false))) sNx)
  (sSeq (sIf (dOrT (dNotT (dTru (dCall Γ 7 (dCons (dVar 8) (dCons (dVar 4) (dCons (dVar 7) (dCons (dVar 5) (dCons (dVar 6) dNil)))))))) (dNotT (dTru (dCall Γ 10 (dCons (dVar 8) (dCons (dVar 2) (dCons (dVar 5) (dCons (dVar 6) (dCons (dSl oSl (dVar 1) (dPt (dC (.int 7))) dNo) dNil))))))))) (sRet (dC (.bl false))) sNx)
  (sSeq (sThF 9 (sAsgO 9 (dLc (dRng1 (dVar 2)) (gNm 11) dYes (dCall Γ 6 (dCons (dCall Γ 5 (dCons (dVar 0) (dCons (dBin oAdd (dC (.int 12)) (dVar 11)) dNil))) (dCons (dVar 4) dNil))) [11])))
  (sSeq (sIf (dOrT (dNotT (dTru (dCall Γ 7 (dCons (dVar 8) (dCons (dVar 4) (dCons (dVar 9) (dCons (dVar 5) (dCons (dVar 6) dNil)))))))) (dNotT (dTru (dCall Γ 7 (dCons (dVar 8) (dCons (dVar 4) (dCons (dVar 7) (dCons (dVar 5) (dCons (dVar 6) dNil))))))))) (sRet (dC (.bl false))) sNx)
  (sSeq (sThF 10 (sAsgO 10 (dLc (dIt (dVar 7)) (gNm 12) dYes (dBin oMod (dFn (f1 oInt) (dCons (dVar 12) dNil)) (dBin oShl (dC (.int 1)) (dBin oFdiv (dVar 4) (dC (.int 2))))) [12])))
  (sSeq (sIf (dNotT (dTru (dCall Γ 7 (dCons (dVar 8) (dCons (dBin oFdiv (dVar 4) (dC (.int 2))) (dCons (dVar 10) (dCons (dVar 5) (dCons (dVar 6) dNil)))))))) (sRet (dC (.bl false))) sNx)
  (sRet (dAndV (dCall Γ 7 (dCons (dVar 8) (dCons (dVar 4) (dCons (dVar 7) (dCons (dVar 5) (dCons (dVar 6) dNil)))))) (dCall Γ 8 (dCons (dVar 8) (dCons (dVar 5) dNil)))))))))))))))))))))
def N1 : List Str := ["script", "draws", "inputs", "many", "width", "deeds", "out", "chosen", "row", "again", "less", "k", "number"]
/-- _law_draws -/
def s2 (Γ : Tab) : DS :=
  (sSeq (sAsgO 2 (dLst dNil))
  (sSeq (sAsg 3 (dVar 0))
  (sSeq (sFor (dRng1 (dFn (f1 oLen) (dCons (dVar 1) dNil))) (gNm 4) (sIf (dAndT (dTst (dBin oGe (dVar 0) (dBin oPow (dC (.int 10)) (dC (.int 18))))) (dAndT (dTst (dBin oLt (dVar 4) (dC (.int 60)))) (dTst (dBin oGt (dVar 3) (dC (.int 0)))))) (sSeq (sApp 2 (dBin oMod (dFn (f1 oInt) (dCons (dVar 3) dNil)) (dBin oIx (dVar 1) (dVar 4))))
  (sAsg 3 (dBin oFdiv (dVar 3) (dBin oIx (dVar 1) (dVar 4))))) (sApp 2 (dBin oMod (dCall Γ 11 (dCons (dVar 0) (dCons (dVar 4) dNil))) (dBin oIx (dVar 1) (dVar 4))))))
  (sFrz [2] (sRet (dVar 2))))))
def N2 : List Str := ["cell", "sizes", "found", "left", "k"]
/-- _law_deeds -/
def s3 (Γ : Tab) : DS :=
  (sSeq (sAsgO 4 (dLst dNil))
  (sSeq (sFor (dRng1 (dVar 3)) (gNm 5) (sSeq (sAsg 6 (dCall Γ 2 (dCons (dCall Γ 5 (dCons (dVar 0) (dCons (dBin oAdd (dVar 1) (dVar 5)) dNil))) (dCons (dLst (dCons (dC (.int 20)) (dCons (dC (.int 11)) (dCons (dC (.int 11)) (dCons (dC (.int 3)) (dCons (dC (.int 11)) (dCons (dC (.int 11)) (dCons (dC (.int 3)) (dCons (dC (.int 30)) (dCons (dC (.int 4)) dNil)))))))))) dNil))))
  (sApp 4 (dCall Γ 12 (dCons (dVar 6) (dCons (dBin oAdd (dVar 2) (dVar 5)) dNil))))))
  (sFrz [4] (sRet (dVar 4)))))
def N3 : List Str := ["script", "k", "inputs", "many", "deeds", "j", "draws"]
/-- Row.__init__ -/
def s4 (Γ : Tab) : DS :=
  (sSeq (sIf (dNotT (dTru (dCall Γ 14 (dCons (dVar 1) dNil)))) sBad sNx)
  (sSeq (sAsg 4 (dCall Γ 13 (dCons (dVar 2) dNil)))
  (sSeq (sIf (dTst (dBin oIs (dVar 4) (dC .non))) sBad sNx)
  (sSeq (sFor (dEnum (dVar 4)) (gTupP 2 (gsCons (gNm 5) (gsCons (gNm 6) gsNil))) (sIf (dNotT (dTru (dCall Γ 16 (dCons (dVar 6) (dCons (dBin oAdd (dVar 1) (dVar 5)) dNil))))) sBad sNx))
  (sSeq (sIf (dNotT (dTru (dCall Γ 15 (dCons (dVar 3) (dCons (dBin oAdd (dVar 1) (dFn (f1 oLen) (dCons (dVar 4) dNil))) dNil))))) sBad sNx)
  (sSeq (sFld0 0 0 (dVar 1))
  (sSeq (sFld0 0 1 (dVar 4))
  (sFld0 0 2 (dVar 3)))))))))
def N4 : List Str := ["self", "inputs", "deeds", "out", "kept", "place", "deed"]
/-- _law_cell -/
def s5 (Γ : Tab) : DS :=
  (sSeq (sIf (dTst (dBin oLt (dVar 1) (dFn (f1 oLen) (dCons (dVar 0) dNil)))) (sRet (dBin oIx (dVar 0) (dVar 1))) sNx)
  (sSeq (sIf (dTst (dBin oGt (dFn (f1 oLen) (dCons (dVar 0) dNil)) (dC (.int 0)))) (sRet (dBin oAdd (dBin oMod (dFn (f1 oInt) (dCons (dBin oIx (dVar 0) (dBin oMod (dVar 1) (dFn (f1 oLen) (dCons (dVar 0) dNil)))) dNil)) (dC (.int 100003))) (dBin oMul (dC (.int 7919)) (dVar 1)))) sNx)
  (sRet (dBin oAdd (dBin oMul (dC (.int 7919)) (dVar 1)) (dC (.int 5))))))
def N5 : List Str := ["script", "k"]
/-- _law_word -/
def s6 (Γ : Tab) : DS :=
  (sSeq (sIf (dTst (dBin oGe (dVar 0) (dBin oPow (dC (.int 10)) (dC (.int 18))))) (sRet (dBin oMod (dFn (f1 oInt) (dCons (dVar 0) dNil)) (dBin oShl (dC (.int 1)) (dVar 1)))) sNx)
  (sSeq (sAsg 2 (dC (.int 0)))
  (sSeq (sFor (dRng1 (dC (.int 3))) (gNm 3) (sAsg 2 (dBin oAdd (dBin oMul (dVar 2) (dC (.int 67108864))) (dBin oMod (dCall Γ 11 (dCons (dVar 0) (dCons (dVar 3) dNil))) (dC (.int 67108864))))))
  (sSeq (sAsg 4 (dBin oMod (dCall Γ 11 (dCons (dVar 0) (dCons (dC (.int 3)) dNil))) (dC (.int 6))))
  (sSeq (sIf (dTst (dBin oEq (dVar 4) (dC (.int 0)))) (sAsg 2 (dC (.int 0))) sNx)
  (sSeq (sIf (dTst (dBin oEq (dVar 4) (dC (.int 1)))) (sAsg 2 (dBin oSub (dBin oShl (dC (.int 1)) (dC (.int 64))) (dC (.int 1)))) sNx)
  (sSeq (sIf (dTst (dBin oEq (dVar 4) (dC (.int 2)))) (sAsg 2 (dBin oShl (dC (.int 1)) (dBin oMod (dCall Γ 11 (dCons (dVar 0) (dCons (dC (.int 4)) dNil))) (dC (.int 64))))) sNx)
  (sRet (dBin oMod (dFn (f1 oInt) (dCons (dVar 2) dNil)) (dBin oShl (dC (.int 1)) (dVar 1)))))))))))
def N6 : List Str := ["cell", "width", "number", "k", "choice"]
/-- _law_told -/
def s7 (Γ : Tab) : DS :=
  (sSeq (sAsg 5 (dCall Γ 17 (dCons (dVar 3) (dCons (dVar 1) (dCons (dVar 2) dNil)))))
  (sSeq (sAsg 6 (dFn (f1 oList) (dCons (dVar 2) dNil)))
  (sSeq (sIf (dOrT (dNotT (dTru (dCall Γ 19 (dCons (dMeth Γ [(0, 20)] (dVar 0) (dCons (dVar 1) (dCons (dVar 6) dNil))) (dCons (dVar 5) dNil))))) (dNotT (dTru (dCall Γ 9 (dCons (dMeth Γ [(0, 18)] (dVar 0) (dCons (dVar 1) (dCons (dVar 6) dNil))) (dCons (dBin oIx (dVar 5) (dVar 4)) dNil)))))) (sRet (dC (.bl false))) sNx)
  (sSeq (sIf (dOrT (dTst (dBin oNe (dVar 6) (dVar 2))) (dNotT (dTru (dCall Γ 19 (dCons (dMeth Γ [(0, 20)] (dVar 0) (dCons (dVar 1) (dCons (dFn (f1 oTuple) (dCons (dVar 2) dNil)) dNil))) (dCons (dVar 5) dNil)))))) (sRet (dC (.bl false))) sNx)
  (sRet (dCall Γ 9 (dCons (dMeth Γ [(0, 18)] (dVar 0) (dCons (dVar 1) (dCons (dFn (f1 oTuple) (dCons (dVar 2) dNil)) dNil))) (dCons (dBin oIx (dVar 5) (dVar 4)) dNil))))))))
def N7 : List Str := ["row", "width", "chosen", "deeds", "out", "due", "handed"]
/-- _law_kept -/
def s8 (Γ : Tab) : DS :=
  (sSeq (sIf (dOrT (dNotT (dTru (dUn (oIsi isiT [.tup]) (dUn (oFld [(0, 1)]) (dVar 0))))) (dOrT (dTst (dBin oNe (dFn (f1 oLen) (dCons (dUn (oFld [(0, 1)]) (dVar 0)) dNil)) (dFn (f1 oLen) (dCons (dVar 1) dNil)))) (dTst (dBin oNe (dFn (f1 (oOwnL Γ [(0, 21)])) (dCons (dVar 0) dNil)) (dFn (f1 oLen) (dCons (dVar 1) dNil)))))) (sRet (dC (.bl false))) sNx)
  (sSeq (sFor (dRng1 (dFn (f1 oLen) (dCons (dVar 1) dNil))) (gNm 2) (sSeq (sAsg 3 (dBin oIx (dUn (oFld [(0, 1)]) (dVar 0)) (dVar 2)))
  (sSeq (sIf (dOrT (dNotT (dTru (dUn (oIsi isiT [.tup]) (dVar 3)))) (dOrT (dTst (dBin oNe (dFn (f1 oLen) (dCons (dVar 3) dNil)) (dFn (f1 oLen) (dCons (dBin oIx (dVar 1) (dVar 2)) dNil)))) (dNotT (dTru (dUn (oIsi isiT [.str]) (dBin oIx (dVar 3) (dC (.int 0)))))))) (sRet (dC (.bl false))) sNx)
  (sSeq (sIf (dTst (dBin oNe (dBin oIx (dVar 3) (dC (.int 0))) (dBin oIx (dBin oIx (dVar 1) (dVar 2)) (dC (.int 0))))) (sRet (dC (.bl false))) sNx)
  (sIf (dTst (dBin oEq (dBin oIx (dVar 3) (dC (.int 0))) (dC (.str "count")))) (sIf (dOrT (dNotT (dTru (dCall Γ 19 (dCons (dSl oSl (dVar 3) (dPt (dC (.int 1))) (dPt (dC (.int 3)))) (dCons (dSl oSl (dBin oIx (dVar 1) (dVar 2)) (dPt (dC (.int 1))) (dPt (dC (.int 3)))) dNil))))) (dNotT (dTru (dCall Γ 19 (dCons (dBin oIx (dVar 3) (dC (.int 3))) (dCons (dBin oIx (dBin oIx (dVar 1) (dVar 2)) (dC (.int 3))) dNil)))))) (sRet (dC (.bl false))) sNx) (sIf (dNotT (dTru (dCall Γ 19 (dCons (dSl oSl (dVar 3) (dPt (dC (.int 1))) dNo) (dCons (dSl oSl (dBin oIx (dVar 1) (dVar 2)) (dPt (dC (.int 1))) dNo) dNil))))) (sRet (dC (.bl false))) sNx))))))
  (sRet (dC (.bl true)))))
def N8 : List Str := ["row", "deeds", "j", "deed"]
/-- _law_integer -/
def s9 (Γ : Tab) : DS :=
  (sRet (dAndV (dUn (oIsi isiT [.int]) (dVar 0)) (dAndV (dUn oNot (dUn (oIsi isiT [.bl]) (dVar 0))) (dBin oEq (dVar 0) (dVar 1)))))
def N9 : List Str := ["actual", "due"]
/-- _law_equal_rightly -/
def s10 (Γ : Tab) : DS :=
  (sSeq (sAsg 5 (dCall Γ 4 (dCons (dVar 1) (dCons (dFn (f1 oTuple) (dCons (dVar 2) dNil)) (dCons (dVar 3) dNil)))))
  (sSeq (sIf (dOrT (dTst (dBin oIsNot (dBin (oOwnE Γ [(0, 23)] false) (dVar 0) (dVar 5)) (dC (.bl true)))) (dTst (dBin oIsNot (dBin (oOwnE Γ [(0, 23)] true) (dVar 0) (dVar 5)) (dC (.bl false))))) (sRet (dC (.bl false))) sNx)
  (sSeq (sThF 6 (sAsgO 6 (dLc (dRng1 (dFn (f1 oLen) (dCons (dVar 2) dNil))) (gNm 7) (dTst (dBin oEq (dBin oIx (dBin oIx (dVar 2) (dVar 7)) (dC (.int 0))) (dC (.str "count")))) (dVar 7) [7])))
  (sSeq (sIf (dTst (dBin oEq (dFn (f1 oLen) (dCons (dVar 6) dNil)) (dC (.int 0)))) (sRet (dC (.bl true))) sNx)
  (sSeq (sAsg 7 (dBin oIx (dVar 6) (dBin oMod (dBin oIx (dVar 4) (dC (.int 3))) (dFn (f1 oLen) (dCons (dVar 6) dNil)))))
  (sSeq (sFor (dIt (dCall Γ 22 (dCons (dBin oIx (dVar 2) (dVar 7)) (dCons (dBin oAdd (dVar 1) (dVar 7)) (dCons (dVar 4) dNil))))) (gNm 8) (sSeq (sAsg 9 (dCall Γ 4 (dCons (dVar 1) (dCons (dBin oAdd (dBin oAdd (dSl oSl (dVar 2) dNo (dPt (dVar 7))) (dLst (dCons (dVar 8) dNil))) (dSl oSl (dVar 2) (dPt (dBin oAdd (dVar 7) (dC (.int 1)))) dNo)) (dCons (dVar 3) dNil)))))
  (sIf (dOrT (dTst (dBin oIsNot (dBin (oOwnE Γ [(0, 23)] false) (dVar 0) (dVar 9)) (dC (.bl false)))) (dOrT (dTst (dBin oIsNot (dBin (oOwnE Γ [(0, 23)] false) (dVar 9) (dVar 0)) (dC (.bl false)))) (dTst (dBin oIsNot (dBin (oOwnE Γ [(0, 23)] true) (dVar 0) (dVar 9)) (dC (.bl true)))))) (sRet (dC (.bl false))) sNx)))
  (sRet (dC (.bl true)))))))))
def N10 : List Str := ["row", "inputs", "deeds", "out", "draws", "twin", "places", "at", "deed", "other"]
/-- _law_mixed -/
def s11 (Γ : Tab) : DS :=
  (sSeq (sAsg 2 (dBin oMod (dFn (f1 oInt) (dCons (dBin oAdd (dBin oAdd (dBin oMul (dVar 0) (dC (.int 48271))) (dBin oMul (dVar 1) (dC (.int 1103515245)))) (dC (.int 12345))) dNil)) (dC (.int 2147483647))))
  (sSeq (sAsg 3 (dBin oMod (dFn (f1 oInt) (dCons (dBin oAdd (dBin oMul (dVar 2) (dVar 2)) (dC (.int 69621))) dNil)) (dC (.int 2147483563))))
  (sRet (dBin oFdiv (dBin oMod (dFn (f1 oInt) (dCons (dBin oMul (dVar 3) (dBin oAdd (dBin oMod (dVar 3) (dC (.int 65521))) (dC (.int 3)))) dNil)) (dC (.int 1000000007))) (dC (.int 8))))))
def N11 : List Str := ["cell", "k", "once", "twice"]
/-- _law_deed -/
def s12 (Γ : Tab) : DS :=
  (sSeq (sAsg 2 (dLst (dCons (dC (.str "zero")) (dCons (dC (.str "ones")) (dCons (dC (.str "not")) (dCons (dC (.str "and")) (dCons (dC (.str "or")) (dCons (dC (.str "xor")) (dCons (dC (.str "shift")) (dCons (dC (.str "minus")) (dCons (dC (.str "add")) (dCons (dC (.str "sub")) dNil))))))))))))
  (sSeq (sAsg 3 (dBin oMod (dBin oIx (dVar 0) (dC (.int 1))) (dVar 1)))
  (sSeq (sAsg 4 (dBin oMod (dBin oIx (dVar 0) (dC (.int 2))) (dVar 1)))
  (sSeq (sIf (dTst (dBin oGe (dBin oIx (dVar 0) (dC (.int 0))) (dC (.int 10)))) (sSeq (sAsg 5 (dBin oIx (dLst (dCons (dC (.int 2)) (dCons (dC (.int 3)) (dCons (dC (.int 5)) dNil)))) (dBin oIx (dVar 0) (dC (.int 3)))))
  (sSeq (sAsg 6 (dLst (dCons (dVar 3) (dCons (dVar 4) (dCons (dBin oMod (dBin oIx (dVar 0) (dC (.int 4))) (dVar 1)) (dCons (dBin oMod (dBin oIx (dVar 0) (dC (.int 5))) (dVar 1)) dNil))))))
  (sSeq (sIf (dTst (dBin oEq (dBin oIx (dVar 0) (dC (.int 6))) (dC (.int 0)))) (sAsg 6 (dLst (dCons (dVar 3) (dCons (dVar 4) (dCons (dVar 3) (dCons (dVar 4) dNil)))))) sNx)
  (sRet (dTup (dCons (dC (.str "count")) (dCons (dVar 5) (dCons (dBin oMod (dBin oIx (dVar 0) (dC (.int 7))) (dVar 5)) (dCons (dFn (f1 oTuple) (dCons (dSl oSl (dVar 6) dNo (dPt (dBin oAdd (dC (.int 1)) (dBin oIx (dVar 0) (dC (.int 8)))))) dNil)) dNil))))))))) sNx)
  (sSeq (sIf (dTst (dBin oLt (dBin oIx (dVar 0) (dC (.int 0))) (dC (.int 2)))) (sRet (dTup (dCons (dBin oIx (dVar 2) (dBin oIx (dVar 0) (dC (.int 0)))) dNil))) sNx)
  (sSeq (sIf (dTst (dBin oIn (dBin oIx (dVar 0) (dC (.int 0))) (dLst (dCons (dC (.int 2)) (dCons (dC (.int 6)) (dCons (dC (.int 7)) dNil)))))) (sRet (dTup (dCons (dBin oIx (dVar 2) (dBin oIx (dVar 0) (dC (.int 0)))) (dCons (dVar 3) dNil)))) sNx)
  (sRet (dTup (dCons (dBin oIx (dVar 2) (dBin oIx (dVar 0) (dC (.int 0)))) (dCons (dVar 3) (dCons (dVar 4) dNil)))))))))))
def N12 : List Str := ["draws", "ready", "name", "one", "other", "prime", "parts"]
/-- as_tuple -/
def s13 (Γ : Tab) : DS :=
  (sSeq (sIf (dTru (dUn (oIsi isiT [.lst, .tup]) (dVar 0))) (sRet (dFn (f1 oTuple) (dCons (dVar 0) dNil))) sNx)
  (sRet (dC .non)))
def N13 : List Str := ["value"]
/-- is_inputs -/
def s14 (Γ : Tab) : DS :=
  (sRet (dAndV (dCall Γ 24 (dCons (dVar 0) dNil)) (dChain oLe oLe (dC (.int 1)) (dVar 0) (dC (.int 3)))))
def N14 : List Str := ["value"]
/-- is_below -/
def s15 (Γ : Tab) : DS :=
  (sRet (dAndV (dCall Γ 24 (dCons (dVar 0) dNil)) (dChain oLe oLt (dC (.int 0)) (dVar 0) (dVar 1))))
def N15 : List Str := ["value", "limit"]
/-- is_deed -/
def s16 (Γ : Tab) : DS :=
  (sSeq (sIf (dOrT (dNotT (dTru (dUn (oIsi isiT [.tup]) (dVar 0)))) (dOrT (dNotT (dTru (dVar 0))) (dNotT (dTru (dUn (oIsi isiT [.str]) (dBin oIx (dVar 0) (dC (.int 0)))))))) (sRet (dC (.bl false))) sNx)
  (sSeq (sIf (dTst (dBin oEq (dBin oIx (dVar 0) (dC (.int 0))) (dC (.str "count")))) (sRet (dCall Γ 26 (dCons (dVar 0) (dCons (dVar 1) dNil)))) sNx)
  (sSeq (sIf (dOrT (dTst (dBin oNotInK (dBin oIx (dVar 0) (dC (.int 0))) (dC (.dct [(.str "zero", (.int 0)), (.str "ones", (.int 0)), (.str "not", (.int 1)), (.str "and", (.int 2)), (.str "or", (.int 2)), (.str "xor", (.int 2)), (.str "shift", (.int 1)), (.str "minus", (.int 1)), (.str "add", (.int 2)), (.str "sub", (.int 2))])))) (dTst (dBin oNe (dFn (f1 oLen) (dCons (dVar 0) dNil)) (dBin oAdd (dBin oIxK (dC (.dct [(.str "zero", (.int 0)), (.str "ones", (.int 0)), (.str "not", (.int 1)), (.str "and", (.int 2)), (.str "or", (.int 2)), (.str "xor", (.int 2)), (.str "shift", (.int 1)), (.str "minus", (.int 1)), (.str "add", (.int 2)), (.str "sub", (.int 2))])) (dBin oIx (dVar 0) (dC (.int 0)))) (dC (.int 1)))))) (sRet (dC (.bl false))) sNx)
  (sRet (dCall Γ 25 (dCons (dSl oSl (dVar 0) (dPt (dC (.int 1))) dNo) (dCons (dVar 1) dNil)))))))
def N16 : List Str := ["value", "many"]
/-- _law_numbers -/
def s17 (Γ : Tab) : DS :=
  (sSeq (sAsgO 3 (dFn (f1 oList) (dCons (dVar 2) dNil)))
  (sSeq (sFor (dIt (dVar 0)) (gNm 4) (sApp 3 (dCallL Γ 27 (dCons (dVar 4) (dCons (dBVar 3) (dCons (dVar 1) dNil))))))
  (sFrz [3] (sRet (dVar 3)))))
def N17 : List Str := ["deeds", "width", "chosen", "numbers", "deed"]
/-- Row.write -/
def s18 (Γ : Tab) : DS :=
  (sRet (dBin oIx (dMeth Γ [(0, 20)] (dVar 0) (dCons (dVar 1) (dCons (dVar 2) dNil))) (dUn (oFld [(0, 2)]) (dVar 0))))
def N18 : List Str := ["self", "width", "words"]
/-- _law_same -/
def s19 (Γ : Tab) : DS :=
  (sSeq (sIf (dOrT (dNotT (dTru (dUn (oIsi isiT [.tup]) (dVar 0)))) (dTst (dBin oNe (dFn (f1 oLen) (dCons (dVar 0) dNil)) (dFn (f1 oLen) (dCons (dVar 1) dNil))))) (sRet (dC (.bl false))) sNx)
  (sSeq (sFor (dRng1 (dFn (f1 oLen) (dCons (dVar 1) dNil))) (gNm 2) (sIf (dNotT (dTru (dCall Γ 9 (dCons (dBin oIx (dVar 0) (dVar 2)) (dCons (dBin oIx (dVar 1) (dVar 2)) dNil))))) (sRet (dC (.bl false))) sNx))
  (sRet (dC (.bl true)))))
def N19 : List Str := ["actual", "due", "k"]
/-- Row.all_words -/
def s20 (Γ : Tab) : DS :=
  (sSeq (sIf (dNotT (dTru (dCall Γ 28 (dCons (dVar 1) dNil)))) sBad sNx)
  (sSeq (sIf (dNotT (dTru (dCall Γ 29 (dCons (dVar 2) (dCons (dVar 1) (dCons (dUn (oFld [(0, 0)]) (dVar 0)) (dCons (dUn (oFld [(0, 0)]) (dVar 0)) dNil))))))) sBad sNx)
  (sSeq (sAsgO 3 (dFn (f1 oList) (dCons (dVar 2) dNil)))
  (sSeq (sFor (dIt (dUn (oFld [(0, 1)]) (dVar 0))) (gNm 4) (sApp 3 (dCallL Γ 30 (dCons (dVar 4) (dCons (dVar 1) (dCons (dBVar 3) dNil))))))
  (sRet (dFn (f1 oTuple) (dCons (dBVar 3) dNil)))))))
def N20 : List Str := ["self", "width", "words", "told", "deed"]
/-- Row.__len__ -/
def s21 (Γ : Tab) : DS :=
  (sRet (dFn (f1 oLen) (dCons (dUn (oFld [(0, 1)]) (dVar 0)) dNil)))
def N21 : List Str := ["self"]
/-- _law_near -/
def s22 (Γ : Tab) : DS :=
  (sSeq (sAsgG (dVar 0) (gTupP 4 (gsCons (gNm 3) (gsCons (gNm 4) (gsCons (gNm 5) (gsCons (gNm 6) gsNil))))))
  (sSeq (sAsgO 7 (dLst dNil))
  (sSeq (sFor (dIt (dLst (dCons (dC (.int 2)) (dCons (dC (.int 3)) (dCons (dC (.int 5)) dNil))))) (gNm 8) (sIf (dTst (dBin (oOwnE Γ [(0, 23)] true) (dVar 8) (dVar 4))) (sApp 7 (dTup (dCons (dVar 3) (dCons (dVar 8) (dCons (dFn (f2 min2) (dCons (dVar 5) (dCons (dBin oSub (dVar 8) (dC (.int 1))) dNil))) (dCons (dVar 6) dNil)))))) sNx))
  (sSeq (sApp 7 (dTup (dCons (dVar 3) (dCons (dVar 4) (dCons (dBin oMod (dFn (f1 oInt) (dCons (dBin oAdd (dBin oAdd (dVar 5) (dC (.int 1))) (dBin oMod (dBin oIx (dVar 2) (dC (.int 0))) (dBin oSub (dVar 4) (dC (.int 1))))) dNil)) (dVar 4)) (dCons (dVar 6) dNil))))))
  (sSeq (sIf (dTst (dBin oLt (dFn (f1 oLen) (dCons (dVar 6) dNil)) (dC (.int 4)))) (sApp 7 (dTup (dCons (dVar 3) (dCons (dVar 4) (dCons (dVar 5) (dCons (dBin oAdd (dVar 6) (dTup (dCons (dBin oMod (dBin oIx (dVar 2) (dC (.int 1))) (dVar 1)) dNil))) dNil)))))) sNx)
  (sSeq (sIf (dTst (dBin oGt (dFn (f1 oLen) (dCons (dVar 6) dNil)) (dC (.int 1)))) (sApp 7 (dTup (dCons (dVar 3) (dCons (dVar 4) (dCons (dVar 5) (dCons (dSl oSl (dVar 6) dNo (dPt (dUn oNeg (dC (.int 1))))) dNil)))))) sNx)
  (sSeq (sIf (dTst (dBin oNe (dVar 6) (dUn oTupRev (dVar 6)))) (sApp 7 (dTup (dCons (dVar 3) (dCons (dVar 4) (dCons (dVar 5) (dCons (dUn oTupRev (dVar 6)) dNil)))))) sNx)
  (sSeq (sIf (dTst (dBin oGt (dVar 1) (dC (.int 1)))) (sSeq (sAsg 9 (dBin oMod (dBin oIx (dVar 2) (dC (.int 1))) (dFn (f1 oLen) (dCons (dVar 6) dNil))))
  (sSeq (sAsg 10 (dBin oMod (dFn (f1 oInt) (dCons (dBin oAdd (dBin oAdd (dBin oIx (dVar 6) (dVar 9)) (dC (.int 1))) (dBin oMod (dBin oIx (dVar 2) (dC (.int 2))) (dBin oSub (dVar 1) (dC (.int 1))))) dNil)) (dVar 1)))
  (sApp 7 (dTup (dCons (dVar 3) (dCons (dVar 4) (dCons (dVar 5) (dCons (dBin oAdd (dBin oAdd (dSl oSl (dVar 6) dNo (dPt (dVar 9))) (dTup (dCons (dVar 10) dNil))) (dSl oSl (dVar 6) (dPt (dBin oAdd (dVar 9) (dC (.int 1)))) dNo)) dNil)))))))) sNx)
  (sFrz [7] (sRet (dVar 7)))))))))))
def N22 : List Str := ["deed", "ready", "draws", "name", "prime", "told", "parts", "others", "other", "at", "part"]
/-- Row.__eq__ -/
def s23 (Γ : Tab) : DS :=
  (sRet (dAndV (dUn (oIsi isiT [(.cls 0)]) (dVar 1)) (dAndV (dBin oEq (dUn (oFld [(0, 0)]) (dVar 0)) (dUn (oFld [(0, 0)]) (dVar 1))) (dAndV (dBin oEq (dUn (oFld [(0, 1)]) (dVar 0)) (dUn (oFld [(0, 1)]) (dVar 1))) (dBin oEq (dUn (oFld [(0, 2)]) (dVar 0)) (dUn (oFld [(0, 2)]) (dVar 1)))))))
def N23 : List Str := ["self", "other"]
/-- is_integer -/
def s24 (Γ : Tab) : DS :=
  (sRet (dAndV (dUn (oIsi isiT [.int]) (dVar 0)) (dUn oNot (dUn (oIsi isiT [.bl]) (dVar 0)))))
def N24 : List Str := ["value"]
/-- are_values -/
def s25 (Γ : Tab) : DS :=
  (sRet (dFn (f1 oAll) (dCons (dLc (dIt (dVar 0)) (gNm 2) dYes (dCall Γ 15 (dCons (dVar 2) (dCons (dVar 1) dNil))) [2]) dNil)))
def N25 : List Str := ["numbers", "many", "number"]
/-- is_count_deed -/
def s26 (Γ : Tab) : DS :=
  (sSeq (sIf (dTst (dBin oNe (dFn (f1 oLen) (dCons (dVar 0) dNil)) (dC (.int 4)))) (sRet (dC (.bl false))) sNx)
  (sSeq (sAsgG (dSl oSl (dVar 0) (dPt (dC (.int 1))) dNo) (gTupP 3 (gsCons (gNm 2) (gsCons (gNm 3) (gsCons (gNm 4) gsNil)))))
  (sSeq (sIf (dOrT (dNotT (dTru (dCall Γ 24 (dCons (dVar 2) dNil)))) (dOrT (dTst (dBin oNotIn (dVar 2) (dTup (dCons (dC (.int 2)) (dCons (dC (.int 3)) (dCons (dC (.int 5)) dNil)))))) (dNotT (dTru (dCall Γ 15 (dCons (dVar 3) (dCons (dVar 2) dNil))))))) (sRet (dC (.bl false))) sNx)
  (sRet (dAndV (dUn (oIsi isiT [.tup]) (dVar 4)) (dAndV (dChain oLe oLe (dC (.int 1)) (dFn (f1 oLen) (dCons (dVar 4) dNil)) (dC (.int 4))) (dCall Γ 25 (dCons (dVar 4) (dCons (dVar 1) dNil)))))))))
def N26 : List Str := ["value", "many", "modulus", "rest", "parts"]
/-- _law_value -/
def s27 (Γ : Tab) : DS :=
  (sSeq (sAsg 3 (dBin oShl (dC (.int 1)) (dVar 2)))
  (sSeq (sIf (dTst (dBin oEq (dBin oIx (dVar 0) (dC (.int 0))) (dC (.str "count")))) (sRet (dCall Γ 31 (dCons (dVar 0) (dCons (dVar 1) (dCons (dVar 2) dNil))))) sNx)
  (sSeq (sIf (dTst (dBin oEq (dBin oIx (dVar 0) (dC (.int 0))) (dC (.str "zero")))) (sRet (dC (.int 0))) sNx)
  (sSeq (sIf (dTst (dBin oEq (dBin oIx (dVar 0) (dC (.int 0))) (dC (.str "ones")))) (sRet (dBin oSub (dVar 3) (dC (.int 1)))) sNx)
  (sSeq (sAsg 4 (dBin oIx (dVar 1) (dBin oIx (dVar 0) (dC (.int 1)))))
  (sSeq (sIf (dTst (dBin oEq (dBin oIx (dVar 0) (dC (.int 0))) (dC (.str "not")))) (sRet (dBin oSub (dBin oSub (dVar 3) (dC (.int 1))) (dVar 4))) sNx)
  (sSeq (sIf (dTst (dBin oEq (dBin oIx (dVar 0) (dC (.int 0))) (dC (.str "shift")))) (sRet (dBin oMod (dFn (f1 oInt) (dCons (dBin oMul (dC (.int 2)) (dVar 4)) dNil)) (dVar 3))) sNx)
  (sSeq (sIf (dTst (dBin oEq (dBin oIx (dVar 0) (dC (.int 0))) (dC (.str "minus")))) (sRet (dBin oMod (dFn (f1 oInt) (dCons (dBin oSub (dVar 3) (dVar 4)) dNil)) (dVar 3))) sNx)
  (sSeq (sAsg 5 (dBin oIx (dVar 1) (dBin oIx (dVar 0) (dC (.int 2)))))
  (sSeq (sIf (dTst (dBin oEq (dBin oIx (dVar 0) (dC (.int 0))) (dC (.str "and")))) (sRet (dBin oAnd (dVar 4) (dVar 5))) sNx)
  (sSeq (sIf (dTst (dBin oEq (dBin oIx (dVar 0) (dC (.int 0))) (dC (.str "or")))) (sRet (dBin oOr (dVar 4) (dVar 5))) sNx)
  (sSeq (sIf (dTst (dBin oEq (dBin oIx (dVar 0) (dC (.int 0))) (dC (.str "xor")))) (sRet (dBin oXor (dVar 4) (dVar 5))) sNx)
  (sSeq (sIf (dTst (dBin oEq (dBin oIx (dVar 0) (dC (.int 0))) (dC (.str "add")))) (sRet (dBin oMod (dFn (f1 oInt) (dCons (dBin oAdd (dVar 4) (dVar 5)) dNil)) (dVar 3))) sNx)
  (sRet (dBin oMod (dFn (f1 oInt) (dCons (dBin oSub (dVar 4) (dVar 5)) dNil)) (dVar 3))))))))))))))))
def N27 : List Str := ["deed", "numbers", "width", "top", "one", "other"]
/-- is_number -/
def s28 (Γ : Tab) : DS :=
  (sRet (dAndV (dCall Γ 24 (dCons (dVar 0) dNil)) (dBin oGe (dVar 0) (dC (.int 0)))))
def N28 : List Str := ["value"]
/-- are_words -/
def s29 (Γ : Tab) : DS :=
  (sSeq (sAsg 4 (dCall Γ 13 (dCons (dVar 0) dNil)))
  (sSeq (sIf (dOrT (dTst (dBin oIs (dVar 4) (dC .non))) (dNotT (dTst (dChain oLe oLe (dVar 2) (dFn (f1 oLen) (dCons (dVar 4) dNil)) (dVar 3))))) (sRet (dC (.bl false))) sNx)
  (sRet (dFn (f1 oAll) (dCons (dLc (dIt (dVar 4)) (gNm 5) dYes (dCall Γ 32 (dCons (dVar 5) (dCons (dVar 1) dNil))) [5]) dNil)))))
def N29 : List Str := ["value", "width", "least", "most", "words", "word"]
/-- deed_word -/
def s30 (Γ : Tab) : DS :=
  (sSeq (sAsg 3 (dBin oIx (dVar 0) (dC (.int 0))))
  (sSeq (sAsg 4 (dBin oSub (dBin oShl (dC (.int 1)) (dVar 1)) (dC (.int 1))))
  (sSeq (sIf (dTst (dBin oEq (dVar 3) (dC (.str "count")))) (sRet (dCall Γ 33 (dCons (dVar 1) (dCons (dBin oIx (dVar 0) (dC (.int 1))) (dCons (dBin oIx (dVar 0) (dC (.int 2))) (dCons (dLc (dIt (dBin oIx (dVar 0) (dC (.int 3)))) (gNm 7) dYes (dBin oIx (dVar 2) (dVar 7)) [7]) dNil)))))) sNx)
  (sSeq (sIf (dTst (dBin oIn (dVar 3) (dTup (dCons (dC (.str "zero")) (dCons (dC (.str "ones")) dNil))))) (sRet (dIf (dTst (dBin oEq (dVar 3) (dC (.str "ones")))) (dVar 4) (dC (.int 0)))) sNx)
  (sSeq (sAsg 5 (dBin oIx (dVar 2) (dBin oIx (dVar 0) (dC (.int 1)))))
  (sSeq (sAsg 6 (dBin oIx (dVar 2) (dBin oIx (dVar 0) (dUn oNeg (dC (.int 1))))))
  (sSeq (sIf (dTst (dBin oEq (dVar 3) (dC (.str "not")))) (sRet (dBin oSub (dVar 4) (dVar 5))) sNx)
  (sSeq (sIf (dTst (dBin oEq (dVar 3) (dC (.str "and")))) (sRet (dBin oAnd (dVar 5) (dVar 6))) sNx)
  (sSeq (sIf (dTst (dBin oEq (dVar 3) (dC (.str "or")))) (sRet (dBin oOr (dVar 5) (dVar 6))) sNx)
  (sSeq (sIf (dTst (dBin oEq (dVar 3) (dC (.str "xor")))) (sRet (dBin oXor (dVar 5) (dVar 6))) sNx)
  (sSeq (sIf (dTst (dBin oEq (dVar 3) (dC (.str "sub")))) (sRet (dBin oAnd (dBin oSub (dVar 5) (dVar 6)) (dVar 4))) sNx)
  (sSeq (sIf (dTst (dBin oEq (dVar 3) (dC (.str "minus")))) (sRet (dBin oAnd (dUn oNeg (dVar 5)) (dVar 4))) sNx)
  (sRet (dBin oAnd (dBin oAdd (dVar 5) (dVar 6)) (dVar 4)))))))))))))))
def N30 : List Str := ["deed", "width", "words", "name", "full", "one", "other", "i"]
/-- _law_count -/
def s31 (Γ : Tab) : DS :=
  (sSeq (sAsg 3 (dC (.int 0)))
  (sSeq (sAsg 4 (dC (.int 0)))
  (sSeq (sFor (dRng1 (dVar 2)) (gNm 5) (sSeq (sIf (dTst (dBin oEq (dBin oMod (dFn (f1 oInt) (dCons (dVar 4) dNil)) (dBin oIx (dVar 0) (dC (.int 1)))) (dBin oIx (dVar 0) (dC (.int 2))))) (sAsg 3 (dBin oAdd (dVar 3) (dBin oShl (dC (.int 1)) (dVar 5)))) sNx)
  (sFor (dIt (dBin oIx (dVar 0) (dC (.int 3)))) (gNm 6) (sAsg 4 (dBin oAdd (dVar 4) (dBin oAnd (dBin oShr (dBin oIx (dVar 1) (dVar 6)) (dVar 5)) (dC (.int 1))))))))
  (sRet (dVar 3)))))
def N31 : List Str := ["deed", "numbers", "width", "number", "ones", "place", "part"]
/-- is_word -/
def s32 (Γ : Tab) : DS :=
  (sRet (dAndV (dCall Γ 28 (dCons (dVar 0) dNil)) (dBin oLe (dUn oBits (dVar 0)) (dVar 1))))
def N32 : List Str := ["value", "width"]
/-- counted_word -/
def s33 (Γ : Tab) : DS :=
  (sSeq (sAsg 4 (dC (.int 0)))
  (sSeq (sAsg 5 (dC (.int 0)))
  (sSeq (sFor (dRng1 (dVar 0)) (gNm 6) (sSeq (sIf (dTst (dBin oEq (dVar 5) (dVar 2))) (sAug 4 oOr (dBin oShl (dC (.int 1)) (dVar 6))) sNx)
  (sAsg 5 (dBin oMod (dBin oAdd (dVar 5) (dFn (f1 oSum) (dCons (dLc (dIt (dVar 3)) (gNm 7) dYes (dBin oAnd (dBin oShr (dVar 7) (dVar 6)) (dC (.int 1))) [7]) dNil))) (dVar 1)))))
  (sRet (dVar 4)))))
def N33 : List Str := ["width", "modulus", "rest", "words", "word", "count", "place", "part"]
def F0 (Γ : Tab) : List PV → R PV := fnDen 1 1 (s0 Γ)
def F1 (Γ : Tab) : List PV → R PV := fnDen 1 13 (s1 Γ)
def F2 (Γ : Tab) : List PV → R PV := fnDen 2 5 (s2 Γ)
def F3 (Γ : Tab) : List PV → R PV := fnDen 4 7 (s3 Γ)
def F4 (Γ : Tab) : List PV → R PV := iniDen 0 3 4 7 (s4 Γ)
def F5 (Γ : Tab) : List PV → R PV := fnDen 2 2 (s5 Γ)
def F6 (Γ : Tab) : List PV → R PV := fnDen 2 5 (s6 Γ)
def F7 (Γ : Tab) : List PV → R PV := fnDen 5 7 (s7 Γ)
def F8 (Γ : Tab) : List PV → R PV := fnDen 2 4 (s8 Γ)
def F9 (Γ : Tab) : List PV → R PV := fnDen 2 2 (s9 Γ)
def F10 (Γ : Tab) : List PV → R PV := fnDen 5 10 (s10 Γ)
def F11 (Γ : Tab) : List PV → R PV := fnDen 2 4 (s11 Γ)
def F12 (Γ : Tab) : List PV → R PV := fnDen 2 7 (s12 Γ)
def F13 (Γ : Tab) : List PV → R PV := fnDen 1 1 (s13 Γ)
def F14 (Γ : Tab) : List PV → R PV := fnDen 1 1 (s14 Γ)
def F15 (Γ : Tab) : List PV → R PV := fnDen 2 2 (s15 Γ)
def F16 (Γ : Tab) : List PV → R PV := fnDen 2 2 (s16 Γ)
def F17 (Γ : Tab) : List PV → R PV := fnDen 3 5 (s17 Γ)
def F18 (Γ : Tab) : List PV → R PV := fnDen 3 3 (s18 Γ)
def F19 (Γ : Tab) : List PV → R PV := fnDen 2 3 (s19 Γ)
def F20 (Γ : Tab) : List PV → R PV := fnDen 3 5 (s20 Γ)
def F21 (Γ : Tab) : List PV → R PV := fnDen 1 1 (s21 Γ)
def F22 (Γ : Tab) : List PV → R PV := fnDen 3 11 (s22 Γ)
def F23 (Γ : Tab) : List PV → R PV := fnDen 2 2 (s23 Γ)
def F24 (Γ : Tab) : List PV → R PV := fnDen 1 1 (s24 Γ)
def F25 (Γ : Tab) : List PV → R PV := fnDen 2 3 (s25 Γ)
def F26 (Γ : Tab) : List PV → R PV := fnDen 2 5 (s26 Γ)
def F27 (Γ : Tab) : List PV → R PV := fnDen 3 6 (s27 Γ)
def F28 (Γ : Tab) : List PV → R PV := fnDen 1 1 (s28 Γ)
def F29 (Γ : Tab) : List PV → R PV := fnDen 4 6 (s29 Γ)
def F30 (Γ : Tab) : List PV → R PV := fnDen 3 8 (s30 Γ)
def F31 (Γ : Tab) : List PV → R PV := fnDen 3 7 (s31 Γ)
def F32 (Γ : Tab) : List PV → R PV := fnDen 2 2 (s32 Γ)
def F33 (Γ : Tab) : List PV → R PV := fnDen 4 8 (s33 Γ)
def step : Nat → Tab → List PV → R PV
  | 0 => F0
  | 1 => F1
  | 2 => F2
  | 3 => F3
  | 4 => F4
  | 5 => F5
  | 6 => F6
  | 7 => F7
  | 8 => F8
  | 9 => F9
  | 10 => F10
  | 11 => F11
  | 12 => F12
  | 13 => F13
  | 14 => F14
  | 15 => F15
  | 16 => F16
  | 17 => F17
  | 18 => F18
  | 19 => F19
  | 20 => F20
  | 21 => F21
  | 22 => F22
  | 23 => F23
  | 24 => F24
  | 25 => F25
  | 26 => F26
  | 27 => F27
  | 28 => F28
  | 29 => F29
  | 30 => F30
  | 31 => F31
  | 32 => F32
  | 33 => F33
  | _ => fun _ _ => .bad
end PPK10

/-! derivations of k10_words_of_counts -/
namespace PPK10
open PySem PySem.Spec L2 PP
def top (i : Nat) : Stmt := PySem.Challenge.pw_carryworks_k10_words_of_counts.main.body.getD i (.Pass ⟨0, 0, 0, 0⟩)
def names (c : Nat) : List Str := (([["inputs", "deeds", "out"]] : List (List Str))[c]?).getD []
section
variable {G : Cfg} {P : Program} {w : World} {K : PySem.W.Frag} {mg : Str → Option Value} {base : Heap} {fn : Nat → Option FnI}
abbrev q0 : Stmt := top 38
theorem sc0 : FnScope N0 ["script"] (defScope q0) := ⟨rfl, rfl, rfl, by decide +kernel, rfl, by decide +kernel, by decide +kernel⟩
theorem nd0 : N0.Nodup := sc0.nd
theorem body0 (hG : ∀ c, G.names c = names c) : BodyOk G P w K mg base D fn isiT N0 "law" q0 s0 := fun n Γ f cdv A outer sh H E ck is pr => by
  exact (ss_one (s_tryThru (ss_one (s_ret (cU 1 PP.takes0 (a_cons (v 0) a_nil))))))
abbrev q1 : Stmt := top 37
theorem sc1 : FnScope N1 ["script"] (defScope q1) := ⟨rfl, rfl, rfl, by decide +kernel, rfl, by decide +kernel, by decide +kernel⟩
theorem nd1 : N1.Nodup := sc1.nd
theorem body1 (hG : ∀ c, G.names c = names c) : BodyOk G P w K mg base D fn isiT N1 "_law_holds" q1 s1 := fun n Γ f cdv A outer sh H E ck is pr => by
  exact (ss_cons (s_set (i := 1) nd1 rfl (by first | exact Or.inl rfl | exact Or.inr rfl) (cU 2 tkB (a_cons (cU 5 tkB (a_cons (v 0) (a_cons e_int a_nil))) (a_cons (e_lst (a_cons e_int (a_cons e_int (a_cons e_int (a_cons e_int (a_cons e_int (a_cons e_int (a_cons e_int (a_cons e_int (a_cons e_int (a_cons e_int (a_cons e_int a_nil)))))))))))) a_nil))))
  (ss_cons (s_set (i := 2) nd1 rfl (by first | exact Or.inl rfl | exact Or.inr rfl) (e_bin e_int (e_ix (v 1) e_int) b_add))
  (ss_cons (s_set (i := 3) nd1 rfl (by first | exact Or.inl rfl | exact Or.inr rfl) (e_bin e_int (e_ix (v 1) e_int) b_add))
  (ss_cons (s_set (i := 4) nd1 rfl (by first | exact Or.inl rfl | exact Or.inr rfl) (e_ix (v 1) e_int))
  (ss_cons (s_if (tcmp (e_ix (v 1) e_int) e_int q_eq) (ss_one (s_set (i := 4) nd1 rfl (by first | exact Or.inl rfl | exact Or.inr rfl) (e_ix (e_lst (a_cons e_int (a_cons e_int (a_cons e_int (a_cons e_int a_nil))))) (e_ix (v 1) e_int)))) ss_nil)
  (ss_cons (s_set (i := 5) nd1 rfl (by first | exact Or.inl rfl | exact Or.inr rfl) (cU 3 tkB (a_cons (v 0) (a_cons e_int (a_cons (v 2) (a_cons (v 3) a_nil))))))
  (ss_cons (s_set (i := 6) nd1 rfl (by first | exact Or.inl rfl | exact Or.inr rfl) (e_bin (e_ix (v 1) e_int) (e_bin (v 2) (v 3) b_add) b_mod))
  (ss_cons (s_if (tcmp (e_ix (v 1) e_int) e_int b_gt) (ss_one (s_set (i := 6) nd1 rfl (by first | exact Or.inl rfl | exact Or.inr rfl) (e_bin (e_bin (v 2) (v 3) b_add) e_int b_sub))) ss_nil)
  (ss_cons (s_thF 7 (s_setLcO (i := 7) rfl nd1 rfl rfl rfl rfl rfl (i_rng1 (v 2) (by rfl)) (blkOk_by (own := [("k", 11)]) (by rfl)) (fun _ _ _ _ _ => (g_name (i := 11) nd1 rfl (by first | exact Or.inl rfl | exact Or.inr rfl))) (fun _ _ _ _ _ => ts_nil) (fun _ _ _ _ _ => (cU 6 PP.takes0 (a_cons (cU 5 PP.takes0 (a_cons (v 0) (a_cons (e_bin e_int (v 11) b_add) a_nil))) (a_cons (v 4) a_nil))))))
  (ss_cons (s_set (i := 8) nd1 rfl (by first | exact Or.inl rfl | exact Or.inr rfl) (cM 4 0 tkB (a_cons (v 2) (a_cons (cT b_list (a_cons (v 5) a_nil (by intro h; cases h))) (a_cons (v 6) a_nil)))))
  (ss_cons (s_if (w_t (w_or (t_not (t_tru (cU 8 tkB (a_cons (v 8) (a_cons (v 5) a_nil))))) (w_or1 (t_not (t_tru (cU 9 tkB (a_cons (e_fld (v 8) (by simp only [hG]; decide +kernel)) (a_cons (v 6) a_nil)))))))) (ss_one (s_ret e_bl)) ss_nil)
  (ss_cons (s_if (w_t (w_or (t_not (t_tru (cU 7 tkB (a_cons (v 8) (a_cons (v 4) (a_cons (v 7) (a_cons (v 5) (a_cons (v 6) a_nil)))))))) (w_or1 (t_not (t_tru (cU 10 tkB (a_cons (v 8) (a_cons (v 2) (a_cons (v 5) (a_cons (v 6) (a_cons (e_sl (v 1) (p_at e_int) p_no) a_nil))))))))))) (ss_one (s_ret e_bl)) ss_nil)
  (ss_cons (s_thF 9 (s_setLcO (i := 9) rfl nd1 rfl rfl rfl rfl rfl (i_rng1 (v 2) (by rfl)) (blkOk_by (own := [("k", 11)]) (by rfl)) (fun _ _ _ _ _ => (g_name (i := 11) nd1 rfl (by first | exact Or.inl rfl | exact Or.inr rfl))) (fun _ _ _ _ _ => ts_nil) (fun _ _ _ _ _ => (cU 6 PP.takes0 (a_cons (cU 5 PP.takes0 (a_cons (v 0) (a_cons (e_bin e_int (v 11) b_add) a_nil))) (a_cons (v 4) a_nil))))))
  (ss_cons (s_if (w_t (w_or (t_not (t_tru (cU 7 tkB (a_cons (v 8) (a_cons (v 4) (a_cons (v 9) (a_cons (v 5) (a_cons (v 6) a_nil)))))))) (w_or1 (t_not (t_tru (cU 7 tkB (a_cons (v 8) (a_cons (v 4) (a_cons (v 7) (a_cons (v 5) (a_cons (v 6) a_nil))))))))))) (ss_one (s_ret e_bl)) ss_nil)
  (ss_cons (s_thF 10 (s_setLcO (i := 10) rfl nd1 rfl rfl rfl rfl rfl (i_seq (v 7)) (blkOk_by (own := [("number", 12)]) (by rfl)) (fun _ _ _ _ _ => (g_name (i := 12) nd1 rfl (by first | exact Or.inl rfl | exact Or.inr rfl))) (fun _ _ _ _ _ => ts_nil) (fun _ _ _ _ _ => (e_bin (cT b_int (a_cons (v 12) a_nil (by intro h; cases h))) (e_bin e_int (e_bin (v 4) e_int b_fdiv) b_shl) b_mod))))
  (ss_cons (s_if (t_not (t_tru (cU 7 tkB (a_cons (v 8) (a_cons (e_bin (v 4) e_int b_fdiv) (a_cons (v 10) (a_cons (v 5) (a_cons (v 6) a_nil)))))))) (ss_one (s_ret e_bl)) ss_nil)
  (ss_one (s_ret (e_and (cU 7 tkB (a_cons (v 8) (a_cons (v 4) (a_cons (v 7) (a_cons (v 5) (a_cons (v 6) a_nil)))))) (e_one (cU 8 tkB (a_cons (v 8) (a_cons (v 5) a_nil)))))))))))))))))))))))
abbrev q2 : Stmt := top 24
theorem sc2 : FnScope N2 ["cell", "sizes"] (defScope q2) := ⟨rfl, rfl, rfl, by decide +kernel, rfl, by decide +kernel, by decide +kernel⟩
theorem nd2 : N2.Nodup := sc2.nd
theorem body2 (hG : ∀ c, G.names c = names c) : BodyOk G P w K mg base D fn isiT N2 "_law_draws" q2 s2 := fun n Γ f cdv A outer sh H E ck is pr => by
  exact (ss_cons (s_setO (i := 2) nd2 rfl (by first | exact Or.inl rfl | exact Or.inr rfl) (e_lst a_nil))
  (ss_cons (s_set (i := 3) nd2 rfl (by first | exact Or.inl rfl | exact Or.inr rfl) (v 0))
  (ss_cons (s_for ppB rfl (i_rng1 (cB b_len (a_cons (v 1) a_nil (by intro h; cases h))) (by rfl)) (g_name (i := 4) nd2 rfl (by first | exact Or.inl rfl | exact Or.inr rfl)) (ss_one (s_if (w_t (w_and (tcmp (v 0) (e_bin e_int e_int b_pow) b_ge) (w_and (tcmp (v 4) e_int b_lt) (w_and1 (tcmp (v 3) e_int b_gt))))) (ss_cons (s_app (i := 2) rfl (by first | exact Or.inl rfl | exact Or.inr (Or.inl rfl) | exact Or.inr (Or.inr rfl)) (e_bin (cT b_int (a_cons (v 3) a_nil (by intro h; cases h))) (e_ix (v 1) (v 4)) b_mod))
  (ss_one (s_set (i := 3) nd2 rfl (by first | exact Or.inl rfl | exact Or.inr rfl) (e_bin (v 3) (e_ix (v 1) (v 4)) b_fdiv)))) (ss_one (s_app (i := 2) rfl (by first | exact Or.inl rfl | exact Or.inr (Or.inl rfl) | exact Or.inr (Or.inr rfl)) (e_bin (cU 11 tkB (a_cons (v 0) (a_cons (v 4) a_nil))) (e_ix (v 1) (v 4)) b_mod))))))
  (ss_one (s_frz [2] (s_ret (v 2)))))))
abbrev q3 : Stmt := top 27
theorem sc3 : FnScope N3 ["script", "k", "inputs", "many"] (defScope q3) := ⟨rfl, rfl, rfl, by decide +kernel, rfl, by decide +kernel, by decide +kernel⟩
theorem nd3 : N3.Nodup := sc3.nd
theorem body3 (hG : ∀ c, G.names c = names c) : BodyOk G P w K mg base D fn isiT N3 "_law_deeds" q3 s3 := fun n Γ f cdv A outer sh H E ck is pr => by
  exact (ss_cons (s_setO (i := 4) nd3 rfl (by first | exact Or.inl rfl | exact Or.inr rfl) (e_lst a_nil))
  (ss_cons (s_for ppB rfl (i_rng1 (v 3) (by rfl)) (g_name (i := 5) nd3 rfl (by first | exact Or.inl rfl | exact Or.inr rfl)) (ss_cons (s_set (i := 6) nd3 rfl (by first | exact Or.inl rfl | exact Or.inr rfl) (cU 2 tkB (a_cons (cU 5 tkB (a_cons (v 0) (a_cons (e_bin (v 1) (v 5) b_add) a_nil))) (a_cons (e_lst (a_cons e_int (a_cons e_int (a_cons e_int (a_cons e_int (a_cons e_int (a_cons e_int (a_cons e_int (a_cons e_int (a_cons e_int a_nil)))))))))) a_nil))))
  (ss_one (s_app (i := 4) rfl (by first | exact Or.inl rfl | exact Or.inr (Or.inl rfl) | exact Or.inr (Or.inr rfl)) (cU 12 tkB (a_cons (v 6) (a_cons (e_bin (v 2) (v 5) b_add) a_nil)))))))
  (ss_one (s_frz [4] (s_ret (v 4))))))
abbrev q4 : Stmt := inClass (top 20) 0
theorem sc4 : FnScope N4 ["self", "inputs", "deeds", "out"] (defScope q4) := ⟨rfl, rfl, rfl, by decide +kernel, rfl, by decide +kernel, by decide +kernel⟩
theorem nd4 : N4.Nodup := sc4.nd
theorem body4 (hG : ∀ c, G.names c = names c) : BodyOk G P w K mg base D fn isiT N4 "Row.__init__" q4 s4 := fun n Γ f cdv A outer sh H E ck is pr => by
  exact (ss_cons (s_if (t_not (t_tru (cU 14 tkB (a_cons (v 1) a_nil)))) (ss_one s_never) ss_nil)
  (ss_cons (s_set (i := 4) nd4 rfl (by first | exact Or.inl rfl | exact Or.inr rfl) (cU 13 tkB (a_cons (v 2) a_nil)))
  (ss_cons (s_if (tcmp (v 4) e_non b_is) (ss_one s_never) ss_nil)
  (ss_cons (s_for ppB rfl (i_enum (v 4) (by rfl)) (g_tup rfl (gs_cons (g_name (i := 5) nd4 rfl (by first | exact Or.inl rfl | exact Or.inr rfl)) (gs_cons (g_name (i := 6) nd4 rfl (by first | exact Or.inl rfl | exact Or.inr rfl)) gs_nil))) (ss_one (s_if (t_not (t_tru (cU 16 tkB (a_cons (v 6) (a_cons (e_bin (v 1) (v 5) b_add) a_nil))))) (ss_one s_never) ss_nil)))
  (ss_cons (s_if (t_not (t_tru (cU 15 tkB (a_cons (v 3) (a_cons (e_bin (v 1) (cB b_len (a_cons (v 4) a_nil (by intro h; cases h))) b_add) a_nil))))) (ss_one s_never) ss_nil)
  (ss_cons (s_setF (cc := 0) (n := 0) rfl (by first | exact Or.inl rfl | exact Or.inr (Or.inl rfl) | exact Or.inr (Or.inr rfl)) (v 1) rfl (by rw [hG]; rfl) (by rw [hG]; decide) (by rw [hG]; decide))
  (ss_cons (s_setF (cc := 0) (n := 1) rfl (by first | exact Or.inl rfl | exact Or.inr (Or.inl rfl) | exact Or.inr (Or.inr rfl)) (v 4) rfl (by rw [hG]; rfl) (by rw [hG]; decide) (by rw [hG]; decide))
  (ss_one (s_setF (cc := 0) (n := 2) rfl (by first | exact Or.inl rfl | exact Or.inr (Or.inl rfl) | exact Or.inr (Or.inr rfl)) (v 3) rfl (by rw [hG]; rfl) (by rw [hG]; decide) (by rw [hG]; decide))))))))))
abbrev q5 : Stmt := top 22
theorem sc5 : FnScope N5 ["script", "k"] (defScope q5) := ⟨rfl, rfl, rfl, by decide +kernel, rfl, by decide +kernel, by decide +kernel⟩
theorem nd5 : N5.Nodup := sc5.nd
theorem body5 (hG : ∀ c, G.names c = names c) : BodyOk G P w K mg base D fn isiT N5 "_law_cell" q5 s5 := fun n Γ f cdv A outer sh H E ck is pr => by
  exact (ss_cons (s_if (tcmp (v 1) (cB b_len (a_cons (v 0) a_nil (by intro h; cases h))) b_lt) (ss_one (s_ret (e_ix (v 0) (v 1)))) ss_nil)
  (ss_cons (s_if (tcmp (cB b_len (a_cons (v 0) a_nil (by intro h; cases h))) e_int b_gt) (ss_one (s_ret (e_bin (e_bin (cT b_int (a_cons (e_ix (v 0) (e_bin (v 1) (cB b_len (a_cons (v 0) a_nil (by intro h; cases h))) b_mod)) a_nil (by intro h; cases h))) e_int b_mod) (e_bin e_int (v 1) b_mul) b_add))) ss_nil)
  (ss_one (s_ret (e_bin (e_bin e_int (v 1) b_mul) e_int b_add)))))
abbrev q6 : Stmt := top 25
theorem sc6 : FnScope N6 ["cell", "width"] (defScope q6) := ⟨rfl, rfl, rfl, by decide +kernel, rfl, by decide +kernel, by decide +kernel⟩
theorem nd6 : N6.Nodup := sc6.nd
theorem body6 (hG : ∀ c, G.names c = names c) : BodyOk G P w K mg base D fn isiT N6 "_law_word" q6 s6 := fun n Γ f cdv A outer sh H E ck is pr => by
  exact (ss_cons (s_if (tcmp (v 0) (e_bin e_int e_int b_pow) b_ge) (ss_one (s_ret (e_bin (cT b_int (a_cons (v 0) a_nil (by intro h; cases h))) (e_bin e_int (v 1) b_shl) b_mod))) ss_nil)
  (ss_cons (s_set (i := 2) nd6 rfl (by first | exact Or.inl rfl | exact Or.inr rfl) e_int)
  (ss_cons (s_for ppB rfl (i_rng1 e_int (by rfl)) (g_name (i := 3) nd6 rfl (by first | exact Or.inl rfl | exact Or.inr rfl)) (ss_one (s_set (i := 2) nd6 rfl (by first | exact Or.inl rfl | exact Or.inr rfl) (e_bin (e_bin (v 2) e_int b_mul) (e_bin (cU 11 tkB (a_cons (v 0) (a_cons (v 3) a_nil))) e_int b_mod) b_add))))
  (ss_cons (s_set (i := 4) nd6 rfl (by first | exact Or.inl rfl | exact Or.inr rfl) (e_bin (cU 11 tkB (a_cons (v 0) (a_cons e_int a_nil))) e_int b_mod))
  (ss_cons (s_if (tcmp (v 4) e_int q_eq) (ss_one (s_set (i := 2) nd6 rfl (by first | exact Or.inl rfl | exact Or.inr rfl) e_int)) ss_nil)
  (ss_cons (s_if (tcmp (v 4) e_int q_eq) (ss_one (s_set (i := 2) nd6 rfl (by first | exact Or.inl rfl | exact Or.inr rfl) (e_bin (e_bin e_int e_int b_shl) e_int b_sub))) ss_nil)
  (ss_cons (s_if (tcmp (v 4) e_int q_eq) (ss_one (s_set (i := 2) nd6 rfl (by first | exact Or.inl rfl | exact Or.inr rfl) (e_bin e_int (e_bin (cU 11 tkB (a_cons (v 0) (a_cons e_int a_nil))) e_int b_mod) b_shl))) ss_nil)
  (ss_one (s_ret (e_bin (cT b_int (a_cons (v 2) a_nil (by intro h; cases h))) (e_bin e_int (v 1) b_shl) b_mod))))))))))
abbrev q7 : Stmt := top 34
theorem sc7 : FnScope N7 ["row", "width", "chosen", "deeds", "out"] (defScope q7) := ⟨rfl, rfl, rfl, by decide +kernel, rfl, by decide +kernel, by decide +kernel⟩
theorem nd7 : N7.Nodup := sc7.nd
theorem body7 (hG : ∀ c, G.names c = names c) : BodyOk G P w K mg base D fn isiT N7 "_law_told" q7 s7 := fun n Γ f cdv A outer sh H E ck is pr => by
  exact (ss_cons (s_set (i := 5) nd7 rfl (by first | exact Or.inl rfl | exact Or.inr rfl) (cU 17 tkB (a_cons (v 3) (a_cons (v 1) (a_cons (v 2) a_nil)))))
  (ss_cons (s_set (i := 6) nd7 rfl (by first | exact Or.inl rfl | exact Or.inr rfl) (cT b_list (a_cons (v 2) a_nil (by intro h; cases h))))
  (ss_cons (s_if (w_t (w_or (t_not (t_tru (cU 19 tkB (a_cons (e_meth tkB (v 0) (a_cons (v 1) (a_cons (v 6) a_nil)) rfl (by simp only [hG]; decide +kernel)) (a_cons (v 5) a_nil))))) (w_or1 (t_not (t_tru (cU 9 tkB (a_cons (e_meth tkB (v 0) (a_cons (v 1) (a_cons (v 6) a_nil)) rfl (by simp only [hG]; decide +kernel)) (a_cons (e_ix (v 5) (v 4)) a_nil)))))))) (ss_one (s_ret e_bl)) ss_nil)
  (ss_cons (s_if (w_t (w_or (tcmp (v 6) (v 2) q_ne) (w_or1 (t_not (t_tru (cU 19 tkB (a_cons (e_meth tkB (v 0) (a_cons (v 1) (a_cons (cT b_tuple (a_cons (v 2) a_nil (by intro h; cases h))) a_nil)) rfl (by simp only [hG]; decide +kernel)) (a_cons (v 5) a_nil)))))))) (ss_one (s_ret e_bl)) ss_nil)
  (ss_one (s_ret (cU 9 tkB (a_cons (e_meth tkB (v 0) (a_cons (v 1) (a_cons (cT b_tuple (a_cons (v 2) a_nil (by intro h; cases h))) a_nil)) rfl (by simp only [hG]; decide +kernel)) (a_cons (e_ix (v 5) (v 4)) a_nil)))))))))
abbrev q8 : Stmt := top 33
theorem sc8 : FnScope N8 ["row", "deeds"] (defScope q8) := ⟨rfl, rfl, rfl, by decide +kernel, rfl, by decide +kernel, by decide +kernel⟩
theorem nd8 : N8.Nodup := sc8.nd
theorem body8 (hG : ∀ c, G.names c = names c) : BodyOk G P w K mg base D fn isiT N8 "_law_kept" q8 s8 := fun n Γ f cdv A outer sh H E ck is pr => by
  exact (ss_cons (s_if (w_t (w_or (t_not (t_tru (e_isi (e_fld (v 0) (by simp only [hG]; decide +kernel)) (yB .tup) (by rfl)))) (w_or (tcmp (cB b_len (a_cons (e_fld (v 0) (by simp only [hG]; decide +kernel)) a_nil (by intro h; cases h))) (cB b_len (a_cons (v 1) a_nil (by intro h; cases h))) q_ne) (w_or1 (tcmp (cB (b_ownL [(0, 21)]) (a_cons (v 0) a_nil (by intro h; cases h))) (cB b_len (a_cons (v 1) a_nil (by intro h; cases h))) q_ne))))) (ss_one (s_ret e_bl)) ss_nil)
  (ss_cons (s_for ppB rfl (i_rng1 (cB b_len (a_cons (v 1) a_nil (by intro h; cases h))) (by rfl)) (g_name (i := 2) nd8 rfl (by first | exact Or.inl rfl | exact Or.inr rfl)) (ss_cons (s_set (i := 3) nd8 rfl (by first | exact Or.inl rfl | exact Or.inr rfl) (e_ix (e_fld (v 0) (by simp only [hG]; decide +kernel)) (v 2)))
  (ss_cons (s_if (w_t (w_or (t_not (t_tru (e_isi (v 3) (yB .tup) (by rfl)))) (w_or (tcmp (cB b_len (a_cons (v 3) a_nil (by intro h; cases h))) (cB b_len (a_cons (e_ix (v 1) (v 2)) a_nil (by intro h; cases h))) q_ne) (w_or1 (t_not (t_tru (e_isi (e_ix (v 3) e_int) (yB .str) (by rfl)))))))) (ss_one (s_ret e_bl)) ss_nil)
  (ss_cons (s_if (tcmp (e_ix (v 3) e_int) (e_ix (e_ix (v 1) (v 2)) e_int) q_ne) (ss_one (s_ret e_bl)) ss_nil)
  (ss_one (s_if (tcmp (e_ix (v 3) e_int) e_str q_eq) (ss_one (s_if (w_t (w_or (t_not (t_tru (cU 19 tkB (a_cons (e_sl (v 3) (p_at e_int) (p_at e_int)) (a_cons (e_sl (e_ix (v 1) (v 2)) (p_at e_int) (p_at e_int)) a_nil))))) (w_or1 (t_not (t_tru (cU 19 tkB (a_cons (e_ix (v 3) e_int) (a_cons (e_ix (e_ix (v 1) (v 2)) e_int) a_nil)))))))) (ss_one (s_ret e_bl)) ss_nil)) (ss_one (s_if (t_not (t_tru (cU 19 tkB (a_cons (e_sl (v 3) (p_at e_int) p_no) (a_cons (e_sl (e_ix (v 1) (v 2)) (p_at e_int) p_no) a_nil))))) (ss_one (s_ret e_bl)) ss_nil))))))))
  (ss_one (s_ret e_bl))))
abbrev q9 : Stmt := top 31
theorem sc9 : FnScope N9 ["actual", "due"] (defScope q9) := ⟨rfl, rfl, rfl, by decide +kernel, rfl, by decide +kernel, by decide +kernel⟩
theorem nd9 : N9.Nodup := sc9.nd
theorem body9 (hG : ∀ c, G.names c = names c) : BodyOk G P w K mg base D fn isiT N9 "_law_integer" q9 s9 := fun n Γ f cdv A outer sh H E ck is pr => by
  exact (ss_one (s_ret (e_and (e_isi (v 0) (yB .int) (by rfl)) (e_and (e_not (e_isi (v 0) (yB .bl) (by rfl))) (e_one (ecmp (v 0) (v 1) q_eq))))))
abbrev q10 : Stmt := top 36
theorem sc10 : FnScope N10 ["row", "inputs", "deeds", "out", "draws"] (defScope q10) := ⟨rfl, rfl, rfl, by decide +kernel, rfl, by decide +kernel, by decide +kernel⟩
theorem nd10 : N10.Nodup := sc10.nd
theorem body10 (hG : ∀ c, G.names c = names c) : BodyOk G P w K mg base D fn isiT N10 "_law_equal_rightly" q10 s10 := fun n Γ f cdv A outer sh H E ck is pr => by
  exact (ss_cons (s_set (i := 5) nd10 rfl (by first | exact Or.inl rfl | exact Or.inr rfl) (cM 4 0 tkB (a_cons (v 1) (a_cons (cT b_tuple (a_cons (v 2) a_nil (by intro h; cases h))) (a_cons (v 3) a_nil)))))
  (ss_cons (s_if (w_t (w_or (tcmp (ecmp (v 0) (v 5) (q_eqO [(0, 23)])) e_bl b_isNot) (w_or1 (tcmp (ecmp (v 0) (v 5) (q_neO [(0, 23)])) e_bl b_isNot)))) (ss_one (s_ret e_bl)) ss_nil)
  (ss_cons (s_thF 6 (s_setLcO (i := 6) rfl nd10 rfl rfl rfl rfl rfl (i_rng1 (cB b_len (a_cons (v 2) a_nil (by intro h; cases h))) (by rfl)) (blkOk_by (own := [("at", 7)]) (by rfl)) (fun _ _ _ _ _ => (g_name (i := 7) nd10 rfl (by first | exact Or.inl rfl | exact Or.inr rfl))) (fun _ _ _ _ _ => (ts_one (tcmp (e_ix (e_ix (v 2) (v 7)) e_int) e_str q_eq))) (fun _ _ _ _ _ => (v 7))))
  (ss_cons (s_if (tcmp (cB b_len (a_cons (v 6) a_nil (by intro h; cases h))) e_int q_eq) (ss_one (s_ret e_bl)) ss_nil)
  (ss_cons (s_set (i := 7) nd10 rfl (by first | exact Or.inl rfl | exact Or.inr rfl) (e_ix (v 6) (e_bin (e_ix (v 4) e_int) (cB b_len (a_cons (v 6) a_nil (by intro h; cases h))) b_mod)))
  (ss_cons (s_for ppB rfl (i_seq (cU 22 tkB (a_cons (e_ix (v 2) (v 7)) (a_cons (e_bin (v 1) (v 7) b_add) (a_cons (v 4) a_nil))))) (g_name (i := 8) nd10 rfl (by first | exact Or.inl rfl | exact Or.inr rfl)) (ss_cons (s_set (i := 9) nd10 rfl (by first | exact Or.inl rfl | exact Or.inr rfl) (cM 4 0 tkB (a_cons (v 1) (a_cons (e_bin (e_bin (e_sl (v 2) p_no (p_at (v 7))) (e_lst (a_cons (v 8) a_nil)) b_add) (e_sl (v 2) (p_at (e_bin (v 7) e_int b_add)) p_no) b_add) (a_cons (v 3) a_nil)))))
  (ss_one (s_if (w_t (w_or (tcmp (ecmp (v 0) (v 9) (q_eqO [(0, 23)])) e_bl b_isNot) (w_or (tcmp (ecmp (v 9) (v 0) (q_eqO [(0, 23)])) e_bl b_isNot) (w_or1 (tcmp (ecmp (v 0) (v 9) (q_neO [(0, 23)])) e_bl b_isNot))))) (ss_one (s_ret e_bl)) ss_nil))))
  (ss_one (s_ret e_bl))))))))
abbrev q11 : Stmt := top 23
theorem sc11 : FnScope N11 ["cell", "k"] (defScope q11) := ⟨rfl, rfl, rfl, by decide +kernel, rfl, by decide +kernel, by decide +kernel⟩
theorem nd11 : N11.Nodup := sc11.nd
theorem body11 (hG : ∀ c, G.names c = names c) : BodyOk G P w K mg base D fn isiT N11 "_law_mixed" q11 s11 := fun n Γ f cdv A outer sh H E ck is pr => by
  exact (ss_cons (s_set (i := 2) nd11 rfl (by first | exact Or.inl rfl | exact Or.inr rfl) (e_bin (cT b_int (a_cons (e_bin (e_bin (e_bin (v 0) e_int b_mul) (e_bin (v 1) e_int b_mul) b_add) e_int b_add) a_nil (by intro h; cases h))) e_int b_mod))
  (ss_cons (s_set (i := 3) nd11 rfl (by first | exact Or.inl rfl | exact Or.inr rfl) (e_bin (cT b_int (a_cons (e_bin (e_bin (v 2) (v 2) b_mul) e_int b_add) a_nil (by intro h; cases h))) e_int b_mod))
  (ss_one (s_ret (e_bin (e_bin (cT b_int (a_cons (e_bin (v 3) (e_bin (e_bin (v 3) e_int b_mod) e_int b_add) b_mul) a_nil (by intro h; cases h))) e_int b_mod) e_int b_fdiv)))))
abbrev q12 : Stmt := top 26
theorem sc12 : FnScope N12 ["draws", "ready"] (defScope q12) := ⟨rfl, rfl, rfl, by decide +kernel, rfl, by decide +kernel, by decide +kernel⟩
theorem nd12 : N12.Nodup := sc12.nd
theorem body12 (hG : ∀ c, G.names c = names c) : BodyOk G P w K mg base D fn isiT N12 "_law_deed" q12 s12 := fun n Γ f cdv A outer sh H E ck is pr => by
  exact (ss_cons (s_set (i := 2) nd12 rfl (by first | exact Or.inl rfl | exact Or.inr rfl) (e_lst (a_cons e_str (a_cons e_str (a_cons e_str (a_cons e_str (a_cons e_str (a_cons e_str (a_cons e_str (a_cons e_str (a_cons e_str (a_cons e_str a_nil))))))))))))
  (ss_cons (s_set (i := 3) nd12 rfl (by first | exact Or.inl rfl | exact Or.inr rfl) (e_bin (e_ix (v 0) e_int) (v 1) b_mod))
  (ss_cons (s_set (i := 4) nd12 rfl (by first | exact Or.inl rfl | exact Or.inr rfl) (e_bin (e_ix (v 0) e_int) (v 1) b_mod))
  (ss_cons (s_if (tcmp (e_ix (v 0) e_int) e_int b_ge) (ss_cons (s_set (i := 5) nd12 rfl (by first | exact Or.inl rfl | exact Or.inr rfl) (e_ix (e_lst (a_cons e_int (a_cons e_int (a_cons e_int a_nil)))) (e_ix (v 0) e_int)))
  (ss_cons (s_set (i := 6) nd12 rfl (by first | exact Or.inl rfl | exact Or.inr rfl) (e_lst (a_cons (v 3) (a_cons (v 4) (a_cons (e_bin (e_ix (v 0) e_int) (v 1) b_mod) (a_cons (e_bin (e_ix (v 0) e_int) (v 1) b_mod) a_nil))))))
  (ss_cons (s_if (tcmp (e_ix (v 0) e_int) e_int q_eq) (ss_one (s_set (i := 6) nd12 rfl (by first | exact Or.inl rfl | exact Or.inr rfl) (e_lst (a_cons (v 3) (a_cons (v 4) (a_cons (v 3) (a_cons (v 4) a_nil))))))) ss_nil)
  (ss_one (s_ret (e_tup (a_cons e_str (a_cons (v 5) (a_cons (e_bin (e_ix (v 0) e_int) (v 5) b_mod) (a_cons (cT b_tuple (a_cons (e_sl (v 6) p_no (p_at (e_bin e_int (e_ix (v 0) e_int) b_add))) a_nil (by intro h; cases h))) a_nil)))))))))) ss_nil)
  (ss_cons (s_if (tcmp (e_ix (v 0) e_int) e_int b_lt) (ss_one (s_ret (e_tup (a_cons (e_ix (v 2) (e_ix (v 0) e_int)) a_nil)))) ss_nil)
  (ss_cons (s_if (tcmp (e_ix (v 0) e_int) (e_lst (a_cons e_int (a_cons e_int (a_cons e_int a_nil)))) q_in) (ss_one (s_ret (e_tup (a_cons (e_ix (v 2) (e_ix (v 0) e_int)) (a_cons (v 3) a_nil))))) ss_nil)
  (ss_one (s_ret (e_tup (a_cons (e_ix (v 2) (e_ix (v 0) e_int)) (a_cons (v 3) (a_cons (v 4) a_nil))))))))))))
abbrev q13 : Stmt := top 4
theorem sc13 : FnScope N13 ["value"] (defScope q13) := ⟨rfl, rfl, rfl, by decide +kernel, rfl, by decide +kernel, by decide +kernel⟩
theorem nd13 : N13.Nodup := sc13.nd
theorem body13 (hG : ∀ c, G.names c = names c) : BodyOk G P w K mg base D fn isiT N13 "as_tuple" q13 s13 := fun n Γ f cdv A outer sh H E ck is pr => by
  exact (ss_cons (s_if (t_tru (e_isiT (v 0) (.cons (yB .lst) (.cons (yB .tup) .nil rfl) rfl) (by rfl))) (ss_one (s_ret (cT b_tuple (a_cons (v 0) a_nil (by intro h; cases h))))) ss_nil)
  (ss_one (s_ret e_non)))
abbrev q14 : Stmt := top 3
theorem sc14 : FnScope N14 ["value"] (defScope q14) := ⟨rfl, rfl, rfl, by decide +kernel, rfl, by decide +kernel, by decide +kernel⟩
theorem nd14 : N14.Nodup := sc14.nd
theorem body14 (hG : ∀ c, G.names c = names c) : BodyOk G P w K mg base D fn isiT N14 "is_inputs" q14 s14 := fun n Γ f cdv A outer sh H E ck is pr => by
  exact (ss_one (s_ret (e_and (cU 24 tkB (a_cons (v 0) a_nil)) (e_one (e_chain e_int (v 0) e_int b_le b_le)))))
abbrev q15 : Stmt := top 5
theorem sc15 : FnScope N15 ["value", "limit"] (defScope q15) := ⟨rfl, rfl, rfl, by decide +kernel, rfl, by decide +kernel, by decide +kernel⟩
theorem nd15 : N15.Nodup := sc15.nd
theorem body15 (hG : ∀ c, G.names c = names c) : BodyOk G P w K mg base D fn isiT N15 "is_below" q15 s15 := fun n Γ f cdv A outer sh H E ck is pr => by
  exact (ss_one (s_ret (e_and (cU 24 tkB (a_cons (v 0) a_nil)) (e_one (e_chain e_int (v 0) (v 1) b_le b_lt)))))
abbrev q16 : Stmt := top 17
theorem sc16 : FnScope N16 ["value", "many"] (defScope q16) := ⟨rfl, rfl, rfl, by decide +kernel, rfl, by decide +kernel, by decide +kernel⟩
theorem nd16 : N16.Nodup := sc16.nd
theorem body16 (hG : ∀ c, G.names c = names c) : BodyOk G P w K mg base D fn isiT N16 "is_deed" q16 s16 := fun n Γ f cdv A outer sh H E ck is pr => by
  exact (ss_cons (s_if (w_t (w_or (t_not (t_tru (e_isi (v 0) (yB .tup) (by rfl)))) (w_or (t_not (t_tru (v 0))) (w_or1 (t_not (t_tru (e_isi (e_ix (v 0) e_int) (yB .str) (by rfl)))))))) (ss_one (s_ret e_bl)) ss_nil)
  (ss_cons (s_if (tcmp (e_ix (v 0) e_int) e_str q_eq) (ss_one (s_ret (cU 26 tkB (a_cons (v 0) (a_cons (v 1) a_nil))))) ss_nil)
  (ss_cons (s_if (w_t (w_or (tcmp (e_ix (v 0) e_int) gc b_notInK) (w_or1 (tcmp (cB b_len (a_cons (v 0) a_nil (by intro h; cases h))) (e_bin (e_ixK gc (e_ix (v 0) e_int)) e_int b_add) q_ne)))) (ss_one (s_ret e_bl)) ss_nil)
  (ss_one (s_ret (cU 25 tkB (a_cons (e_sl (v 0) (p_at e_int) p_no) (a_cons (v 1) a_nil))))))))
abbrev q17 : Stmt := top 30
theorem sc17 : FnScope N17 ["deeds", "width", "chosen"] (defScope q17) := ⟨rfl, rfl, rfl, by decide +kernel, rfl, by decide +kernel, by decide +kernel⟩
theorem nd17 : N17.Nodup := sc17.nd
theorem body17 (hG : ∀ c, G.names c = names c) : BodyOk G P w K mg base D fn isiT N17 "_law_numbers" q17 s17 := fun n Γ f cdv A outer sh H E ck is pr => by
  exact (ss_cons (s_setO (i := 3) nd17 rfl (by first | exact Or.inl rfl | exact Or.inr rfl) (cT b_list (a_cons (v 2) a_nil (by intro h; cases h))))
  (ss_cons (s_for ppB rfl (i_seq (v 0)) (g_name (i := 4) nd17 rfl (by first | exact Or.inl rfl | exact Or.inr rfl)) (ss_one (s_app (i := 3) rfl (by first | exact Or.inl rfl | exact Or.inr (Or.inl rfl) | exact Or.inr (Or.inr rfl)) (cUL 27 tkB (a_cons (v 4) (a_cons (bv 3) (a_cons (v 1) a_nil (by intro h; cases h)) (by intro h; cases h)) (by intro h; cases h))))))
  (ss_one (s_frz [3] (s_ret (v 3))))))
abbrev q18 : Stmt := inClass (top 20) 4
theorem sc18 : FnScope N18 ["self", "width", "words"] (defScope q18) := ⟨rfl, rfl, rfl, by decide +kernel, rfl, by decide +kernel, by decide +kernel⟩
theorem nd18 : N18.Nodup := sc18.nd
theorem body18 (hG : ∀ c, G.names c = names c) : BodyOk G P w K mg base D fn isiT N18 "Row.write" q18 s18 := fun n Γ f cdv A outer sh H E ck is pr => by
  exact (ss_one (s_ret (e_ix (e_meth tkB (v 0) (a_cons (v 1) (a_cons (v 2) a_nil)) rfl (by simp only [hG]; decide +kernel)) (e_fld (v 0) (by simp only [hG]; decide +kernel)))))
abbrev q19 : Stmt := top 32
theorem sc19 : FnScope N19 ["actual", "due"] (defScope q19) := ⟨rfl, rfl, rfl, by decide +kernel, rfl, by decide +kernel, by decide +kernel⟩
theorem nd19 : N19.Nodup := sc19.nd
theorem body19 (hG : ∀ c, G.names c = names c) : BodyOk G P w K mg base D fn isiT N19 "_law_same" q19 s19 := fun n Γ f cdv A outer sh H E ck is pr => by
  exact (ss_cons (s_if (w_t (w_or (t_not (t_tru (e_isi (v 0) (yB .tup) (by rfl)))) (w_or1 (tcmp (cB b_len (a_cons (v 0) a_nil (by intro h; cases h))) (cB b_len (a_cons (v 1) a_nil (by intro h; cases h))) q_ne)))) (ss_one (s_ret e_bl)) ss_nil)
  (ss_cons (s_for ppB rfl (i_rng1 (cB b_len (a_cons (v 1) a_nil (by intro h; cases h))) (by rfl)) (g_name (i := 2) nd19 rfl (by first | exact Or.inl rfl | exact Or.inr rfl)) (ss_one (s_if (t_not (t_tru (cU 9 tkB (a_cons (e_ix (v 0) (v 2)) (a_cons (e_ix (v 1) (v 2)) a_nil))))) (ss_one (s_ret e_bl)) ss_nil)))
  (ss_one (s_ret e_bl))))
abbrev q20 : Stmt := inClass (top 20) 3
theorem sc20 : FnScope N20 ["self", "width", "words"] (defScope q20) := ⟨rfl, rfl, rfl, by decide +kernel, rfl, by decide +kernel, by decide +kernel⟩
theorem nd20 : N20.Nodup := sc20.nd
theorem body20 (hG : ∀ c, G.names c = names c) : BodyOk G P w K mg base D fn isiT N20 "Row.all_words" q20 s20 := fun n Γ f cdv A outer sh H E ck is pr => by
  exact (ss_cons (s_if (t_not (t_tru (cU 28 tkB (a_cons (v 1) a_nil)))) (ss_one s_never) ss_nil)
  (ss_cons (s_if (t_not (t_tru (cU 29 tkB (a_cons (v 2) (a_cons (v 1) (a_cons (e_fld (v 0) (by simp only [hG]; decide +kernel)) (a_cons (e_fld (v 0) (by simp only [hG]; decide +kernel)) a_nil))))))) (ss_one s_never) ss_nil)
  (ss_cons (s_setO (i := 3) nd20 rfl (by first | exact Or.inl rfl | exact Or.inr rfl) (cT b_list (a_cons (v 2) a_nil (by intro h; cases h))))
  (ss_cons (s_for ppB rfl (i_seq (e_fld (v 0) (by simp only [hG]; decide +kernel))) (g_name (i := 4) nd20 rfl (by first | exact Or.inl rfl | exact Or.inr rfl)) (ss_one (s_app (i := 3) rfl (by first | exact Or.inl rfl | exact Or.inr (Or.inl rfl) | exact Or.inr (Or.inr rfl)) (cUL 30 tkB (a_cons (v 4) (a_cons (v 1) (a_cons (bv 3) a_nil (by intro h; cases h)) (by intro h; cases h)) (by intro h; cases h))))))
  (ss_one (s_ret (cT b_tuple (a_cons (bv 3) a_nil (by intro h; cases h)))))))))
abbrev q21 : Stmt := inClass (top 20) 2
theorem sc21 : FnScope N21 ["self"] (defScope q21) := ⟨rfl, rfl, rfl, by decide +kernel, rfl, by decide +kernel, by decide +kernel⟩
theorem nd21 : N21.Nodup := sc21.nd
theorem body21 (hG : ∀ c, G.names c = names c) : BodyOk G P w K mg base D fn isiT N21 "Row.__len__" q21 s21 := fun n Γ f cdv A outer sh H E ck is pr => by
  exact (ss_one (s_ret (cB b_len (a_cons (e_fld (v 0) (by simp only [hG]; decide +kernel)) a_nil (by intro h; cases h)))))
abbrev q22 : Stmt := top 35
theorem sc22 : FnScope N22 ["deed", "ready", "draws"] (defScope q22) := ⟨rfl, rfl, rfl, by decide +kernel, rfl, by decide +kernel, by decide +kernel⟩
theorem nd22 : N22.Nodup := sc22.nd
theorem body22 (hG : ∀ c, G.names c = names c) : BodyOk G P w K mg base D fn isiT N22 "_law_near" q22 s22 := fun n Γ f cdv A outer sh H E ck is pr => by
  exact (ss_cons (s_asg (v 0) (g_tup rfl (gs_cons (g_name (i := 3) nd22 rfl (by first | exact Or.inl rfl | exact Or.inr rfl)) (gs_cons (g_name (i := 4) nd22 rfl (by first | exact Or.inl rfl | exact Or.inr rfl)) (gs_cons (g_name (i := 5) nd22 rfl (by first | exact Or.inl rfl | exact Or.inr rfl)) (gs_cons (g_name (i := 6) nd22 rfl (by first | exact Or.inl rfl | exact Or.inr rfl)) gs_nil))))))
  (ss_cons (s_setO (i := 7) nd22 rfl (by first | exact Or.inl rfl | exact Or.inr rfl) (e_lst a_nil))
  (ss_cons (s_for ppB rfl (i_seq (e_lst (a_cons e_int (a_cons e_int (a_cons e_int a_nil))))) (g_name (i := 8) nd22 rfl (by first | exact Or.inl rfl | exact Or.inr rfl)) (ss_one (s_if (tcmp (v 8) (v 4) (q_neO [(0, 23)])) (ss_one (s_app (i := 7) rfl (by first | exact Or.inl rfl | exact Or.inr (Or.inl rfl) | exact Or.inr (Or.inr rfl)) (e_tup (a_cons (v 3) (a_cons (v 8) (a_cons (cB (b_min2 rfl) (a_cons (v 5) (a_cons (e_bin (v 8) e_int b_sub) a_nil (by intro h; cases h)) (by intro h; cases h))) (a_cons (v 6) a_nil))))))) ss_nil)))
  (ss_cons (s_app (i := 7) rfl (by first | exact Or.inl rfl | exact Or.inr (Or.inl rfl) | exact Or.inr (Or.inr rfl)) (e_tup (a_cons (v 3) (a_cons (v 4) (a_cons (e_bin (cT b_int (a_cons (e_bin (e_bin (v 5) e_int b_add) (e_bin (e_ix (v 2) e_int) (e_bin (v 4) e_int b_sub) b_mod) b_add) a_nil (by intro h; cases h))) (v 4) b_mod) (a_cons (v 6) a_nil))))))
  (ss_cons (s_if (tcmp (cB b_len (a_cons (v 6) a_nil (by intro h; cases h))) e_int b_lt) (ss_one (s_app (i := 7) rfl (by first | exact Or.inl rfl | exact Or.inr (Or.inl rfl) | exact Or.inr (Or.inr rfl)) (e_tup (a_cons (v 3) (a_cons (v 4) (a_cons (v 5) (a_cons (e_bin (v 6) (e_tup (a_cons (e_bin (e_ix (v 2) e_int) (v 1) b_mod) a_nil)) b_add) a_nil))))))) ss_nil)
  (ss_cons (s_if (tcmp (cB b_len (a_cons (v 6) a_nil (by intro h; cases h))) e_int b_gt) (ss_one (s_app (i := 7) rfl (by first | exact Or.inl rfl | exact Or.inr (Or.inl rfl) | exact Or.inr (Or.inr rfl)) (e_tup (a_cons (v 3) (a_cons (v 4) (a_cons (v 5) (a_cons (e_sl (v 6) p_no (p_at (e_neg e_int))) a_nil))))))) ss_nil)
  (ss_cons (s_if (tcmp (v 6) (e_tupRev (v 6)) q_ne) (ss_one (s_app (i := 7) rfl (by first | exact Or.inl rfl | exact Or.inr (Or.inl rfl) | exact Or.inr (Or.inr rfl)) (e_tup (a_cons (v 3) (a_cons (v 4) (a_cons (v 5) (a_cons (e_tupRev (v 6)) a_nil))))))) ss_nil)
  (ss_cons (s_if (tcmp (v 1) e_int b_gt) (ss_cons (s_set (i := 9) nd22 rfl (by first | exact Or.inl rfl | exact Or.inr rfl) (e_bin (e_ix (v 2) e_int) (cB b_len (a_cons (v 6) a_nil (by intro h; cases h))) b_mod))
  (ss_cons (s_set (i := 10) nd22 rfl (by first | exact Or.inl rfl | exact Or.inr rfl) (e_bin (cT b_int (a_cons (e_bin (e_bin (e_ix (v 6) (v 9)) e_int b_add) (e_bin (e_ix (v 2) e_int) (e_bin (v 1) e_int b_sub) b_mod) b_add) a_nil (by intro h; cases h))) (v 1) b_mod))
  (ss_one (s_app (i := 7) rfl (by first | exact Or.inl rfl | exact Or.inr (Or.inl rfl) | exact Or.inr (Or.inr rfl)) (e_tup (a_cons (v 3) (a_cons (v 4) (a_cons (v 5) (a_cons (e_bin (e_bin (e_sl (v 6) p_no (p_at (v 9))) (e_tup (a_cons (v 10) a_nil)) b_add) (e_sl (v 6) (p_at (e_bin (v 9) e_int b_add)) p_no) b_add) a_nil))))))))) ss_nil)
  (ss_one (s_frz [7] (s_ret (v 7))))))))))))
abbrev q23 : Stmt := inClass (top 20) 1
theorem sc23 : FnScope N23 ["self", "other"] (defScope q23) := ⟨rfl, rfl, rfl, by decide +kernel, rfl, by decide +kernel, by decide +kernel⟩
theorem nd23 : N23.Nodup := sc23.nd
theorem body23 (hG : ∀ c, G.names c = names c) : BodyOk G P w K mg base D fn isiT N23 "Row.__eq__" q23 s23 := fun n Γ f cdv A outer sh H E ck is pr => by
  exact (ss_one (s_ret (e_and (e_isi (v 1) (yC 0) (by rfl)) (e_and (ecmp (e_fld (v 0) (by simp only [hG]; decide +kernel)) (e_fld (v 1) (by simp only [hG]; decide +kernel)) q_eq) (e_and (ecmp (e_fld (v 0) (by simp only [hG]; decide +kernel)) (e_fld (v 1) (by simp only [hG]; decide +kernel)) q_eq) (e_one (ecmp (e_fld (v 0) (by simp only [hG]; decide +kernel)) (e_fld (v 1) (by simp only [hG]; decide +kernel)) q_eq)))))))
abbrev q24 : Stmt := top 1
theorem sc24 : FnScope N24 ["value"] (defScope q24) := ⟨rfl, rfl, rfl, by decide +kernel, rfl, by decide +kernel, by decide +kernel⟩
theorem nd24 : N24.Nodup := sc24.nd
theorem body24 (hG : ∀ c, G.names c = names c) : BodyOk G P w K mg base D fn isiT N24 "is_integer" q24 s24 := fun n Γ f cdv A outer sh H E ck is pr => by
  exact (ss_one (s_ret (e_and (e_isi (v 0) (yB .int) (by rfl)) (e_one (e_not (e_isi (v 0) (yB .bl) (by rfl)))))))
abbrev q25 : Stmt := top 15
theorem sc25 : FnScope N25 ["numbers", "many"] (defScope q25) := ⟨rfl, rfl, rfl, by decide +kernel, rfl, by decide +kernel, by decide +kernel⟩
theorem nd25 : N25.Nodup := sc25.nd
theorem body25 (hG : ∀ c, G.names c = names c) : BodyOk G P w K mg base D fn isiT N25 "are_values" q25 s25 := fun n Γ f cdv A outer sh H E ck is pr => by
  exact (ss_one (s_ret (cB (b_all rfl) (a_cons (e_lc rfl nd25 (i_seq (v 0)) (blkOk_by (own := [("number", 2)]) (by rfl)) (fun _ _ _ _ _ => (g_name (i := 2) nd25 rfl (by first | exact Or.inl rfl | exact Or.inr rfl))) (fun _ _ _ _ _ => ts_nil) (fun _ _ _ _ _ => (cU 15 PP.takes0 (a_cons (v 2) (a_cons (v 1) a_nil))))) a_nil (by intro h; cases h)))))
abbrev q26 : Stmt := top 16
theorem sc26 : FnScope N26 ["value", "many"] (defScope q26) := ⟨rfl, rfl, rfl, by decide +kernel, rfl, by decide +kernel, by decide +kernel⟩
theorem nd26 : N26.Nodup := sc26.nd
theorem body26 (hG : ∀ c, G.names c = names c) : BodyOk G P w K mg base D fn isiT N26 "is_count_deed" q26 s26 := fun n Γ f cdv A outer sh H E ck is pr => by
  exact (ss_cons (s_if (tcmp (cB b_len (a_cons (v 0) a_nil (by intro h; cases h))) e_int q_ne) (ss_one (s_ret e_bl)) ss_nil)
  (ss_cons (s_asg (e_sl (v 0) (p_at e_int) p_no) (g_tup rfl (gs_cons (g_name (i := 2) nd26 rfl (by first | exact Or.inl rfl | exact Or.inr rfl)) (gs_cons (g_name (i := 3) nd26 rfl (by first | exact Or.inl rfl | exact Or.inr rfl)) (gs_cons (g_name (i := 4) nd26 rfl (by first | exact Or.inl rfl | exact Or.inr rfl)) gs_nil)))))
  (ss_cons (s_if (w_t (w_or (t_not (t_tru (cU 24 tkB (a_cons (v 2) a_nil)))) (w_or (tcmp (v 2) (e_tup (a_cons e_int (a_cons e_int (a_cons e_int a_nil)))) q_notIn) (w_or1 (t_not (t_tru (cU 15 tkB (a_cons (v 3) (a_cons (v 2) a_nil))))))))) (ss_one (s_ret e_bl)) ss_nil)
  (ss_one (s_ret (e_and (e_isi (v 4) (yB .tup) (by rfl)) (e_and (e_chain e_int (cB b_len (a_cons (v 4) a_nil (by intro h; cases h))) e_int b_le b_le) (e_one (cU 25 tkB (a_cons (v 4) (a_cons (v 1) a_nil)))))))))))
abbrev q27 : Stmt := top 29
theorem sc27 : FnScope N27 ["deed", "numbers", "width"] (defScope q27) := ⟨rfl, rfl, rfl, by decide +kernel, rfl, by decide +kernel, by decide +kernel⟩
theorem nd27 : N27.Nodup := sc27.nd
theorem body27 (hG : ∀ c, G.names c = names c) : BodyOk G P w K mg base D fn isiT N27 "_law_value" q27 s27 := fun n Γ f cdv A outer sh H E ck is pr => by
  exact (ss_cons (s_set (i := 3) nd27 rfl (by first | exact Or.inl rfl | exact Or.inr rfl) (e_bin e_int (v 2) b_shl))
  (ss_cons (s_if (tcmp (e_ix (v 0) e_int) e_str q_eq) (ss_one (s_ret (cU 31 tkB (a_cons (v 0) (a_cons (v 1) (a_cons (v 2) a_nil)))))) ss_nil)
  (ss_cons (s_if (tcmp (e_ix (v 0) e_int) e_str q_eq) (ss_one (s_ret e_int)) ss_nil)
  (ss_cons (s_if (tcmp (e_ix (v 0) e_int) e_str q_eq) (ss_one (s_ret (e_bin (v 3) e_int b_sub))) ss_nil)
  (ss_cons (s_set (i := 4) nd27 rfl (by first | exact Or.inl rfl | exact Or.inr rfl) (e_ix (v 1) (e_ix (v 0) e_int)))
  (ss_cons (s_if (tcmp (e_ix (v 0) e_int) e_str q_eq) (ss_one (s_ret (e_bin (e_bin (v 3) e_int b_sub) (v 4) b_sub))) ss_nil)
  (ss_cons (s_if (tcmp (e_ix (v 0) e_int) e_str q_eq) (ss_one (s_ret (e_bin (cT b_int (a_cons (e_bin e_int (v 4) b_mul) a_nil (by intro h; cases h))) (v 3) b_mod))) ss_nil)
  (ss_cons (s_if (tcmp (e_ix (v 0) e_int) e_str q_eq) (ss_one (s_ret (e_bin (cT b_int (a_cons (e_bin (v 3) (v 4) b_sub) a_nil (by intro h; cases h))) (v 3) b_mod))) ss_nil)
  (ss_cons (s_set (i := 5) nd27 rfl (by first | exact Or.inl rfl | exact Or.inr rfl) (e_ix (v 1) (e_ix (v 0) e_int)))
  (ss_cons (s_if (tcmp (e_ix (v 0) e_int) e_str q_eq) (ss_one (s_ret (e_bin (v 4) (v 5) b_and))) ss_nil)
  (ss_cons (s_if (tcmp (e_ix (v 0) e_int) e_str q_eq) (ss_one (s_ret (e_bin (v 4) (v 5) b_or))) ss_nil)
  (ss_cons (s_if (tcmp (e_ix (v 0) e_int) e_str q_eq) (ss_one (s_ret (e_bin (v 4) (v 5) b_xor))) ss_nil)
  (ss_cons (s_if (tcmp (e_ix (v 0) e_int) e_str q_eq) (ss_one (s_ret (e_bin (cT b_int (a_cons (e_bin (v 4) (v 5) b_add) a_nil (by intro h; cases h))) (v 3) b_mod))) ss_nil)
  (ss_one (s_ret (e_bin (cT b_int (a_cons (e_bin (v 4) (v 5) b_sub) a_nil (by intro h; cases h))) (v 3) b_mod))))))))))))))))
abbrev q28 : Stmt := top 2
theorem sc28 : FnScope N28 ["value"] (defScope q28) := ⟨rfl, rfl, rfl, by decide +kernel, rfl, by decide +kernel, by decide +kernel⟩
theorem nd28 : N28.Nodup := sc28.nd
theorem body28 (hG : ∀ c, G.names c = names c) : BodyOk G P w K mg base D fn isiT N28 "is_number" q28 s28 := fun n Γ f cdv A outer sh H E ck is pr => by
  exact (ss_one (s_ret (e_and (cU 24 tkB (a_cons (v 0) a_nil)) (e_one (ecmp (v 0) e_int b_ge)))))
abbrev q29 : Stmt := top 7
theorem sc29 : FnScope N29 ["value", "width", "least", "most"] (defScope q29) := ⟨rfl, rfl, rfl, by decide +kernel, rfl, by decide +kernel, by decide +kernel⟩
theorem nd29 : N29.Nodup := sc29.nd
theorem body29 (hG : ∀ c, G.names c = names c) : BodyOk G P w K mg base D fn isiT N29 "are_words" q29 s29 := fun n Γ f cdv A outer sh H E ck is pr => by
  exact (ss_cons (s_set (i := 4) nd29 rfl (by first | exact Or.inl rfl | exact Or.inr rfl) (cU 13 tkB (a_cons (v 0) a_nil)))
  (ss_cons (s_if (w_t (w_or (tcmp (v 4) e_non b_is) (w_or1 (t_not (t_chain (v 2) (cB b_len (a_cons (v 4) a_nil (by intro h; cases h))) (v 3) b_le b_le))))) (ss_one (s_ret e_bl)) ss_nil)
  (ss_one (s_ret (cB (b_all rfl) (a_cons (e_lc rfl nd29 (i_seq (v 4)) (blkOk_by (own := [("word", 5)]) (by rfl)) (fun _ _ _ _ _ => (g_name (i := 5) nd29 rfl (by first | exact Or.inl rfl | exact Or.inr rfl))) (fun _ _ _ _ _ => ts_nil) (fun _ _ _ _ _ => (cU 32 PP.takes0 (a_cons (v 5) (a_cons (v 1) a_nil))))) a_nil (by intro h; cases h)))))))
abbrev q30 : Stmt := top 19
theorem sc30 : FnScope N30 ["deed", "width", "words"] (defScope q30) := ⟨rfl, rfl, rfl, by decide +kernel, rfl, by decide +kernel, by decide +kernel⟩
theorem nd30 : N30.Nodup := sc30.nd
theorem body30 (hG : ∀ c, G.names c = names c) : BodyOk G P w K mg base D fn isiT N30 "deed_word" q30 s30 := fun n Γ f cdv A outer sh H E ck is pr => by
  exact (ss_cons (s_set (i := 3) nd30 rfl (by first | exact Or.inl rfl | exact Or.inr rfl) (e_ix (v 0) e_int))
  (ss_cons (s_set (i := 4) nd30 rfl (by first | exact Or.inl rfl | exact Or.inr rfl) (e_bin (e_bin e_int (v 1) b_shl) e_int b_sub))
  (ss_cons (s_if (tcmp (v 3) e_str q_eq) (ss_one (s_ret (cU 33 tkB (a_cons (v 1) (a_cons (e_ix (v 0) e_int) (a_cons (e_ix (v 0) e_int) (a_cons (e_lc rfl nd30 (i_seq (e_ix (v 0) e_int)) (blkOk_by (own := [("i", 7)]) (by rfl)) (fun _ _ _ _ _ => (g_name (i := 7) nd30 rfl (by first | exact Or.inl rfl | exact Or.inr rfl))) (fun _ _ _ _ _ => ts_nil) (fun _ _ _ _ _ => (e_ix (v 2) (v 7)))) a_nil))))))) ss_nil)
  (ss_cons (s_if (tcmp (v 3) (e_tup (a_cons e_str (a_cons e_str a_nil))) q_in) (ss_one (s_ret (e_if (tcmp (v 3) e_str q_eq) (v 4) e_int))) ss_nil)
  (ss_cons (s_set (i := 5) nd30 rfl (by first | exact Or.inl rfl | exact Or.inr rfl) (e_ix (v 2) (e_ix (v 0) e_int)))
  (ss_cons (s_set (i := 6) nd30 rfl (by first | exact Or.inl rfl | exact Or.inr rfl) (e_ix (v 2) (e_ix (v 0) (e_neg e_int))))
  (ss_cons (s_if (tcmp (v 3) e_str q_eq) (ss_one (s_ret (e_bin (v 4) (v 5) b_sub))) ss_nil)
  (ss_cons (s_if (tcmp (v 3) e_str q_eq) (ss_one (s_ret (e_bin (v 5) (v 6) b_and))) ss_nil)
  (ss_cons (s_if (tcmp (v 3) e_str q_eq) (ss_one (s_ret (e_bin (v 5) (v 6) b_or))) ss_nil)
  (ss_cons (s_if (tcmp (v 3) e_str q_eq) (ss_one (s_ret (e_bin (v 5) (v 6) b_xor))) ss_nil)
  (ss_cons (s_if (tcmp (v 3) e_str q_eq) (ss_one (s_ret (e_bin (e_bin (v 5) (v 6) b_sub) (v 4) b_and))) ss_nil)
  (ss_cons (s_if (tcmp (v 3) e_str q_eq) (ss_one (s_ret (e_bin (e_neg (v 5)) (v 4) b_and))) ss_nil)
  (ss_one (s_ret (e_bin (e_bin (v 5) (v 6) b_add) (v 4) b_and)))))))))))))))
abbrev q31 : Stmt := top 28
theorem sc31 : FnScope N31 ["deed", "numbers", "width"] (defScope q31) := ⟨rfl, rfl, rfl, by decide +kernel, rfl, by decide +kernel, by decide +kernel⟩
theorem nd31 : N31.Nodup := sc31.nd
theorem body31 (hG : ∀ c, G.names c = names c) : BodyOk G P w K mg base D fn isiT N31 "_law_count" q31 s31 := fun n Γ f cdv A outer sh H E ck is pr => by
  exact (ss_cons (s_set (i := 3) nd31 rfl (by first | exact Or.inl rfl | exact Or.inr rfl) e_int)
  (ss_cons (s_set (i := 4) nd31 rfl (by first | exact Or.inl rfl | exact Or.inr rfl) e_int)
  (ss_cons (s_for ppB rfl (i_rng1 (v 2) (by rfl)) (g_name (i := 5) nd31 rfl (by first | exact Or.inl rfl | exact Or.inr rfl)) (ss_cons (s_if (tcmp (e_bin (cT b_int (a_cons (v 4) a_nil (by intro h; cases h))) (e_ix (v 0) e_int) b_mod) (e_ix (v 0) e_int) q_eq) (ss_one (s_set (i := 3) nd31 rfl (by first | exact Or.inl rfl | exact Or.inr rfl) (e_bin (v 3) (e_bin e_int (v 5) b_shl) b_add))) ss_nil)
  (ss_one (s_for ppB rfl (i_seq (e_ix (v 0) e_int)) (g_name (i := 6) nd31 rfl (by first | exact Or.inl rfl | exact Or.inr rfl)) (ss_one (s_set (i := 4) nd31 rfl (by first | exact Or.inl rfl | exact Or.inr rfl) (e_bin (v 4) (e_bin (e_bin (e_ix (v 1) (v 6)) (v 5) b_shr) e_int b_and) b_add)))))))
  (ss_one (s_ret (v 3))))))
abbrev q32 : Stmt := top 6
theorem sc32 : FnScope N32 ["value", "width"] (defScope q32) := ⟨rfl, rfl, rfl, by decide +kernel, rfl, by decide +kernel, by decide +kernel⟩
theorem nd32 : N32.Nodup := sc32.nd
theorem body32 (hG : ∀ c, G.names c = names c) : BodyOk G P w K mg base D fn isiT N32 "is_word" q32 s32 := fun n Γ f cdv A outer sh H E ck is pr => by
  exact (ss_one (s_ret (e_and (cU 28 tkB (a_cons (v 0) a_nil)) (e_one (ecmp (e_bits (v 0)) (v 1) b_le)))))
abbrev q33 : Stmt := top 18
theorem sc33 : FnScope N33 ["width", "modulus", "rest", "words"] (defScope q33) := ⟨rfl, rfl, rfl, by decide +kernel, rfl, by decide +kernel, by decide +kernel⟩
theorem nd33 : N33.Nodup := sc33.nd
theorem body33 (hG : ∀ c, G.names c = names c) : BodyOk G P w K mg base D fn isiT N33 "counted_word" q33 s33 := fun n Γ f cdv A outer sh H E ck is pr => by
  exact (ss_cons (s_set (i := 4) nd33 rfl (by first | exact Or.inl rfl | exact Or.inr rfl) e_int)
  (ss_cons (s_set (i := 5) nd33 rfl (by first | exact Or.inl rfl | exact Or.inr rfl) e_int)
  (ss_cons (s_for ppB rfl (i_rng1 (v 0) (by rfl)) (g_name (i := 6) nd33 rfl (by first | exact Or.inl rfl | exact Or.inr rfl)) (ss_cons (s_if (tcmp (v 5) (v 2) q_eq) (ss_one (s_aug (i := 4) nd33 rfl (by first | exact Or.inl rfl | exact Or.inr rfl) (e_bin e_int (v 6) b_shl) b_ior)) ss_nil)
  (ss_one (s_set (i := 5) nd33 rfl (by first | exact Or.inl rfl | exact Or.inr rfl) (e_bin (e_bin (v 5) (cB (b_sum rfl) (a_cons (e_lc rfl nd33 (i_seq (v 3)) (blkOk_by (own := [("part", 7)]) (by rfl)) (fun _ _ _ _ _ => (g_name (i := 7) nd33 rfl (by first | exact Or.inl rfl | exact Or.inr rfl))) (fun _ _ _ _ _ => ts_nil) (fun _ _ _ _ _ => (e_bin (e_bin (v 7) (v 6) b_shr) e_int b_and))) a_nil (by intro h; cases h))) b_add) (v 1) b_mod)))))
  (ss_one (s_ret (v 4))))))
end
end PPK10

/-! PPEval: laws of the denotations, for the plain part. -/
namespace PP
open PySem L2
section
variable {ρ ρ1 ρ2 : PEnv} {s t : DS} {o : Out} {c : DT} {fa fb fc : DE} {fl : DA} {d x y : PV}
@[simp] theorem bind_ok {α β : Type} {a : α} {f : α → R β} : (R.ok a).bind f = f a := rfl
@[simp] theorem bind_ex {α β : Type} {cc : Nat} {fs : List PV} {f : α → R β} : (R.ex cc fs).bind f = R.ex cc fs := rfl
@[simp] theorem bind_bad {α β : Type} {f : α → R β} : (R.bad : R α).bind f = .bad := rfl
@[simp] theorem ofOpt_some {α : Type} {a : α} : R.ofOpt (some a) = .ok a := rfl
@[simp] theorem exo_ok {α : Type} {a : α} {f : α → Out} : exo ρ (.ok a) f = f a := rfl
theorem run_seq (h : s ρ = .nx ρ1) (k : t ρ1 = o) : sSeq s t ρ = o := by unfold sSeq; rw [h]; exact k
theorem seq_nx (h : s ρ = .nx ρ1) : sSeq s t ρ = t ρ1 := run_seq h rfl
theorem seq_rt {d : PV} (h : s ρ = .rt d) : sSeq s t ρ = .rt d := by unfold sSeq; rw [h]
theorem if_T (h : c ρ = .ok true) : sIf c s t ρ = s ρ := by unfold sIf; rw [h]; rfl
theorem if_F (h : c ρ = .ok false) : sIf c s t ρ = t ρ := by unfold sIf; rw [h]; rfl
theorem ret_ok (h : fa ρ = .ok d) : sRet fa ρ = .rt d := by unfold sRet; rw [h]; rfl
theorem asg_ok {i : Nat} (h : fa ρ = .ok d) : sAsg i fa ρ = .nx (ρ.set i (.fr d)) := by unfold sAsg; rw [h]; rfl
theorem asgO_ok {i : Nat} (h : fa ρ = .ok d) : sAsgO i fa ρ = .nx (ρ.set i (.ow d)) := by unfold sAsgO; rw [h]; rfl
theorem drop_ok (h : fa ρ = .ok d) : sDrop fa ρ = .nx ρ := by unfold sDrop; rw [h]; rfl
theorem thF_ok {i : Nat} (h : s ρ = .nx ρ1) : sThF i s ρ = .nx (frz [i] ρ1) := by unfold sThF; rw [h]
theorem for_ok {it : DA} {g : DG} {ds : List PV} (h : it ρ = .ok ds) : sFor it g s ρ = forL g s ds ρ := by unfold sFor; rw [h]; rfl
@[simp] theorem nx_eq : sNx ρ = .nx ρ := rfl
@[simp] theorem dC_eq : dC d ρ = .ok d := rfl
@[simp] theorem dNil_eq : dNil ρ = .ok [] := rfl
@[simp] theorem dYes_eq : dYes ρ = .ok true := rfl
theorem dBin_ok {g : PV → PV → R PV} (ha : fa ρ = .ok x) (hb : fb ρ = .ok y) : dBin g fa fb ρ = g x y := by unfold dBin; rw [ha, bind_ok, hb, bind_ok]
theorem dUn_ok {g : PV → R PV} (ha : fa ρ = .ok x) : dUn g fa ρ = g x := by unfold dUn; rw [ha, bind_ok]
theorem dCons_ok {ds : List PV} (ha : fa ρ = .ok x) (hb : fl ρ = .ok ds) : dCons fa fl ρ = .ok (x :: ds) := by unfold dCons; rw [ha, bind_ok, hb, bind_ok]
theorem dCall_ok {Γ : Tab} {i : Nat} {ds : List PV} (h : fl ρ = .ok ds) : dCall Γ i fl ρ = Γ i ds := by unfold dCall; rw [h, bind_ok]
theorem dFn_ok {g : List PV → R PV} {ds : List PV} (h : fl ρ = .ok ds) : dFn g fl ρ = g ds := by unfold dFn; rw [h, bind_ok]
@[simp] theorem asBl_bl {b : Bool} : asBl (.bl b) = .ok b := rfl
/-- loops: an invariant -/
theorem forL_inv {g : DG} {s : DS} (P : Nat → PEnv → Prop) : ∀ (ds : List PV) (n : Nat) (ρ : PEnv), P n ρ →
    (∀ i d ρ, ds[i]? = some d → P (n + i) ρ → ∃ ρ1 ρ2, g d ρ = .ok ρ1 ∧ (s ρ1 = .nx ρ2 ∨ s ρ1 = .ct ρ2) ∧ P (n + i + 1) ρ2) → ∃ ρ', forL g s ds ρ = .nx ρ' ∧ P (n + ds.length) ρ'
  | [], n, ρ, h, _ => ⟨ρ, rfl, h⟩
  | d :: r, n, ρ, h, st => by
    obtain ⟨ρ1, ρ2, h1, h2, h3⟩ := st 0 d ρ rfl h
    obtain ⟨ρ', h4, h5⟩ := forL_inv P r (n + 1) ρ2 h3 fun i d' ρ' hd hp => by
      have := st (i + 1) d' ρ' (by simpa using hd) (by rw [Nat.add_assoc, Nat.add_comm 1 i] at hp; exact hp)
      rw [show n + 1 + i + 1 = n + (i + 1) + 1 by omega]
      exact this
    refine ⟨ρ', ?_, by rw [List.length_cons, show n + (r.length + 1) = n + 1 + r.length by omega]; exact h5⟩
    unfold forL
    rw [h1]
    rcases h2 with h2 | h2
    · simp only [h2]; exact h4
    · simp only [h2]; exact h4
/-- loops that may return: b tells whether the walk goes on at the item -/
theorem forL_all {g : DG} {s : DS} {v : PV} (b : PV → Bool) (P : PEnv → Prop) : ∀ (ds : List PV) (ρ : PEnv), P ρ →
    (∀ d ρ, d ∈ ds → P ρ → ∃ ρ1, g d ρ = .ok ρ1 ∧ ((b d = true ∧ ∃ ρ2, s ρ1 = .nx ρ2 ∧ P ρ2) ∨ (b d = false ∧ s ρ1 = .rt v))) → (ds.all b = true ∧ ∃ ρ', forL g s ds ρ = .nx ρ' ∧ P ρ') ∨ (ds.all b = false ∧ forL g s ds ρ = .rt v)
  | [], ρ, h, _ => .inl ⟨rfl, ρ, rfl, h⟩
  | d :: r, ρ, h, st => by
    obtain ⟨ρ1, h1, h2⟩ := st d ρ List.mem_cons_self h
    unfold forL
    rw [h1, List.all_cons]
    rcases h2 with ⟨hb, ρ2, h2, h3⟩ | ⟨hb, h2⟩
    · simp only [h2]
      rw [hb, Bool.true_and]
      exact forL_all b P r ρ2 h3 fun d' ρ' hd => st d' ρ' (List.mem_cons_of_mem _ hd)
    · simp only [h2]
      rw [hb, Bool.false_and]
      exact .inr ⟨rfl, trivial⟩
/-- comprehensions -/
theorem lcL_map {g : DG} {t : DT} {e : DE} {ρ : PEnv} (f : PV → PV) : ∀ (ds : List PV), (∀ d ∈ ds, ∃ ρ1, g d ρ = .ok ρ1 ∧ t ρ1 = .ok true ∧ e ρ1 = .ok (f d)) → lcL g t e ρ ds = .ok (ds.map f)
  | [], _ => rfl
  | d :: r, h => by
    obtain ⟨ρ1, h1, h2, h3⟩ := h d List.mem_cons_self
    unfold lcL
    rw [h1]
    simp only [h2, h3]
    rw [lcL_map f r fun d' hd => h d' (List.mem_cons_of_mem _ hd)]
    rfl
theorem lcL_mapI {g : DG} {t : DT} {e : DE} {ρ : PEnv} : ∀ (ds xs : List PV), ds.length = xs.length → (∀ (i : Nat) (d x : PV), ds[i]? = some d → xs[i]? = some x → ∃ ρ1, g d ρ = .ok ρ1 ∧ t ρ1 = .ok true ∧ e ρ1 = .ok x) → lcL g t e ρ ds = .ok xs
  | [], [], _, _ => rfl
  | [], _ :: _, hl, _ => by simp at hl
  | _ :: _, [], hl, _ => by simp at hl
  | d :: r, x :: xs, hl, h => by
    obtain ⟨ρ1, h1, h2, h3⟩ := h 0 d x rfl rfl
    unfold lcL
    rw [h1]
    simp only [h2, h3]
    rw [lcL_mapI r xs (by simpa using hl) fun i d' x' hd hx => h (i + 1) d' x' (by simpa using hd) (by simpa using hx)]
theorem lcL_filter {g : DG} {t : DT} {e : DE} {ρ : PEnv} (p : PV → Bool) (f : PV → PV) : ∀ (ds : List PV), (∀ d ∈ ds, ∃ ρ1, g d ρ = .ok ρ1 ∧ t ρ1 = .ok (p d) ∧ (p d = true → e ρ1 = .ok (f d))) → lcL g t e ρ ds = .ok ((ds.filter p).map f)
  | [], _ => rfl
  | d :: r, h => by
    obtain ⟨ρ1, h1, h2, h3⟩ := h d List.mem_cons_self
    have ih := lcL_filter p f r fun d' hd => h d' (List.mem_cons_of_mem _ hd)
    unfold lcL
    rw [h1]
    simp only [h2]
    cases hp : p d with
    | true => rw [List.filter_cons_of_pos hp, List.map_cons]; simp only [h3 hp, ih]
    | false => rw [List.filter_cons_of_neg (by rw [hp]; exact Bool.false_ne_true)]; simpa only [] using ih
theorem dLc_ok {it : DA} {g : DG} {t : DT} {e : DE} {vs : List Nat} {ds xs : List PV} (h : it ρ = .ok ds) (hl : ds.length ≤ cap) (k : lcL g t e (wipeE ρ vs) ds = .ok xs) : dLc it g t e vs ρ = .ok (.lst xs) := by
  unfold dLc
  rw [h, bind_ok, if_pos hl, k]
/-- indices -/
theorem atI_nat {α : Type} {xs : List α} {i : Nat} (h : i < xs.length) : atI xs (i : Int) = xs[i]? := by
  unfold L2.atI L2.ixN
  rw [if_pos (Int.natCast_nonneg i), if_pos (by omega)]
  simp
theorem atI_in {α : Type} {xs : List α} {i : Int} (h0 : 0 ≤ i) (h : i < xs.length) : ∃ x, atI xs i = some x ∧ xs[i.toNat]? = some x := by
  obtain ⟨n, rfl⟩ := Int.eq_ofNat_of_zero_le h0
  have hn : n < xs.length := by omega
  refine ⟨xs[n], ?_, ?_⟩
  · show L2.atI xs ((n : Nat) : Int) = _
    unfold L2.atI L2.ixN
    rw [if_pos (Int.natCast_nonneg n), if_pos (by omega)]
    simp
  · show xs[((n : Nat) : Int).toNat]? = _
    simp
@[simp] theorem intsP_is (ns : List Int) : intsP (ns.map PV.int) = some ns := intsP_map ns
@[simp] theorem blsP_is (ns : List Bool) : blsP (ns.map PV.bl) = some ns := blsP_map ns
theorem fnDen_ok {np nN : Nat} {s : DS} {ds : List PV} {d : PV} (hl : ds.length = np) (h : s (ds.map Slot.fr ++ List.replicate (nN - np) Slot.no) = .rt d) : fnDen np nN s ds = .ok d := by
  unfold fnDen; rw [if_pos hl, h]
theorem dRng1_ok {j : Int} (h : fa ρ = .ok (.int j)) (h1 : 0 ≤ j) (h2 : j ≤ 1000000000) : dRng1 fa ρ = .ok (rngP 0 j.toNat) := by
  have hr : rgOk j := ⟨by omega, by omega⟩
  unfold dRng1
  rw [h, bind_ok]
  show (if rgOk j then _ else _) = _
  rw [if_pos hr]
theorem dRng2_ok {i j : Int} (h : fa ρ = .ok (.int i)) (h' : fb ρ = .ok (.int j)) (h1 : -1000000000 ≤ i ∧ i ≤ 1000000000) (h2 : -1000000000 ≤ j ∧ j ≤ 1000000000) : dRng2 fa fb ρ = .ok (rngP i (j - i).toNat) := by
  have hr : rgOk i ∧ rgOk j := ⟨⟨by omega, by omega⟩, ⟨by omega, by omega⟩⟩
  unfold dRng2
  rw [h, bind_ok, h', bind_ok]
  show (if rgOk i ∧ rgOk j then _ else _) = _
  rw [if_pos hr]
@[simp] theorem oLen_lst {xs : List PV} : oLen (.lst xs) = .ok (.int xs.length) := rfl
@[simp] theorem oLen_tup {xs : List PV} : oLen (.tup xs) = .ok (.int xs.length) := rfl
@[simp] theorem oLen_scr {xs : List PV} : oLen (.scr xs) = .ok (.int xs.length) := rfl
theorem oMul_ok {i j : Int} (h : mulC i j = true) : oMul (.int i) (.int j) = .ok (.int (i * j)) := by simp [oMul, h]
theorem mulC_r {i j : Int} (h1 : -(2 ^ 64) < j) (h2 : j < 2 ^ 64) : mulC i j = true := by
  unfold mulC
  rw [Bool.or_eq_true]
  exact .inl (decide_eq_true (.inr ⟨h1, h2⟩))
theorem mulC_l {i j : Int} (h1 : -(2 ^ 64) < i) (h2 : i < 2 ^ 64) : mulC i j = true := by
  unfold mulC
  rw [Bool.or_eq_true]
  exact .inl (decide_eq_true (.inl ⟨h1, h2⟩))
theorem fmod_nn {a b : Int} (h : 0 < b) : 0 ≤ a.fmod b ∧ a.fmod b < b := ⟨Int.fmod_nonneg_of_pos a h, Int.fmod_lt_of_pos a h⟩
theorem oI_yes {C : Int → Int → Bool} {g : Int → Int → PV} {i j : Int} (h : C i j = true) : oI C g (.int i) (.int j) = .ok (g i j) := by
  show (if C i j = true then _ else _) = _
  rw [if_pos h]
theorem oShl_ok {i j : Int} (h0 : 0 ≤ j) (h1 : i.natAbs < 2 ^ 100) (h2 : j ≤ 1000000) : oShl (.int i) (.int j) = .ok (.int (i * 2 ^ j.toNat)) :=
  oI_yes (decide_eq_true ⟨h0, by
    have := (PySem.intBits_le_iff (m := 100) (x := i)).mpr h1
    omega⟩)
theorem oShr_ok {i j : Int} (h0 : 0 ≤ j) : oShr (.int i) (.int j) = .ok (.int (i / 2 ^ j.toNat)) := oI_yes (decide_eq_true h0)
theorem oMod_ok {i j : Int} (h0 : j ≠ 0) : oMod (.int i) (.int j) = .ok (.int (i.fmod j)) := oI_yes (decide_eq_true h0)
theorem oFdiv_ok {i j : Int} (h0 : j ≠ 0) (h1 : j.natAbs < 1073741824) : oFdiv (.int i) (.int j) = .ok (.int (i.fdiv j)) := oI_yes (decide_eq_true ⟨h0, h1⟩)
@[simp] theorem oAnd_one {i : Int} : oAnd (.int i) (.int 1) = .ok (.int (i % 2)) := by
  show R.ok (PV.int (Builtin.bitAnd i 1)) = _
  rw [PyProof.Rows.bitAnd_m1]
@[simp] theorem oAdd_int {i j : Int} : oAdd (.int i) (.int j) = .ok (.int (i + j)) := rfl
@[simp] theorem oSub_int {i j : Int} : oSub (.int i) (.int j) = .ok (.int (i - j)) := rfl
@[simp] theorem oLt_int {i j : Int} : oLt (.int i) (.int j) = .ok (.bl (decide (i < j))) := rfl
@[simp] theorem oLe_int {i j : Int} : oLe (.int i) (.int j) = .ok (.bl (decide (i ≤ j))) := rfl
@[simp] theorem oGt_int {i j : Int} : oGt (.int i) (.int j) = .ok (.bl (decide (j < i))) := rfl
@[simp] theorem oGe_int {i j : Int} : oGe (.int i) (.int j) = .ok (.bl (decide (j ≤ i))) := rfl
@[simp] theorem oEq_int {i j : Int} : oEq (.int i) (.int j) = .ok (.bl (decide (i = j))) := rfl
@[simp] theorem oNe_int {i j : Int} : oNe (.int i) (.int j) = .ok (.bl (!decide (i = j))) := rfl
@[simp] theorem oInt_int {i : Int} : oInt (.int i) = .ok (.int i) := rfl
@[simp] theorem oNeg_int {i : Int} : oNeg (.int i) = .ok (.int (-i)) := rfl
@[simp] theorem oNot_bl {b : Bool} : oNot (.bl b) = .ok (.bl (!b)) := by cases b <;> rfl
@[simp] theorem truthP_bl {b : Bool} : truthP (.bl b) = .ok b := rfl
@[simp] theorem f1_eq {g : PV → R PV} {d : PV} : f1 g [d] = g d := rfl
@[simp] theorem oTuple_lst {xs : List PV} : oTuple (.lst xs) = .ok (.tup xs) := rfl
@[simp] theorem oTuple_tup {xs : List PV} : oTuple (.tup xs) = .ok (.tup xs) := rfl
@[simp] theorem oList_lst {xs : List PV} : oList (.lst xs) = .ok (.lst xs) := rfl
@[simp] theorem oList_tup {xs : List PV} : oList (.tup xs) = .ok (.lst xs) := rfl
@[simp] theorem oIx_lst {xs : List PV} {i : Int} : oIx (.lst xs) (.int i) = .ofOpt (atI xs i) := rfl
@[simp] theorem oIx_tup {xs : List PV} {i : Int} : oIx (.tup xs) (.int i) = .ofOpt (atI xs i) := rfl
@[simp] theorem oIx_scr {xs : List PV} {i : Int} : oIx (.scr xs) (.int i) = .ofOpt (atI xs i) := rfl
@[simp] theorem oSum_ints {ns : List Int} : oSum (.lst (ns.map PV.int)) = .ok (.int ns.sum) := by
  show (match intsP (ns.map PV.int) with | some ns => R.ok (PV.int ns.sum) | none => .bad) = _
  rw [intsP_map]
@[simp] theorem oAll_bls {ns : List Bool} : oAll (.lst (ns.map PV.bl)) = .ok (.bl (ns.all id)) := by
  show (match blsP (ns.map PV.bl) with | some bs => R.ok (PV.bl (bs.all id)) | none => .bad) = _
  rw [blsP_map]
theorem oPow_10_18 : oPow (.int 10) (.int 18) = .ok (.int 1000000000000000000) := by rfl
theorem dLst_ok {ds : List PV} (h : fl ρ = .ok ds) (hl : ds.length ≤ 1000) : dLst fl ρ = .ok (.lst ds) := by
  have hc : cap = 16777216 := rfl
  unfold dLst
  rw [h, bind_ok, if_pos (by omega)]
theorem dTup_ok {ds : List PV} (h : fl ρ = .ok ds) (hl : ds.length ≤ 1000) : dTup fl ρ = .ok (.tup ds) := by
  have hc : cap = 16777216 := rfl
  unfold dTup
  rw [h, bind_ok, if_pos (by omega)]
theorem sApp_ok {i : Nat} {ds : List PV} (hi : ρ[i]? = some (.ow (.lst ds))) (h : fa ρ = .ok d) (hl : ds.length < 1000000) : sApp i fa ρ = .nx (ρ.set i (.ow (.lst (ds ++ [d])))) := by
  have hc : cap = 16777216 := rfl
  unfold sApp
  rw [hi]
  simp only [h, exo_ok]
  rw [if_pos (by omega)]
theorem oCat_ok {xs ys : List PV} (h : xs.length + ys.length ≤ 1000000) : oAdd (.lst xs) (.lst ys) = .ok (.lst (xs ++ ys)) := by
  have hc : cap = 16777216 := rfl
  show (if xs.length + ys.length ≤ cap then _ else _) = _
  rw [if_pos (by omega)]
theorem oCatT_ok {xs ys : List PV} (h : xs.length + ys.length ≤ 1000000) : oAdd (.tup xs) (.tup ys) = .ok (.tup (xs ++ ys)) := by
  have hc : cap = 16777216 := rfl
  show (if xs.length + ys.length ≤ cap then _ else _) = _
  rw [if_pos (by omega)]
/-! ### how the denotations unfold -/
section
variable {g : PV → PV → R PV} {u : PV → R PV} {gl : List PV → R PV} {i : Nat} {tt tu : DT} {is : List Nat} {lo hi : DP} {gs : PV → Option Int → Option Int → R PV} {Γ : Tab}
@[simp] theorem u_dBin : dBin g fa fb ρ = (fa ρ).bind fun x => (fb ρ).bind fun y => g x y := rfl
@[simp] theorem u_dUn : dUn u fa ρ = (fa ρ).bind u := rfl
@[simp] theorem u_dFn : dFn gl fl ρ = (fl ρ).bind gl := rfl
@[simp] theorem u_dCons : dCons fa fl ρ = (fa ρ).bind fun x => (fl ρ).bind fun r => .ok (x :: r) := rfl
@[simp] theorem u_dVar : dVar i ρ = match ρ[i]? with
  | some (.fr d) => .ok d
  | _ => .bad := rfl
@[simp] theorem u_dBVar : dBVar i ρ = match ρ[i]? with
  | some (.fr d) => .ok d
  | some (.ow d) => .ok d
  | _ => .bad := rfl
@[simp] theorem u_dTst : dTst fa ρ = (fa ρ).bind asBl := rfl
@[simp] theorem u_dTru : dTru fa ρ = (fa ρ).bind truthP := rfl
@[simp] theorem u_dAndT : dAndT tt tu ρ = (tt ρ).bind fun b => if b then tu ρ else .ok false := rfl
@[simp] theorem u_dOrT : dOrT tt tu ρ = (tt ρ).bind fun b => if b then .ok true else tu ρ := rfl
@[simp] theorem u_dNotT : dNotT tt ρ = (tt ρ).bind fun b => .ok (!b) := rfl
@[simp] theorem u_frz0 : frz [] ρ = ρ := rfl
@[simp] theorem u_frz1 : frz (i :: is) ρ = frz is (match ρ[i]? with
  | some (.ow d) => ρ.set i (.fr d)
  | _ => ρ) := rfl
@[simp] theorem u_dSl : dSl gs fa lo hi ρ = (fa ρ).bind fun x => (lo ρ).bind fun l => (hi ρ).bind fun z => gs x l z := rfl
@[simp] theorem u_dNo : dNo ρ = .ok none := rfl
@[simp] theorem u_dPt : dPt fa ρ = (fa ρ).bind fun x => match x with
  | .int i => .ok (some i)
  | _ => .bad := rfl
@[simp] theorem u_dCall : dCall Γ i fl ρ = (fl ρ).bind (Γ i) := rfl
@[simp] theorem u_pow18 : oPow (.int 10) (.int 18) = .ok (.int 1000000000000000000) := oPow_10_18
end
theorem sFld0_ok {c n : Nat} {ds : List PV} {v : PV} {r : PEnv} (hn : ds.length = n) (h : fa (.sf c ds :: r) = .ok v) (hall : r.all (fun s => !isSf s) = true) : sFld0 c n fa (.sf c ds :: r) = .nx (.sf c (ds ++ [v]) :: r) := by
  show (if c = c ∧ ds.length = n then sSetF fa (.sf c ds :: r) else Out.bad) = _
  rw [if_pos ⟨rfl, hn⟩]
  unfold sSetF
  rw [h, exo_ok]
  show (if r.all (fun s => !isSf s) = true then _ else _) = _
  rw [if_pos hall]
theorem iniDen_ok {c m np nN : Nat} {s : DS} {ds ds' : List PV} {rest : PEnv} (hl : ds.length + 1 = np) (h : s (Slot.sf c [] :: (ds.map Slot.fr ++ List.replicate (nN - np) Slot.no)) = .nx (.sf c ds' :: rest)) (hm : ds'.length = m) : iniDen c m np nN s ds = .ok (.obj c ds') := by
  unfold iniDen
  rw [if_pos hl, h]
  show (if c = c ∧ ds'.length = m then _ else _) = _
  rw [if_pos ⟨rfl, hm⟩]
end
end PP

/-! PPNum: sums of bits; things that compare with themselves. -/
namespace PP
open PySem L2
/-! ### bits -/
def bsum (f : Nat → Int) (n : Nat) : Int := ((List.range n).map fun k => f k * 2 ^ k).sum
theorem bsum_zero (f : Nat → Int) : bsum f 0 = 0 := rfl
theorem bsum_succ (f : Nat → Int) (n : Nat) : bsum f (n + 1) = bsum f n + f n * 2 ^ n := by
  unfold bsum
  rw [List.range_succ, List.map_append, List.sum_append]
  simp
theorem bsum_shift (f : Nat → Int) (n : Nat) : bsum f (n + 1) = f 0 + 2 * bsum (fun k => f (k + 1)) n := by
  induction n with
  | zero => rw [bsum_succ, bsum_zero, bsum_zero]; simp
  | succ n ih =>
    have e : f (n + 1) * 2 ^ (n + 1) = 2 * (f (n + 1) * 2 ^ n) := by
      rw [Int.pow_succ, Int.mul_comm (2 ^ n) 2, ← Int.mul_assoc, ← Int.mul_assoc, Int.mul_comm (f (n + 1)) 2]
    rw [bsum_succ, ih, bsum_succ, Int.mul_add, e]
    omega
theorem bsum_congr {f g : Nat → Int} {n : Nat} (h : ∀ k, k < n → f k = g k) : bsum f n = bsum g n := by
  unfold bsum
  congr 1
  apply List.map_congr_left
  intro k hk
  rw [h k (List.mem_range.mp hk)]
theorem bsum_bound {f : Nat → Int} {n : Nat} (h : ∀ k, k < n → 0 ≤ f k ∧ f k ≤ 1) : 0 ≤ bsum f n ∧ bsum f n < 2 ^ n := by
  induction n with
  | zero => rw [bsum_zero]; exact ⟨Int.le_refl _, by decide⟩
  | succ n ih =>
    have i := ih fun k hk => h k (Nat.lt_succ_of_lt hk)
    have hn := h n (Nat.lt_succ_self n)
    have hp : (0 : Int) < 2 ^ n := Int.pow_pos (by decide)
    rw [bsum_succ, Int.pow_succ]
    have : f n = 0 ∨ f n = 1 := by omega
    rcases this with e | e <;> rw [e] <;> omega
theorem div_pow_succ (x : Int) (k : Nat) : x / 2 ^ (k + 1) = x / 2 / 2 ^ k := by
  rw [Int.pow_succ, Int.mul_comm, Int.ediv_ediv_of_nonneg (by decide)]
theorem bsum_bit : ∀ {n : Nat} {f : Nat → Int} {i : Nat}, (∀ k, k < n → 0 ≤ f k ∧ f k ≤ 1) → i < n → bsum f n / 2 ^ i % 2 = f i
  | 0, _, _, _, h => absurd h (Nat.not_lt_zero _)
  | n + 1, f, i, h, hi => by
    have h0 := h 0 (Nat.zero_lt_succ n)
    rw [bsum_shift]
    cases i with
    | zero =>
      rw [show ((2 : Int) ^ 0) = 1 from rfl, Int.ediv_one]
      omega
    | succ i =>
      rw [div_pow_succ, show (f 0 + 2 * bsum (fun k => f (k + 1)) n) / 2 = bsum (fun k => f (k + 1)) n by omega]
      exact bsum_bit (fun k hk => h (k + 1) (Nat.succ_lt_succ hk)) (Nat.lt_of_succ_lt_succ hi)
theorem bsum_bits : ∀ {w : Nat} {x : Int}, 0 ≤ x → x < 2 ^ w → bsum (fun p => x / 2 ^ p % 2) w = x
  | 0, x, h0, h1 => by
    rw [bsum_zero]
    have : x < 1 := h1
    omega
  | w + 1, x, h0, h1 => by
    rw [bsum_shift]
    have hp : x < 2 ^ w * 2 := by rw [← Int.pow_succ]; exact h1
    have e : bsum (fun k => x / 2 ^ (k + 1) % 2) w = x / 2 := by
      have := bsum_bits (w := w) (x := x / 2) (by omega) (by omega)
      rw [← this]
      exact bsum_congr fun k _ => by rw [div_pow_succ]
    rw [e, show ((2 : Int) ^ 0) = 1 from rfl, Int.ediv_one]
    omega
theorem bit_b (x : Int) (p : Nat) : 0 ≤ x / 2 ^ p % 2 ∧ x / 2 ^ p % 2 ≤ 1 := by omega
theorem mod_bit : ∀ {p w : Nat} {x : Int}, p < w → x % 2 ^ w / 2 ^ p % 2 = x / 2 ^ p % 2
  | 0, w, x, h => by
    rw [show ((2 : Int) ^ 0) = 1 from rfl, Int.ediv_one, Int.ediv_one]
    obtain ⟨w, rfl⟩ : ∃ k, w = k + 1 := ⟨w - 1, by omega⟩
    rw [Int.pow_succ]
    exact Int.emod_emod_of_dvd x ⟨2 ^ w, by rw [Int.mul_comm]⟩
  | p + 1, w, x, h => by
    obtain ⟨w, rfl⟩ : ∃ k, w = k + 1 := ⟨w - 1, by omega⟩
    rw [div_pow_succ, div_pow_succ]
    have e : x % 2 ^ (w + 1) / 2 = x / 2 % 2 ^ w := by
      rw [Int.pow_succ, Int.mul_comm]
      have hp : (0 : Int) < 2 ^ w := Int.pow_pos (by decide)
      have h1 := Int.mul_ediv_add_emod x (2 * 2 ^ w)
      have h2 := Int.mul_ediv_add_emod (x / 2) (2 ^ w)
      have h3 : x / (2 * 2 ^ w) = x / 2 / 2 ^ w := (Int.ediv_ediv_of_nonneg (by decide)).symm
      rw [h3, Int.mul_assoc] at h1
      omega
    rw [e]
    exact mod_bit (by omega)
theorem oShl_bit {b : Int} {k : Int} (h0 : 0 ≤ b) (h1 : b ≤ 1) (hk : 0 ≤ k) (hk2 : k ≤ 1000000) : oShl (.int b) (.int k) = .ok (.int (b * 2 ^ k.toNat)) := oShl_ok hk (Nat.lt_of_le_of_lt (show b.natAbs ≤ 1 by omega) (by decide)) hk2
/-! ### things that compare with themselves -/
def Lay (n : Nat) (r : PV) : Prop := ∃ p, PV.py r = some p ∧ p.canLay0 = true ∧ p.depth ≤ n
theorem Lay.mono {n m : Nat} {r : PV} (h : Lay n r) (hn : n ≤ m) : Lay m r := let ⟨p, a, b, c⟩ := h; ⟨p, a, b, Nat.le_trans c hn⟩
theorem Lay.eq {n : Nat} {r : PV} (h : Lay n r) (hn : n ≤ 64) : oEq r r = .ok (.bl true) := by
  obtain ⟨p, h1, h2, h3⟩ := h
  have hd : deepP r r = some true := by
    unfold deepP
    rw [h1]
    show (if SeqAt.shaped p && SeqAt.shaped p then some (PyData.eqv p p) else none) = _
    have hs : SeqAt.shaped p = true := by
      unfold SeqAt.shaped
      rw [h2, decide_eq_true (Nat.le_trans h3 hn)]
      rfl
    rw [hs, SeqAt.eqv_refl p h2]
    rfl
  unfold oEq eqP
  cases hs : scalP r r with
  | none => rw [hd]
  | some b =>
    have : b = true := by
      cases r <;> simp [scalP] at hs <;> (first | exact hs.symm | exact hs)
    rw [this]
theorem Lay.ne {n : Nat} {r : PV} (h : Lay n r) (hn : n ≤ 64) : oNe r r = .ok (.bl false) := by
  have := h.eq hn
  unfold oEq at this
  unfold oNe
  cases he : eqP r r with
  | none => rw [he] at this; cases this
  | some b => rw [he] at this; cases this; rfl
theorem ints_of {P : Int → Prop} : ∀ {xs : List PV}, (∀ x ∈ xs, ∃ i, x = .int i ∧ P i) → ∃ ns : List Int, xs = ns.map PV.int ∧ ∀ i ∈ ns, P i
  | [], _ => ⟨[], rfl, fun i h => by simp at h⟩
  | x :: r, h => by
    obtain ⟨i, rfl, hi⟩ := h x List.mem_cons_self
    obtain ⟨ns, rfl, hn⟩ := ints_of (xs := r) fun y hy => h y (List.mem_cons_of_mem _ hy)
    refine ⟨i :: ns, rfl, fun j hj => ?_⟩
    rcases List.mem_cons.mp hj with rfl | hj
    · exact hi
    · exact hn j hj
theorem lay_all {n : Nat} : ∀ {xs : List PV}, (∀ x ∈ xs, Lay n x) → ∃ ps, PV.pys xs = some ps ∧ PyData.canLayAll0 ps = true ∧ PyData.depthAll ps ≤ n
  | [], _ => ⟨[], rfl, by simp [PyData.canLayAll0], by simp [PyData.depthAll]⟩
  | x :: r, h => by
    obtain ⟨p, h1, h2, h3⟩ := h x List.mem_cons_self
    obtain ⟨ps, h4, h5, h6⟩ := lay_all (xs := r) fun y hy => h y (List.mem_cons_of_mem _ hy)
    refine ⟨p :: ps, ?_, ?_, ?_⟩
    · unfold PV.pys; rw [h1, h4]
    · unfold PyData.canLayAll0; rw [h2, h5]; rfl
    · unfold PyData.depthAll; exact Nat.max_le.mpr ⟨h3, h6⟩
theorem Lay.tup {n : Nat} {xs : List PV} (h : ∀ x ∈ xs, Lay n x) : Lay (n + 1) (.tup xs) := by
  obtain ⟨ps, h1, h2, h3⟩ := lay_all h
  refine ⟨.tuple ps, ?_, ?_, ?_⟩
  · unfold PV.py; rw [h1]; rfl
  · unfold PyData.canLay0; exact h2
  · unfold PyData.depth; omega
theorem Lay.lst {n : Nat} {xs : List PV} (h : ∀ x ∈ xs, Lay n x) : Lay (n + 1) (.lst xs) := by
  obtain ⟨ps, h1, h2, h3⟩ := lay_all h
  refine ⟨.list ps, ?_, ?_, ?_⟩
  · unfold PV.py; rw [h1]; rfl
  · unfold PyData.canLay0; exact h2
  · unfold PyData.depth; omega
theorem lay_int (i : Int) : Lay 0 (.int i) := ⟨.int i, by unfold PV.py; rfl, by unfold PyData.canLay0; rfl, by unfold PyData.depth; exact Nat.le_refl _⟩
theorem lay_bl (i : Bool) : Lay 0 (.bl i) := ⟨.bool i, by unfold PV.py; rfl, by unfold PyData.canLay0; rfl, by unfold PyData.depth; exact Nat.le_refl _⟩
theorem lay_str {x : Str} (h : PyData.strOk x = true) : Lay 0 (.str x) := ⟨.str x, by unfold PV.py; rfl, by unfold PyData.canLay0; exact h, by unfold PyData.depth; exact Nat.le_refl _⟩
theorem lay_ints (ns : List Int) : Lay 1 (.lst (ns.map PV.int)) := Lay.lst fun x hx => by
  obtain ⟨n, _, rfl⟩ := List.mem_map.mp hx
  exact lay_int n
/-- comprehensions, by what holds of the items -/
theorem lcL_ex {g : DG} {t : DT} {e : DE} {ρ : PEnv} (P : PV → Prop) : ∀ (ds : List PV), (∀ d ∈ ds, ∃ ρ1 x, g d ρ = .ok ρ1 ∧ t ρ1 = .ok true ∧ e ρ1 = .ok x ∧ P x) → ∃ xs, lcL g t e ρ ds = .ok xs ∧ xs.length = ds.length ∧ ∀ x ∈ xs, P x
  | [], _ => ⟨[], rfl, rfl, fun x h => by simp at h⟩
  | d :: r, h => by
    obtain ⟨ρ1, x, h1, h2, h3, h4⟩ := h d List.mem_cons_self
    obtain ⟨xs, h5, h6, h7⟩ := lcL_ex P r fun d' hd => h d' (List.mem_cons_of_mem _ hd)
    refine ⟨x :: xs, ?_, by simp [h6], fun y hy => ?_⟩
    · unfold lcL
      rw [h1]
      simp only [h2, h3, h5]
    · rcases List.mem_cons.mp hy with rfl | hy
      · exact h4
      · exact h7 y hy
end PP

/-! PPRow: deeds of a row, what they tell. -/
namespace PP
open PySem L2
inductive Deed where
  | zero | ones | not (a : Nat) | shift (a : Nat) | minus (a : Nat) | and (a b : Nat) | or (a b : Nat) | xor (a b : Nat) | add (a b : Nat) | sub (a b : Nat)
  | count (p r : Nat) (parts : List Nat)
def Deed.pv : Deed → PV
  | .zero => .tup [.str "zero"]
  | .ones => .tup [.str "ones"]
  | .not a => .tup [.str "not", .int (a : Nat)]
  | .shift a => .tup [.str "shift", .int (a : Nat)]
  | .minus a => .tup [.str "minus", .int (a : Nat)]
  | .and a b => .tup [.str "and", .int (a : Nat), .int (b : Nat)]
  | .or a b => .tup [.str "or", .int (a : Nat), .int (b : Nat)]
  | .xor a b => .tup [.str "xor", .int (a : Nat), .int (b : Nat)]
  | .add a b => .tup [.str "add", .int (a : Nat), .int (b : Nat)]
  | .sub a b => .tup [.str "sub", .int (a : Nat), .int (b : Nat)]
  | .count p r ps => .tup [.str "count", .int (p : Nat), .int (r : Nat), .tup (ps.map fun (i : Nat) => .int (i : Int))]
def Deed.ok (n : Nat) : Deed → Prop
  | .zero | .ones => True
  | .not a | .shift a | .minus a => a < n
  | .and a b | .or a b | .xor a b | .add a b | .sub a b => a < n ∧ b < n
  | .count p r ps => (p = 2 ∨ p = 3 ∨ p = 5) ∧ r < p ∧ 1 ≤ ps.length ∧ ps.length ≤ 4 ∧ ∀ i ∈ ps, i < n
/-- the marks of a count ahead of a place -/
def onesAt (xs : List Int) : Nat → Int
  | 0 => 0
  | k + 1 => onesAt xs k + (xs.map fun x => x / 2 ^ k % 2).sum
def countW (w p r : Nat) (xs : List Int) : Int := bsum (fun k => if onesAt xs k % (p : Int) = (r : Int) then 1 else 0) w
def Deed.val (w : Nat) (ws : List Int) : Deed → Int
  | .zero => 0
  | .ones => 2 ^ w - 1
  | .not a => 2 ^ w - 1 - ws.getD a 0
  | .shift a => 2 * ws.getD a 0 % 2 ^ w
  | .minus a => (-(ws.getD a 0)) % 2 ^ w
  | .and a b => Builtin.bitAnd (ws.getD a 0) (ws.getD b 0)
  | .or a b => Builtin.bitOr (ws.getD a 0) (ws.getD b 0)
  | .xor a b => Builtin.bitXor (ws.getD a 0) (ws.getD b 0)
  | .add a b => (ws.getD a 0 + ws.getD b 0) % 2 ^ w
  | .sub a b => (ws.getD a 0 - ws.getD b 0) % 2 ^ w
  | .count p r ps => countW w p r (ps.map fun i => ws.getD i 0)
def InW (w : Nat) (x : Int) : Prop := 0 ≤ x ∧ x < 2 ^ w
theorem pow_pos2 (w : Nat) : (0 : Int) < 2 ^ w := Int.pow_pos (by decide)
theorem getD_in {w : Nat} {ws : List Int} (h : ∀ x ∈ ws, InW w x) (i : Nat) : InW w (ws.getD i 0) := by
  rw [List.getD_eq_getElem?_getD]
  cases hx : ws[i]? with
  | none => exact ⟨Int.le_refl _, pow_pos2 w⟩
  | some x => exact h x (List.mem_of_getElem? hx)
theorem inW_mod (w : Nat) (x : Int) : InW w (x % 2 ^ w) := ⟨Int.emod_nonneg _ (Int.ne_of_gt (pow_pos2 w)), Int.emod_lt_of_pos _ (pow_pos2 w)⟩
theorem toNat_lt {w : Nat} {x : Int} (h : InW w x) : x.toNat < 2 ^ w := by
  have h1 : ((x.toNat : Nat) : Int) < ((2 ^ w : Nat) : Int) := by
    rw [Int.natCast_pow, Int.toNat_of_nonneg h.1]
    exact h.2
  exact Int.ofNat_lt.mp h1
theorem inW_nat {w n : Nat} (h : n < 2 ^ w) : InW w (n : Int) := ⟨Int.natCast_nonneg _, by
  have := Int.ofNat_lt.mpr h
  rw [Int.natCast_pow] at this
  exact this⟩
theorem and_pp {x y : Int} (hx : 0 ≤ x) (hy : 0 ≤ y) : Builtin.bitAnd x y = ((x.toNat &&& y.toNat : Nat) : Int) := by
  unfold Builtin.bitAnd
  rw [decide_eq_true hx, decide_eq_true hy]
theorem mask_all (x : Int) (k : Nat) : Builtin.bitAnd x (2 ^ k - 1) = x % 2 ^ k := by
  by_cases hx : 0 ≤ x
  · exact Bits.bitAnd_mask k hx
  · have hp := pow_pos2 k
    have hy : (0 : Int) ≤ 2 ^ k - 1 := by omega
    unfold Builtin.bitAnd
    rw [decide_eq_false hx, decide_eq_true hy]
    show (2 ^ k - 1 : Int) - _ = _
    have hn : 0 ≤ Builtin.bitNot x := by
      show (0 : Int) ≤ -x - 1
      omega
    have e1 : (((2 ^ k - 1 : Int).toNat &&& (Builtin.bitNot x).toNat : Nat) : Int) = (-x - 1) % 2 ^ k := by
      have := and_pp hy hn
      rw [← this, PyProof.Rows.bitAnd_comm]
      exact Bits.bitAnd_mask k hn
    rw [e1]
    have h1 := Int.mul_ediv_add_emod x (2 ^ k)
    have h2 := Int.emod_nonneg x (Int.ne_of_gt hp)
    have h3 := Int.emod_lt_of_pos x hp
    have e2 : -x - 1 = (2 ^ k - 1 - x % 2 ^ k) + 2 ^ k * (-(x / 2 ^ k) - 1) := by
      rw [Int.mul_sub, Int.mul_neg, Int.mul_one]
      omega
    rw [e2, Int.add_mul_emod_self_left, Int.emod_eq_of_lt (by omega) (by omega)]
    omega
theorem Deed.val_in {w n : Nat} {ws : List Int} (h : ∀ x ∈ ws, InW w x) : ∀ {d : Deed}, InW w (d.val w ws)
  | .zero => ⟨Int.le_refl _, pow_pos2 w⟩
  | .ones => by
    have := pow_pos2 w
    exact ⟨by show (0 : Int) ≤ 2 ^ w - 1; omega, by show (2 : Int) ^ w - 1 < 2 ^ w; omega⟩
  | .not a => by
    exact ⟨by show (0 : Int) ≤ 2 ^ w - 1 - ws.getD a 0; have := (getD_in h a).2; omega, by show (2 : Int) ^ w - 1 - ws.getD a 0 < 2 ^ w; have := (getD_in h a).1; omega⟩
  | .shift a => inW_mod w _
  | .minus a => inW_mod w _
  | .add a b => inW_mod w _
  | .sub a b => inW_mod w _
  | .and a b => by
    have ha := getD_in h a
    have hb := getD_in h b
    show InW w (Builtin.bitAnd _ _)
    rw [and_pp ha.1 hb.1]
    exact inW_nat (Nat.lt_of_le_of_lt Nat.and_le_left (toNat_lt ha))
  | .or a b => by
    have ha := getD_in h a
    have hb := getD_in h b
    show InW w (Builtin.bitOr _ _)
    rw [Bits.bitOr_pp ha.1 hb.1]
    exact inW_nat (Nat.or_lt_two_pow (toNat_lt ha) (toNat_lt hb))
  | .xor a b => by
    have ha := getD_in h a
    have hb := getD_in h b
    show InW w (Builtin.bitXor _ _)
    rw [Bits.bitXor_pp ha.1 hb.1]
    exact inW_nat (Nat.xor_lt_two_pow (toNat_lt ha) (toNat_lt hb))
  | .count p r ps => by
    refine bsum_bound fun k _ => ?_
    split
    · exact ⟨by decide, by decide⟩
    · exact ⟨by decide, by decide⟩
/-- all words of a row -/
def rowWords (w : Nat) : List Int → List Deed → List Int
  | ws, [] => ws
  | ws, d :: r => rowWords w (ws ++ [d.val w ws]) r
theorem rowWords_in {w : Nat} : ∀ {ds : List Deed} {ws : List Int}, (∀ x ∈ ws, InW w x) → ∀ x ∈ rowWords w ws ds, InW w x
  | [], _, h => h
  | d :: r, ws, h => rowWords_in (ds := r) fun x hx => by
    rcases List.mem_append.mp hx with hx | hx
    · exact h x hx
    · rw [List.mem_singleton.mp hx]; exact Deed.val_in (n := 0) h
theorem rowWords_len {w : Nat} : ∀ {ds : List Deed} {ws : List Int}, (rowWords w ws ds).length = ws.length + ds.length
  | [], _ => rfl
  | d :: r, ws => by
    rw [rowWords, rowWords_len (ds := r)]
    simp
    omega
/-- deeds that may stand behind n words -/
def DeedsOk : Nat → List Deed → Prop
  | _, [] => True
  | n, d :: r => d.ok n ∧ DeedsOk (n + 1) r
theorem rowWords_snoc {w : Nat} {d : Deed} : ∀ {ds : List Deed} {ws : List Int}, rowWords w ws (ds ++ [d]) = rowWords w ws ds ++ [d.val w (rowWords w ws ds)]
  | [], _ => rfl
  | e :: r, ws => by
    rw [List.cons_append, rowWords, rowWords_snoc (ds := r)]
    rfl
theorem DeedsOk.get : ∀ {n : Nat} {ds : List Deed} {i : Nat} {d : Deed}, DeedsOk n ds → ds[i]? = some d → d.ok (n + i)
  | _, [], _, _, _, h => by simp at h
  | n, e :: r, 0, d, h, hd => by
    simp at hd
    subst hd
    exact h.1
  | n, e :: r, i + 1, d, h, hd => by
    have := DeedsOk.get (i := i) h.2 (by simpa using hd)
    rw [show n + (i + 1) = n + 1 + i by omega]
    exact this
theorem take_snoc {α : Type} {ds : List α} {i : Nat} {d : α} (h : ds[i]? = some d) : ds.take (i + 1) = ds.take i ++ [d] := by
  rw [List.take_add_one, h]
  rfl
theorem DeedsOk.snoc {d : Deed} : ∀ {ds : List Deed} {n : Nat}, DeedsOk n ds → d.ok (n + ds.length) → DeedsOk n (ds ++ [d])
  | [], _, _, h2 => ⟨h2, trivial⟩
  | e :: r, n, h, h2 => ⟨h.1, DeedsOk.snoc h.2 (by rw [List.length_cons] at h2; rwa [show n + 1 + r.length = n + (r.length + 1) by omega])⟩
theorem getD_some {ws : List Int} {i : Nat} (h : i < ws.length) : ws[i]? = some (ws.getD i 0) := by
  rw [List.getElem?_eq_getElem h, List.getD_eq_getElem?_getD, List.getElem?_eq_getElem h]
  rfl
end PP

/-! PPLow: the low bits of what a row tells hang on the low bits of its words alone. -/
namespace PP
open PySem L2
/-- the words below 2^low -/
def lowOf (low : Nat) (ws : List Int) : List Int := ws.map fun x => x % 2 ^ low
theorem lowOf_getD {low i : Nat} {ws : List Int} : (lowOf low ws).getD i 0 = ws.getD i 0 % 2 ^ low := by
  unfold lowOf
  rw [List.getD_eq_getElem?_getD, List.getD_eq_getElem?_getD, List.getElem?_map]
  cases ws[i]? with
  | none => simp
  | some x => rfl
theorem pow_dvd {low w : Nat} (h : low ≤ w) : (2 : Int) ^ low ∣ 2 ^ w := by
  obtain ⟨k, rfl⟩ := Nat.le.dest h
  rw [Int.pow_add]
  exact ⟨_, rfl⟩
theorem mod_mod {low w : Nat} (h : low ≤ w) (x : Int) : x % 2 ^ w % 2 ^ low = x % 2 ^ low := Int.emod_emod_of_dvd x (pow_dvd h)
theorem nat_mod {n low : Nat} : ((n : Int) % 2 ^ low) = ((n % 2 ^ low : Nat) : Int) := by
  rw [Int.natCast_emod, Int.natCast_pow]
  rfl
theorem toNat_mod {x : Int} (h : 0 ≤ x) (low : Nat) : (x % 2 ^ low).toNat = x.toNat % 2 ^ low := by
  obtain ⟨n, rfl⟩ := Int.eq_ofNat_of_zero_le h
  rw [nat_mod, Int.toNat_natCast, Int.toNat_natCast]
theorem onesAt_low {low : Nat} {xs : List Int} : ∀ {k : Nat}, k ≤ low → onesAt (xs.map fun x => x % 2 ^ low) k = onesAt xs k
  | 0, _ => rfl
  | k + 1, h => by
    rw [onesAt, onesAt, onesAt_low (k := k) (by omega), List.map_map]
    congr 2
    apply List.map_congr_left
    intro x _
    exact mod_bit (by omega)
theorem bsum_low {f : Nat → Int} {low : Nat} (hf : ∀ k, 0 ≤ f k ∧ f k ≤ 1) : ∀ {w : Nat}, low ≤ w → bsum f w % 2 ^ low = bsum f low
  | 0, h => by
    obtain rfl : low = 0 := by omega
    rfl
  | w + 1, h => by
    by_cases hw : low = w + 1
    · subst hw
      have := bsum_bound (f := f) (n := w + 1) fun k _ => hf k
      exact Int.emod_eq_of_lt this.1 this.2
    · rw [bsum_succ]
      obtain ⟨c, hc⟩ := pow_dvd (show low ≤ w by omega)
      rw [hc, show f w * (2 ^ low * c) = 2 ^ low * (f w * c) by rw [← Int.mul_assoc, Int.mul_comm (f w), Int.mul_assoc], Int.add_mul_emod_self_left]
      exact bsum_low hf (by omega)
theorem Deed.val_low {low w : Nat} (h : low ≤ w) {ws : List Int} (hi : ∀ x ∈ ws, InW w x) : ∀ {d : Deed}, d.val w ws % 2 ^ low = d.val low (lowOf low ws)
  | .zero => Int.zero_emod _
  | .ones => by
    show (2 ^ w - 1 : Int) % 2 ^ low = 2 ^ low - 1
    obtain ⟨c, hc⟩ := pow_dvd h
    have hp := pow_pos2 low
    rw [hc, show (2 : Int) ^ low * c - 1 = (2 ^ low - 1) + 2 ^ low * (c - 1) by rw [Int.mul_sub]; omega, Int.add_mul_emod_self_left]
    exact Int.emod_eq_of_lt (by omega) (by omega)
  | .not a => by
    show (2 ^ w - 1 - ws.getD a 0 : Int) % 2 ^ low = 2 ^ low - 1 - (lowOf low ws).getD a 0
    rw [lowOf_getD]
    obtain ⟨c, hc⟩ := pow_dvd h
    have hp := pow_pos2 low
    have h1 := Int.mul_ediv_add_emod (ws.getD a 0) (2 ^ low)
    have h2 := Int.emod_nonneg (ws.getD a 0) (Int.ne_of_gt hp)
    have h3 := Int.emod_lt_of_pos (ws.getD a 0) hp
    have e : (2 : Int) ^ w - 1 - ws.getD a 0 = (2 ^ low - 1 - ws.getD a 0 % 2 ^ low) + 2 ^ low * (c - 1 - ws.getD a 0 / 2 ^ low) := by
      rw [hc, Int.mul_sub, Int.mul_sub]
      omega
    rw [e, Int.add_mul_emod_self_left]
    exact Int.emod_eq_of_lt (by omega) (by omega)
  | .shift a => by
    show 2 * ws.getD a 0 % 2 ^ w % 2 ^ low = 2 * (lowOf low ws).getD a 0 % 2 ^ low
    rw [mod_mod h, lowOf_getD, Int.mul_emod 2 (ws.getD a 0 % 2 ^ low), Int.emod_emod_of_dvd _ ⟨1, (Int.mul_one _).symm⟩, ← Int.mul_emod]
  | .minus a => by
    show (-(ws.getD a 0)) % 2 ^ w % 2 ^ low = (-((lowOf low ws).getD a 0)) % 2 ^ low
    rw [mod_mod h, lowOf_getD]
    have h1 := Int.mul_ediv_add_emod (ws.getD a 0) (2 ^ low)
    rw [show -(ws.getD a 0 % 2 ^ low) = -(ws.getD a 0) + 2 ^ low * (ws.getD a 0 / 2 ^ low) by omega, Int.add_mul_emod_self_left]
  | .add a b => by
    show (ws.getD a 0 + ws.getD b 0) % 2 ^ w % 2 ^ low = ((lowOf low ws).getD a 0 + (lowOf low ws).getD b 0) % 2 ^ low
    rw [mod_mod h, lowOf_getD, lowOf_getD, Int.emod_add_emod, Int.add_emod_emod]
  | .sub a b => by
    show (ws.getD a 0 - ws.getD b 0) % 2 ^ w % 2 ^ low = ((lowOf low ws).getD a 0 - (lowOf low ws).getD b 0) % 2 ^ low
    rw [mod_mod h, lowOf_getD, lowOf_getD, Int.emod_sub_emod, Int.sub_emod_emod]
  | .and a b => by
    show Builtin.bitAnd (ws.getD a 0) (ws.getD b 0) % 2 ^ low = Builtin.bitAnd ((lowOf low ws).getD a 0) ((lowOf low ws).getD b 0)
    have ha := getD_in hi a
    have hb := getD_in hi b
    have hp := Int.ne_of_gt (pow_pos2 low)
    rw [lowOf_getD, lowOf_getD, and_pp ha.1 hb.1, and_pp (Int.emod_nonneg _ hp) (Int.emod_nonneg _ hp), toNat_mod ha.1, toNat_mod hb.1, nat_mod, Nat.and_mod_two_pow]
  | .or a b => by
    show Builtin.bitOr (ws.getD a 0) (ws.getD b 0) % 2 ^ low = Builtin.bitOr ((lowOf low ws).getD a 0) ((lowOf low ws).getD b 0)
    have ha := getD_in hi a
    have hb := getD_in hi b
    have hp := Int.ne_of_gt (pow_pos2 low)
    rw [lowOf_getD, lowOf_getD, Bits.bitOr_pp ha.1 hb.1, Bits.bitOr_pp (Int.emod_nonneg _ hp) (Int.emod_nonneg _ hp), toNat_mod ha.1, toNat_mod hb.1, nat_mod, Nat.or_mod_two_pow]
  | .xor a b => by
    show Builtin.bitXor (ws.getD a 0) (ws.getD b 0) % 2 ^ low = Builtin.bitXor ((lowOf low ws).getD a 0) ((lowOf low ws).getD b 0)
    have ha := getD_in hi a
    have hb := getD_in hi b
    have hp := Int.ne_of_gt (pow_pos2 low)
    rw [lowOf_getD, lowOf_getD, Bits.bitXor_pp ha.1 hb.1, Bits.bitXor_pp (Int.emod_nonneg _ hp) (Int.emod_nonneg _ hp), toNat_mod ha.1, toNat_mod hb.1, nat_mod, Nat.xor_mod_two_pow]
  | .count p r ps => by
    show countW w p r (ps.map fun i => ws.getD i 0) % 2 ^ low = countW low p r (ps.map fun i => (lowOf low ws).getD i 0)
    have e : (ps.map fun i => (lowOf low ws).getD i 0) = (ps.map fun i => ws.getD i 0).map fun x => x % 2 ^ low := by
      rw [List.map_map]
      apply List.map_congr_left
      intro i _
      exact lowOf_getD
    rw [e]
    unfold countW
    rw [bsum_low (fun k => by split <;> exact ⟨by decide, by decide⟩) h]
    exact bsum_congr fun k hk => by rw [onesAt_low (by omega)]
theorem rowWords_low {low w : Nat} (h : low ≤ w) : ∀ {ds : List Deed} {ws : List Int}, (∀ x ∈ ws, InW w x) → lowOf low (rowWords w ws ds) = rowWords low (lowOf low ws) ds
  | [], _, _ => rfl
  | d :: r, ws, hi => by
    rw [rowWords, rowWords, rowWords_low h (ds := r) fun x hx => by
      rcases List.mem_append.mp hx with hx | hx
      · exact hi x hx
      · rw [List.mem_singleton.mp hx]; exact Deed.val_in (n := 0) hi]
    congr 1
    unfold lowOf
    rw [List.map_append]
    simp only [List.map_cons, List.map_nil]
    rw [Deed.val_low h hi]
    rfl
end PP

/-! PPEq: == and != of nested numbers, texts, tuples and lists: equal exactly if they are the same. -/
namespace PP
open PySem L2
mutual
/-- numbers, texts, and tuples and lists of these -/
def PV.cn : PV → Bool
  | .int _ => true
  | .str _ => true
  | .tup xs => PV.cns xs
  | .lst xs => PV.cns xs
  | _ => false
def PV.cns : List PV → Bool
  | [] => true
  | x :: r => PV.cn x && PV.cns r
end
theorem cns_of : ∀ {xs : List PV}, (∀ x ∈ xs, PV.cn x = true) → PV.cns xs = true
  | [], _ => by unfold PV.cns; rfl
  | x :: r, h => by
    unfold PV.cns
    rw [h x List.mem_cons_self, cns_of fun y hy => h y (List.mem_cons_of_mem _ hy)]
    rfl
mutual
theorem eqv_cn : ∀ (x y : PV) (p q : PyData), PV.cn x = true → PV.cn y = true → PV.py x = some p → PV.py y = some q → (PyData.eqv p q = true ↔ x = y)
  | .int i, y, p, q, _, cy, hp, hq => by
    unfold PV.py at hp
    cases hp
    cases y with
    | int j => unfold PV.py at hq; cases hq; unfold PyData.eqv; rw [beq_iff_eq]; exact ⟨fun h => by rw [h], fun h => by injection h⟩
    | str z => unfold PV.py at hq; cases hq; unfold PyData.eqv; exact ⟨(fun h => nomatch h), (fun h => nomatch h)⟩
    | tup ys =>
      unfold PV.py at hq
      obtain ⟨q1, _, rfl⟩ := Option.map_eq_some_iff.mp hq
      unfold PyData.eqv; exact ⟨(fun h => nomatch h), (fun h => nomatch h)⟩
    | lst ys =>
      unfold PV.py at hq
      obtain ⟨q1, _, rfl⟩ := Option.map_eq_some_iff.mp hq
      unfold PyData.eqv; exact ⟨(fun h => nomatch h), (fun h => nomatch h)⟩
    | _ => unfold PV.cn at cy; cases cy
  | .str i, y, p, q, _, cy, hp, hq => by
    unfold PV.py at hp
    cases hp
    cases y with
    | int j => unfold PV.py at hq; cases hq; unfold PyData.eqv; exact ⟨(fun h => nomatch h), (fun h => nomatch h)⟩
    | str z => unfold PV.py at hq; cases hq; unfold PyData.eqv; rw [beq_iff_eq]; exact ⟨fun h => by rw [h], fun h => by injection h⟩
    | tup ys =>
      unfold PV.py at hq
      obtain ⟨q1, _, rfl⟩ := Option.map_eq_some_iff.mp hq
      unfold PyData.eqv; exact ⟨(fun h => nomatch h), (fun h => nomatch h)⟩
    | lst ys =>
      unfold PV.py at hq
      obtain ⟨q1, _, rfl⟩ := Option.map_eq_some_iff.mp hq
      unfold PyData.eqv; exact ⟨(fun h => nomatch h), (fun h => nomatch h)⟩
    | _ => unfold PV.cn at cy; cases cy
  | .tup xs, y, p, q, cx, cy, hp, hq => by
    unfold PV.py at hp
    obtain ⟨p1, h1, rfl⟩ := Option.map_eq_some_iff.mp hp
    unfold PV.cn at cx
    cases y with
    | int j => unfold PV.py at hq; cases hq; unfold PyData.eqv; exact ⟨(fun h => nomatch h), (fun h => nomatch h)⟩
    | str z => unfold PV.py at hq; cases hq; unfold PyData.eqv; exact ⟨(fun h => nomatch h), (fun h => nomatch h)⟩
    | tup ys =>
      unfold PV.py at hq
      obtain ⟨q1, h2, rfl⟩ := Option.map_eq_some_iff.mp hq
      unfold PV.cn at cy
      unfold PyData.eqv
      rw [eqvs_cn xs ys p1 q1 cx cy h1 h2]
      exact ⟨fun h => by rw [h], fun h => by injection h⟩
    | lst ys =>
      unfold PV.py at hq
      obtain ⟨q1, _, rfl⟩ := Option.map_eq_some_iff.mp hq
      unfold PyData.eqv; exact ⟨(fun h => nomatch h), (fun h => nomatch h)⟩
    | _ => unfold PV.cn at cy; cases cy
  | .lst xs, y, p, q, cx, cy, hp, hq => by
    unfold PV.py at hp
    obtain ⟨p1, h1, rfl⟩ := Option.map_eq_some_iff.mp hp
    unfold PV.cn at cx
    cases y with
    | int j => unfold PV.py at hq; cases hq; unfold PyData.eqv; exact ⟨(fun h => nomatch h), (fun h => nomatch h)⟩
    | str z => unfold PV.py at hq; cases hq; unfold PyData.eqv; exact ⟨(fun h => nomatch h), (fun h => nomatch h)⟩
    | lst ys =>
      unfold PV.py at hq
      obtain ⟨q1, h2, rfl⟩ := Option.map_eq_some_iff.mp hq
      unfold PV.cn at cy
      unfold PyData.eqv
      rw [eqvs_cn xs ys p1 q1 cx cy h1 h2]
      exact ⟨fun h => by rw [h], fun h => by injection h⟩
    | tup ys =>
      unfold PV.py at hq
      obtain ⟨q1, _, rfl⟩ := Option.map_eq_some_iff.mp hq
      unfold PyData.eqv; exact ⟨(fun h => nomatch h), (fun h => nomatch h)⟩
    | _ => unfold PV.cn at cy; cases cy
  | .non, _, _, _, cx, _, _, _ => by unfold PV.cn at cx; cases cx
  | .bl _, _, _, _, cx, _, _, _ => by unfold PV.cn at cx; cases cx
  | .scr _, _, _, _, cx, _, _, _ => by unfold PV.cn at cx; cases cx
  | .obj _ _, _, _, _, cx, _, _, _ => by unfold PV.cn at cx; cases cx
  | .dct _, _, _, _, cx, _, _, _ => by unfold PV.cn at cx; cases cx
  | .pset _, _, _, _, cx, _, _, _ => by unfold PV.cn at cx; cases cx
theorem eqvs_cn : ∀ (xs ys : List PV) (p q : List PyData), PV.cns xs = true → PV.cns ys = true → PV.pys xs = some p → PV.pys ys = some q → (PyData.eqvAll p q = true ↔ xs = ys)
  | [], [], p, q, _, _, hp, hq => by
    unfold PV.pys at hp hq
    cases hp; cases hq
    unfold PyData.eqvAll
    exact ⟨fun _ => rfl, fun _ => rfl⟩
  | [], y :: ys, p, q, _, _, hp, hq => by
    obtain ⟨a, b, h1, h2, rfl⟩ := pys_cons hq
    unfold PV.pys at hp
    cases hp
    unfold PyData.eqvAll
    exact ⟨(fun h => nomatch h), (fun h => nomatch h)⟩
  | x :: xs, [], p, q, _, _, hp, hq => by
    obtain ⟨a, b, h1, h2, rfl⟩ := pys_cons hp
    unfold PV.pys at hq
    cases hq
    unfold PyData.eqvAll
    exact ⟨(fun h => nomatch h), (fun h => nomatch h)⟩
  | x :: xs, y :: ys, p, q, cx, cy, hp, hq => by
    obtain ⟨a, b, h1, h2, rfl⟩ := pys_cons hp
    obtain ⟨c, d, h3, h4, rfl⟩ := pys_cons hq
    unfold PV.cns at cx cy
    rw [Bool.and_eq_true] at cx cy
    unfold PyData.eqvAll
    rw [Bool.and_eq_true, eqv_cn x y a c cx.1 cy.1 h1 h3, eqvs_cn xs ys b d cx.2 cy.2 h2 h4]
    exact ⟨fun ⟨h, k⟩ => by rw [h, k], fun h => by injection h with h k; exact ⟨h, k⟩⟩
end
/-- plain data that may be laid -/
structure Cd (n : Nat) (x : PV) : Prop where
  lay : Lay n x
  cn : PV.cn x = true
theorem Cd.mono {n m : Nat} {x : PV} (h : Cd n x) (hn : n ≤ m) : Cd m x := ⟨h.lay.mono hn, h.cn⟩
theorem cd_int (i : Int) : Cd 0 (.int i) := ⟨lay_int i, by unfold PV.cn; rfl⟩
theorem cd_str {x : Str} (h : PyData.strOk x = true) : Cd 0 (.str x) := ⟨lay_str h, by unfold PV.cn; rfl⟩
theorem Cd.tup {n : Nat} {xs : List PV} (h : ∀ x ∈ xs, Cd n x) : Cd (n + 1) (.tup xs) := ⟨Lay.tup fun x hx => (h x hx).lay, by unfold PV.cn; exact cns_of fun x hx => (h x hx).cn⟩
theorem Cd.lst {n : Nat} {xs : List PV} (h : ∀ x ∈ xs, Cd n x) : Cd (n + 1) (.lst xs) := ⟨Lay.lst fun x hx => (h x hx).lay, by unfold PV.cn; exact cns_of fun x hx => (h x hx).cn⟩
theorem Cd.ne {n : Nat} {x y : PV} (hx : Cd n x) (hy : Cd n y) (hn : n ≤ 64) (h : x ≠ y) : oEq x y = .ok (.bl false) ∧ oNe x y = .ok (.bl true) := by
  have he : eqP x y = some false := by
    obtain ⟨p, h1, h2, h3⟩ := hx.lay
    obtain ⟨q, h4, h5, h6⟩ := hy.lay
    have hd : deepP x y = some false := by
      unfold deepP
      rw [h1, h4]
      show (if SeqAt.shaped p && SeqAt.shaped q then some (PyData.eqv p q) else none) = _
      have s1 : SeqAt.shaped p = true := by
        unfold SeqAt.shaped
        rw [h2, decide_eq_true (Nat.le_trans h3 hn)]; rfl
      have s2 : SeqAt.shaped q = true := by
        unfold SeqAt.shaped
        rw [h5, decide_eq_true (Nat.le_trans h6 hn)]; rfl
      have e : PyData.eqv p q = false := Bool.eq_false_iff.mpr fun z => h ((eqv_cn x y p q hx.cn hy.cn h1 h4).mp z)
      rw [s1, s2, e]
      rfl
    unfold eqP
    cases hs : scalP x y with
    | none => exact hd
    | some b =>
      cases x <;> cases y <;> simp only [scalP] at hs <;> first
        | (cases hs; done)
        | exact absurd rfl h
        | (cases hs; simp only [ne_eq, PV.int.injEq, PV.str.injEq, PV.bl.injEq, not_true_eq_false] at h; first | (show some (decide _) = some false; rw [decide_eq_false h]) | rfl)
        | (cases hs; rfl)
  unfold oEq oNe
  rw [he]
  exact ⟨rfl, rfl⟩
theorem Cd.eq {n : Nat} {x : PV} (hx : Cd n x) (hn : n ≤ 64) : oEq x x = .ok (.bl true) ∧ oNe x x = .ok (.bl false) := ⟨hx.lay.eq hn, hx.lay.ne hn⟩
open Classical in
theorem Cd.dec {n : Nat} {x y : PV} (hx : Cd n x) (hy : Cd n y) (hn : n ≤ 64) : oEq x y = .ok (.bl (decide (x = y))) ∧ oNe x y = .ok (.bl (!decide (x = y))) := by
  by_cases h : x = y
  · subst h
    rw [decide_eq_true rfl]
    exact hx.eq hn
  · rw [decide_eq_false h]
    exact hx.ne hy hn h
end PP

/-! PPWp: denotations walked by simp only [EV, ..] -/
namespace PP
open PySem L2
/-- what is wished of an end -/
structure Po where
  nx : PEnv → Prop
  bk : PEnv → Prop
  ct : PEnv → Prop
  rt : PV → Prop
  ex : Nat → List PV → PEnv → Prop
def Out.sat (P : Po) : Out → Prop
  | .nx ρ => P.nx ρ
  | .bk ρ => P.bk ρ
  | .ct ρ => P.ct ρ
  | .rt d => P.rt d
  | .ro d => P.rt d
  | .ex c fs ρ => P.ex c fs ρ
  | .bad => False
def runs : List DS → DS
  | [] => sNx
  | s :: ss => sSeq s (runs ss)
def Run (P : Po) (ss : List DS) (ρ : PEnv) : Prop := (runs ss ρ).sat P
/-- a def; an __init__; a turn of a loop -/
def Po.fn (K : PV → Prop) (E : Nat → List PV → Prop) : Po := ⟨fun _ => K .non, fun _ => False, fun _ => False, K, fun c fs _ => E c fs⟩
def Po.ini (K : List PV → Prop) (E : Nat → List PV → Prop) : Po := ⟨fun ρ => ∃ c ds r, ρ = .sf c ds :: r ∧ K ds, fun _ => False, fun _ => False, fun _ => False, fun c fs _ => E c fs⟩
def Po.turn (P : Po) (ss : List DS) (I : PEnv → Prop) : Po := ⟨I, Run P ss, I, P.rt, P.ex⟩
def Po.aft (P : Po) (ss : List DS) (I : PEnv → Prop) : Po := ⟨I, P.bk, P.ct, P.rt, P.ex⟩

/-! ### stuck forms -/
def satR {α : Type} (P : Po) (ρ : PEnv) (x : R α) (k : α → Prop) : Prop := match x with
  | .ok a => k a
  | .ex c fs => P.ex c fs ρ
  | .bad => False
def RunA (P : Po) (i : Nat) (ss : List DS) (ρ : PEnv) (x : R PV) : Prop := satR P ρ x fun d => Run P ss (ρ.set i (.fr d))
def RunO (P : Po) (i : Nat) (ss : List DS) (ρ : PEnv) (x : R PV) : Prop := satR P ρ x fun d => Run P ss (ρ.set i (.ow d))
def RunT (P : Po) (ρ : PEnv) (x : R PV) : Prop := satR P ρ x P.rt
def RunD (P : Po) (ss : List DS) (ρ : PEnv) (x : R PV) : Prop := satR P ρ x fun _ => Run P ss ρ
def RunI (P : Po) (s t : DS) (ss : List DS) (ρ : PEnv) (x : R Bool) : Prop := satR P ρ x fun b => Run P ((if b then s else t) :: ss) ρ
def RunGG (P : Po) (ss : List DS) (x : R PEnv) : Prop := match x with
  | .ok ρ => Run P ss ρ
  | _ => False
def RunG (P : Po) (g : DG) (ss : List DS) (ρ : PEnv) (x : R PV) : Prop := satR P ρ x fun d => RunGG P ss (g d ρ)
def RunPar (P : Po) (i j : Nat) (ss : List DS) (ρ : PEnv) (x : R (List PV)) : Prop := satR P ρ x fun ds => match ds with
  | [x, y] => Run P ss ((ρ.set i (.fr x)).set j (.fr y))
  | _ => False
def RunApp (P : Po) (i : Nat) (ss : List DS) (ρ : PEnv) (o : Option Slot) (x : R PV) : Prop := match o with
  | some (.ow (.lst ds)) => satR P ρ x fun d => ds.length < 16777216 ∧ Run P ss (ρ.set i (.ow (.lst (ds ++ [d]))))
  | _ => False
def RunExt (P : Po) (i : Nat) (ss : List DS) (ρ : PEnv) (o : Option Slot) (x : R PV) : Prop := match o with
  | some (.ow (.lst ds)) => satR P ρ x fun d => match d with
    | .lst es => ds.length + es.length ≤ 16777216 ∧ Run P ss (ρ.set i (.ow (.lst (ds ++ es))))
    | _ => False
  | _ => False
def RunSet (P : Po) (i : Nat) (ss : List DS) (ρ : PEnv) (o : Option Slot) (j x : R PV) : Prop := satR P ρ x fun d => match o with
  | some (.ow (.lst ds)) => satR P ρ j fun j => match j with
    | .int z => match ixN ds.length z with
      | some n => Run P ss (ρ.set i (.ow (.lst (ds.set n d))))
      | none => False
    | _ => False
  | _ => False
def Loop (P : Po) (g : DG) (s : DS) (ds : List PV) (ss : List DS) (ρ : PEnv) : Prop := Run P (forL g s ds :: ss) ρ
def RunF (P : Po) (g : DG) (s : DS) (ss : List DS) (ρ : PEnv) (x : R (List PV)) : Prop := satR P ρ x fun ds => Loop P g s ds ss ρ
def RunFld (P : Po) (c n : Nat) (ss : List DS) (ρ : PEnv) (x : R PV) : Prop := match ρ with
  | .sf c' ds :: r => c' = c ∧ ds.length = n ∧ satR P ρ x fun d => r.all (fun s => !isSf s) = true ∧ Run P ss (.sf c' (ds ++ [d]) :: r)
  | _ => False
/-! ### expressions -/
def varR : Option Slot → R PV
  | some (.fr d) => .ok d
  | _ => .bad
def bvarR : Option Slot → R PV
  | some (.fr d) => .ok d
  | some (.ow d) => .ok d
  | _ => .bad
def owR : Option Slot → R PV
  | some (.ow d) => .ok d
  | _ => .bad
def frzS (i : Nat) (ρ : PEnv) : Option Slot → PEnv
  | some (.ow d) => ρ.set i (.fr d)
  | _ => ρ
def binR (g : PV → PV → R PV) (a b : R PV) : R PV := a.bind fun x => b.bind fun y => g x y
def consR (a : R PV) (b : R (List PV)) : R (List PV) := a.bind fun x => b.bind fun r => .ok (x :: r)
def capT (b : R (List PV)) : R PV := b.bind fun ds => if ds.length ≤ cap then .ok (.tup ds) else .bad
def capL (b : R (List PV)) : R PV := b.bind fun ds => if ds.length ≤ cap then .ok (.lst ds) else .bad
def andR (a b : R Bool) : R Bool := a.bind fun x => if x then b else .ok false
def orR (a b : R Bool) : R Bool := a.bind fun x => if x then .ok true else b
def notR (a : R Bool) : R Bool := a.bind fun x => .ok (!x)
def andV (a b : R PV) : R PV := a.bind fun x => match x with
  | .bl true => b
  | .bl false => .ok (.bl false)
  | _ => .bad
def orV (a b : R PV) : R PV := a.bind fun x => match x with
  | .bl true => .ok (.bl true)
  | .bl false => b
  | _ => .bad
def ifR (a : R Bool) (b c : R PV) : R PV := a.bind fun x => if x then b else c
def chR (g' : PV → PV → R PV) (y : R PV) (z c : R PV) : R PV := z.bind fun z => match z with
  | .bl true => y.bind fun y => c.bind fun u => g' y u
  | .bl false => .ok (.bl false)
  | _ => .bad
def ptR (a : R PV) : R (Option Int) := a.bind fun x => match x with
  | .int i => .ok (some i)
  | _ => .bad
def slR (gs : PV → Option Int → Option Int → R PV) (a : R PV) (b c : R (Option Int)) : R PV := a.bind fun x => b.bind fun l => c.bind fun u => gs x l u
def seqR (a : R PV) : R (List PV) := a.bind fun x => match x.seq with
  | some ds => .ok ds
  | none => .bad
def enumR (a : R PV) : R (List PV) := a.bind fun x => match x.seq with
  | some ds => .ok (enumP 0 ds)
  | none => .bad
def rng1R (a : R PV) : R (List PV) := a.bind fun x => match x with
  | .int j => if rgOk j then .ok (rngP 0 j.toNat) else .bad
  | _ => .bad
def rng2R (a b : R PV) : R (List PV) := a.bind fun x => b.bind fun y => match x, y with
  | .int i, .int j => if rgOk i ∧ rgOk j then .ok (rngP i (j - i).toNat) else .bad
  | _, _ => .bad
def zipR (a b : R PV) : R (List PV) := a.bind fun x => b.bind fun y => zipPV x y
def methR (Γ : Tab) (t : List (Nat × Nat)) (a : R PV) (l : R (List PV)) : R PV := a.bind fun x => match x with
  | .obj c fs => match t.lookup c with
    | some i => l.bind fun ds => Γ i (.obj c fs :: ds)
    | none => .bad
  | _ => .bad
def methLR (Γ : Tab) (t : List (Nat × Nat)) (a : R PV) (l : R (List PV)) : R PV := a.bind fun x => match x with
  | .obj c fs => match t.lookup c with
    | some i => l.bind fun ds => lf (exb (Γ i (.obj c fs :: ds)))
    | none => .bad
  | _ => .bad
def callL (Γ : Tab) (i : Nat) (l : R (List PV)) : R PV := l.bind fun ds => lf (exb (Γ i ds))
def callK (Γ : Tab) (i : Nat) (ix : List Nat) (l k : R (List PV)) : R PV := l.bind fun ds => k.bind fun es => Γ i (pick ix (ds ++ es))
def ownA (ne : Bool) (y : PV) : R PV → R PV
  | .ok (.bl b) => if noLst y && y.ty.isSome then .ok (.bl (xor ne b)) else .bad
  | _ => .bad
def ownN : R PV → R PV
  | .ok (.int n) => if 0 ≤ n ∧ n < 2 ^ 63 then .ok (.int n) else .bad
  | _ => .bad
theorem ownN_lt {n : Nat} (h : n ≤ 1000000000) : ((n : Nat) : Int) < 2 ^ 63 := by
  have : ((n : Nat) : Int) ≤ 1000000000 := by omega
  exact Int.lt_of_le_of_lt this (by decide)
theorem ownN_int {i : Int} (h : 0 ≤ i ∧ i < 2 ^ 63) : ownN (.ok (.int i)) = .ok (.int i) := by
  unfold ownN
  exact if_pos h
theorem ownN_nat {n : Nat} (h : n ≤ 1000000000) : ownN (.ok (.int (n : Nat))) = .ok (.int (n : Nat)) := ownN_int ⟨Int.natCast_nonneg n, ownN_lt h⟩
def methK (Γ : Tab) (t : List (Nat × List Nat × Nat)) (a : R PV) (l k : R (List PV)) : R PV := a.bind fun x => match x with
  | .obj c fs => match t.lookup c with
    | some (ix, i) => l.bind fun ds => k.bind fun es => Γ i (pick ix (.obj c fs :: (ds ++ es)))
    | none => .bad
  | _ => .bad
def pickC (x : Option PV) (r : List PV) : List PV := match x with
  | some y => y :: r
  | none => r
def lcR (g : DG) (t : DT) (e : DE) (ρ : PEnv) (a : R (List PV)) : R PV := a.bind fun ds => if ds.length ≤ cap then (match lcL g t e ρ ds with
  | .ok xs => .ok (.lst xs)
  | _ => .bad) else .bad
def gsR (gs : List PV → PEnv → R PEnv) (r : List PV) (x : R PEnv) : R PEnv := x.bind fun ρ1 => gs r ρ1
def selfR (n : Nat) (ds : List PV) : R PV := .ofOpt ds[n]?
/-- an item of a comprehension -/
def oneE (x : R PV) : R (Option PV) := x.bind fun d => .ok (some d)
def oneT (b : R Bool) (e : DE) (ρ : PEnv) : R (Option PV) := b.bind fun b => if b then oneE (e ρ) else .ok none
def oneR (x : R PEnv) (t : DT) (e : DE) : R (Option PV) := x.bind fun ρ => oneT (t ρ) e ρ

theorem Out.sat_mono {P Q : Po} {o : Out} (h : o.sat P) (h1 : ∀ ρ, P.nx ρ → Q.nx ρ) (h2 : ∀ ρ, P.bk ρ → Q.bk ρ) (h3 : ∀ ρ, P.ct ρ → Q.ct ρ) (h4 : ∀ d, P.rt d → Q.rt d) (h5 : ∀ c fs ρ, P.ex c fs ρ → Q.ex c fs ρ) : o.sat Q := by
  cases o with
  | nx ρ => exact h1 _ h
  | bk ρ => exact h2 _ h
  | ct ρ => exact h3 _ h
  | rt d => exact h4 _ h
  | ro d => exact h4 _ h
  | ex c fs ρ => exact h5 _ _ _ h
  | bad => exact h.elim
section
variable {P : Po} {s t : DS} {ss : List DS} {ρ ρ1 : PEnv}
theorem sat_exo {α : Type} {x : R α} {f : α → Out} {k : α → Prop} (h : ∀ a, (match f a with
    | .nx ρ1 => runs ss ρ1
    | o => o).sat P = k a) : (match exo ρ x f with
    | .nx ρ1 => runs ss ρ1
    | o => o).sat P = satR P ρ x k := by
  cases x with
  | ok a => exact h a
  | ex c fs => rfl
  | bad => rfl
theorem run_nil : Run P [] ρ = P.nx ρ := rfl
theorem run_nx : Run P (sNx :: ss) ρ = Run P ss ρ := rfl
theorem run_sq : Run P (sSeq s t :: ss) ρ = Run P (s :: t :: ss) ρ := by
  unfold Run
  show (match (match s ρ with
    | .nx ρ1 => t ρ1
    | o => o) with
    | .nx ρ1 => runs ss ρ1
    | o => o).sat P = (match s ρ with
    | .nx ρ1 => (match t ρ1 with
      | .nx ρ1 => runs ss ρ1
      | o => o)
    | o => o).sat P
  cases s ρ <;> rfl
theorem run_frz {is : List Nat} : Run P (sFrz is s :: ss) ρ = Run P (s :: ss) (frz is ρ) := rfl
theorem run_thF {i : Nat} : Run P (sThF i s :: ss) ρ = Run P (s :: sFrz [i] sNx :: ss) ρ := by
  unfold Run
  show (match (match s ρ with
    | .nx ρ1 => Out.nx (frz [i] ρ1)
    | o => o) with
    | .nx ρ1 => runs ss ρ1
    | o => o).sat P = (match s ρ with
    | .nx ρ1 => runs ss (frz [i] ρ1)
    | o => o).sat P
  cases s ρ <;> rfl
theorem run_asg {i : Nat} {f : DE} : Run P (sAsg i f :: ss) ρ = RunA P i ss ρ (f ρ) := sat_exo fun _ => rfl
theorem run_asgO {i : Nat} {f : DE} : Run P (sAsgO i f :: ss) ρ = RunO P i ss ρ (f ρ) := sat_exo fun _ => rfl
theorem run_ret {f : DE} : Run P (sRet f :: ss) ρ = RunT P ρ (f ρ) := sat_exo fun _ => rfl
theorem run_retX {f : DE} : Run P (sRetX f :: ss) ρ = RunT P ρ (f ρ) := sat_exo fun _ => rfl
theorem run_retO {i : Nat} : Run P (sRetO i :: ss) ρ = RunT P ρ (owR ρ[i]?) := by
  unfold Run
  show (match (match ρ[i]? with
    | some (.ow d) => Out.ro d
    | _ => .bad) with
    | .nx ρ1 => runs ss ρ1
    | o => o).sat P = _
  cases ρ[i]? with
  | none => rfl
  | some sl => cases sl <;> rfl
theorem run_retN : Run P (sRetN :: ss) ρ = P.rt .non := rfl
theorem run_drop {f : DE} : Run P (sDrop f :: ss) ρ = RunD P ss ρ (f ρ) := sat_exo fun _ => rfl
theorem run_brk : Run P (sBrk :: ss) ρ = P.bk ρ := rfl
theorem run_cnt : Run P (sCnt :: ss) ρ = P.ct ρ := rfl
theorem run_bad : Run P (sBad :: ss) ρ = False := rfl
theorem run_if {c : DT} : Run P (sIf c s t :: ss) ρ = RunI P s t ss ρ (c ρ) := sat_exo fun b => by cases b <;> rfl
theorem run_asgG {f : DE} {g : DG} : Run P (sAsgG f g :: ss) ρ = RunG P g ss ρ (f ρ) := sat_exo fun d => by
  show _ = RunGG P ss (g d ρ)
  cases g d ρ <;> rfl
theorem run_par {i j : Nat} {fl : DA} : Run P (sPar i j fl :: ss) ρ = RunPar P i j ss ρ (fl ρ) := sat_exo fun ds => by
  match ds with
  | [] => rfl
  | [_] => rfl
  | [_, _] => rfl
  | _ :: _ :: _ :: _ => rfl
theorem run_aug {i : Nat} {g : PV → PV → R PV} {f : DE} : Run P (sAug i g f :: ss) ρ = RunA P i ss ρ (binR g (varR ρ[i]?) (f ρ)) := by
  unfold Run
  show (match (match ρ[i]? with
    | some (.fr x) => exo ρ (f ρ) fun y => exo ρ (g x y) fun d => .nx (ρ.set i (.fr d))
    | _ => .bad) with
    | .nx ρ1 => runs ss ρ1
    | o => o).sat P = _
  cases ρ[i]? with
  | none => rfl
  | some sl =>
    cases sl with
    | fr x =>
      show (match exo ρ (f ρ) fun y => exo ρ (g x y) fun d => Out.nx (ρ.set i (.fr d)) with
        | .nx ρ1 => runs ss ρ1
        | o => o).sat P = satR P ρ ((f ρ).bind fun y => g x y) _
      cases f ρ with
      | ok y =>
        show (match exo ρ (g x y) fun d => Out.nx (ρ.set i (.fr d)) with
          | .nx ρ1 => runs ss ρ1
          | o => o).sat P = satR P ρ (g x y) _
        exact sat_exo fun _ => rfl
      | ex c fs => rfl
      | bad => rfl
    | _ => rfl
theorem run_app {i : Nat} {f : DE} : Run P (sApp i f :: ss) ρ = RunApp P i ss ρ ρ[i]? (f ρ) := by
  unfold Run
  show (match (match ρ[i]? with
    | some (.ow (.lst ds)) => exo ρ (f ρ) fun d => if ds.length < cap then .nx (ρ.set i (.ow (.lst (ds ++ [d])))) else .bad
    | _ => .bad) with
    | .nx ρ1 => runs ss ρ1
    | o => o).sat P = _
  cases ρ[i]? with
  | none => rfl
  | some sl =>
    cases sl with
    | ow x =>
      cases x with
      | lst ds =>
        refine sat_exo fun d => ?_
        by_cases h : ds.length < cap
        · rw [if_pos h]
          exact propext ⟨fun k => ⟨h, k⟩, fun k => k.2⟩
        · rw [if_neg h]
          exact propext ⟨fun k => k.elim, fun k => h k.1⟩
      | _ => rfl
    | _ => rfl
theorem run_ext {i : Nat} {f : DE} : Run P (sExt i f :: ss) ρ = RunExt P i ss ρ ρ[i]? (f ρ) := by
  unfold Run
  show (match (match ρ[i]? with
    | some (.ow (.lst ds)) => exo ρ (f ρ) fun d => match d with
      | .lst es => if ds.length + es.length ≤ cap then .nx (ρ.set i (.ow (.lst (ds ++ es)))) else .bad
      | _ => .bad
    | _ => .bad) with
    | .nx ρ1 => runs ss ρ1
    | o => o).sat P = _
  cases ρ[i]? with
  | none => rfl
  | some sl =>
    cases sl with
    | ow x =>
      cases x with
      | lst ds =>
        refine sat_exo fun d => ?_
        cases d with
        | lst es =>
          show (match (if ds.length + es.length ≤ cap then Out.nx (ρ.set i (.ow (.lst (ds ++ es)))) else .bad) with
            | .nx ρ1 => runs ss ρ1
            | o => o).sat P = (ds.length + es.length ≤ cap ∧ Run P ss (ρ.set i (.ow (.lst (ds ++ es)))))
          by_cases h : ds.length + es.length ≤ cap
          · rw [if_pos h]
            exact propext ⟨fun k => ⟨h, k⟩, fun k => k.2⟩
          · rw [if_neg h]
            exact propext ⟨fun k => k.elim, fun k => h k.1⟩
        | _ => rfl
      | _ => rfl
    | _ => rfl
theorem run_setI {i : Nat} {fi f : DE} : Run P (sSetI i fi f :: ss) ρ = RunSet P i ss ρ ρ[i]? (fi ρ) (f ρ) := sat_exo fun d => by
  cases ρ[i]? with
  | none => rfl
  | some sl =>
    cases sl with
    | ow x =>
      cases x with
      | lst ds =>
        refine sat_exo fun j => ?_
        cases j with
        | int z =>
          show (match (match ixN ds.length z with
            | some n => Out.nx (ρ.set i (.ow (.lst (ds.set n d))))
            | none => .bad) with
            | .nx ρ1 => runs ss ρ1
            | o => o).sat P = (match ixN ds.length z with
            | some n => Run P ss (ρ.set i (.ow (.lst (ds.set n d))))
            | none => False)
          cases ixN ds.length z <;> rfl
        | _ => rfl
      | _ => rfl
    | _ => rfl
theorem run_for {it : DA} {g : DG} : Run P (sFor it g s :: ss) ρ = RunF P g s ss ρ (it ρ) := sat_exo fun _ => rfl
theorem run_fld {c n : Nat} {f : DE} : Run P (sFld0 c n f :: ss) ρ = RunFld P c n ss ρ (f ρ) := by
  cases ρ with
  | nil => rfl
  | cons sl r =>
    cases sl with
    | sf c' ds =>
      unfold Run
      show (match (if c' = c ∧ ds.length = n then sSetF f (.sf c' ds :: r) else Out.bad) with
        | .nx ρ1 => runs ss ρ1
        | o => o).sat P = (c' = c ∧ ds.length = n ∧ satR P (.sf c' ds :: r) (f (.sf c' ds :: r)) fun d => r.all (fun s => !isSf s) = true ∧ Run P ss (.sf c' (ds ++ [d]) :: r))
      by_cases h : c' = c ∧ ds.length = n
      · rw [if_pos h]
        refine (sat_exo (k := fun d => r.all (fun s => !isSf s) = true ∧ Run P ss (.sf c' (ds ++ [d]) :: r)) fun d => ?_).trans (propext ⟨fun k => ⟨h.1, h.2, k⟩, fun k => k.2.2⟩)
        show (match (if r.all (fun s => !isSf s) = true then Out.nx (.sf c' (ds ++ [d]) :: r) else .bad) with
          | .nx ρ1 => runs ss ρ1
          | o => o).sat P = _
        by_cases h2 : r.all (fun s => !isSf s) = true
        · rw [if_pos h2]
          exact propext ⟨fun k => ⟨h2, k⟩, fun k => k.2⟩
        · rw [if_neg h2]
          exact propext ⟨fun k => k.elim, fun k => absurd k.1 h2⟩
      · rw [if_neg h]
        exact propext ⟨fun k => k.elim, fun k => absurd ⟨k.1, k.2.1⟩ h⟩
    | _ => rfl
theorem run_try0 : Run P (sTry0 s :: ss) ρ = Run ⟨Run P ss, P.bk, P.ct, P.rt, fun _ _ _ => False⟩ [s] ρ := by
  unfold Run
  show (match (match s ρ with
    | .ex _ _ _ => Out.bad
    | o => o) with
    | .nx ρ1 => runs ss ρ1
    | o => o).sat P = (match s ρ with
    | .nx ρ1 => Out.nx ρ1
    | o => o).sat _
  cases s ρ <;> rfl
end

theorem rng1_nat {n : Nat} (h : n ≤ 1000000000) : rng1R (.ok (.int (n : Nat))) = .ok (rngP 0 n) := by
  have := dRng1_ok (ρ := []) (fa := fun _ => .ok (.int (n : Nat))) (j := (n : Nat)) rfl (Int.natCast_nonneg n) (by omega)
  rw [Int.toNat_natCast] at this
  exact this
theorem rng2_nat {a b : Nat} (h : a ≤ 1000000000) (h2 : b ≤ 1000000000) : rng2R (.ok (.int (a : Nat))) (.ok (.int (b : Nat))) = .ok (rngP (a : Nat) (b - a)) := by
  have := dRng2_ok (ρ := []) (fa := fun _ => .ok (.int (a : Nat))) (fb := fun _ => .ok (.int (b : Nat))) (i := (a : Nat)) (j := (b : Nat)) rfl rfl ⟨by omega, by omega⟩ ⟨by omega, by omega⟩
  rw [show ((b : Int) - (a : Int)).toNat = b - a by omega] at this
  exact this
theorem at_nat {α : Type} (xs : List α) (n : Nat) : atI xs ((n : Nat) : Int) = xs[n]? := by
  by_cases h : n < xs.length
  · exact PP.atI_nat h
  · rw [List.getElem?_eq_none (by omega)]
    unfold L2.atI L2.ixN
    rw [if_pos (Int.natCast_nonneg n), if_neg (by omega)]
    rfl
theorem at_lit {α : Type} (xs : List α) (n : Nat) : atI xs (@OfNat.ofNat Int n (@instOfNat n)) = xs[n]? := at_nat xs n

theorem in_lst {x : PV} {ds : List PV} (_ : ∀ y ∈ ds, True = True) (h : flatP x = true) (h2 : ds.all flatP = true) : oIn x (.lst ds) = .ok (.bl (ds.any fun y => eqF y x)) := by
  have : inP x (.lst ds) = some (ds.any fun y => eqF y x) := by
    show (inF x ds).or _ = _
    unfold inF
    rw [h, h2]
    rfl
  unfold oIn
  rw [this]
theorem in_tup {x : PV} {ds : List PV} (_ : ∀ y ∈ ds, True = True) (h : flatP x = true) (h2 : ds.all flatP = true) : oIn x (.tup ds) = .ok (.bl (ds.any fun y => eqF y x)) := by
  have : inP x (.tup ds) = some (ds.any fun y => eqF y x) := by
    show inF x ds = _
    unfold inF
    rw [h, h2]
    rfl
  unfold oIn
  rw [this]
theorem mul_lst {xs : List PV} {k : Nat} (h : xs.length * k ≤ 1000000) (hk : k ≤ 1000000) : oMul (.lst xs) (.int (k : Nat)) = .ok (.lst (rep xs k)) := by
  have hc : cap = 16777216 := rfl
  simp only [oMul]
  rw [if_pos ⟨by omega, by omega, by rw [Int.toNat_natCast]; omega⟩, Int.toNat_natCast]
theorem rep_one {x : PV} {k : Nat} : rep [x] k = List.replicate k x := by
  unfold rep
  induction k with
  | zero => rfl
  | succ n ih => rw [List.replicate_succ, List.flatten_cons, ih, List.replicate_succ]; rfl
theorem mod_pow (x : Int) (k : Nat) : oMod (.int x) (.int (2 ^ k)) = .ok (.int (x % 2 ^ k)) := by
  have : (0 : Int) < 2 ^ k := Int.pow_pos (by decide)
  rw [oMod_ok (Int.ne_of_gt this), Int.fmod_eq_emod_of_nonneg _ (Int.le_of_lt this)]
theorem mod_powN (x : Int) (k : Nat) : oMod (.int x) (.int ((2 ^ k : Nat) : Int)) = .ok (.int (x % 2 ^ k)) := by
  rw [Int.natCast_pow]
  exact mod_pow x k
theorem shl_nat {a k : Nat} (h : a < 1267650600228229401496703205376) (h2 : k ≤ 1000000) : oShl (.int (a : Nat)) (.int (k : Nat)) = .ok (.int ((a * 2 ^ k : Nat) : Int)) := by
  rw [oShl_ok (Int.natCast_nonneg k) (by rw [Int.natAbs_natCast]; exact h) (by omega), Int.natCast_mul, Int.natCast_pow]
  rfl
theorem at_last (xs : List PV) : atI xs (-1) = xs[xs.length - 1]? := by
  unfold L2.atI L2.ixN
  cases xs with
  | nil => rfl
  | cons x r =>
    rw [if_neg (by decide)]
    rw [if_pos (by rw [List.length_cons]; omega)]
    show (x :: r)[(-1 + ((x :: r).length : Int)).toNat]? = _
    congr 1
    omega
theorem six_nat {n d k : Nat} : HT.sIx n d (some (k : Nat)) = min k n := by
  unfold HT.sIx
  have : ¬ ((k : Nat) : Int) < 0 := by omega
  simp [this]
theorem cut_nn {xs : List PV} : cutP xs none none = xs := by
  show (xs.drop 0).take (xs.length - 0) = xs
  simp
theorem cut_ns {xs : List PV} {k : Nat} : cutP xs none (some (k : Nat)) = xs.take k := by
  unfold cutP
  rw [six_nat]
  show (xs.drop 0).take (min k xs.length - 0) = _
  rw [List.drop_zero, Nat.sub_zero, Nat.min_comm, ← List.take_take, List.take_of_length_le (by rw [List.length_take]; omega)]
theorem cut_sn {xs : List PV} {n : Nat} : cutP xs (some (n : Nat)) none = xs.drop n := by
  unfold cutP
  rw [six_nat]
  show (xs.drop (min n xs.length)).take (xs.length - min n xs.length) = _
  by_cases h : n ≤ xs.length
  · rw [Nat.min_eq_left h, List.take_of_length_le (by rw [List.length_drop]; exact Nat.le_refl _)]
  · rw [Nat.min_eq_right (by omega), List.drop_length, List.drop_eq_nil_of_le (by omega)]; simp
theorem cut_ss {xs : List PV} {n k : Nat} : cutP xs (some (n : Nat)) (some (k : Nat)) = (xs.drop n).take (k - n) := by
  unfold cutP
  rw [six_nat, six_nat]
  by_cases h : n ≤ xs.length
  · rw [Nat.min_eq_left h]
    by_cases h2 : k ≤ xs.length
    · rw [Nat.min_eq_left h2]
    · rw [Nat.min_eq_right (by omega), List.take_of_length_le (by rw [List.length_drop]; exact Nat.le_refl _), List.take_of_length_le (by rw [List.length_drop]; omega)]
  · rw [Nat.min_eq_right (by omega : xs.length ≤ n), List.drop_length, List.drop_eq_nil_of_le (by omega)]; simp
theorem cut_last {xs : List PV} : cutP xs none (some (-1)) = xs.dropLast := by
  unfold cutP HT.sIx
  simp [List.dropLast_eq_take]
  congr 1
  omega

theorem EV0 : (∀ (P : Po) (ss : List DS) (ρ : PEnv) , Run P (sNx :: ss) ρ = Run P ss ρ) ∧
  (∀ (P : Po) (ss : List DS) (ρ : PEnv) (s t : DS), Run P (sSeq s t :: ss) ρ = Run P (s :: t :: ss) ρ) ∧
  (∀ (P : Po) (ss : List DS) (ρ : PEnv) (s : DS) (is : List Nat), Run P (sFrz is s :: ss) ρ = Run P (s :: ss) (frz is ρ)) ∧
  (∀ (P : Po) (ss : List DS) (ρ : PEnv) (s : DS) (i : Nat), Run P (sThF i s :: ss) ρ = Run P (s :: sFrz [i] sNx :: ss) ρ) ∧
  (∀ (P : Po) (ss : List DS) (ρ : PEnv) (i : Nat) (f : DE), Run P (sAsg i f :: ss) ρ = RunA P i ss ρ (f ρ)) ∧
  (∀ (P : Po) (ss : List DS) (ρ : PEnv) (i : Nat) (f : DE), Run P (sAsgO i f :: ss) ρ = RunO P i ss ρ (f ρ)) ∧
  (∀ (P : Po) (ss : List DS) (ρ : PEnv) (f : DE), Run P (sRet f :: ss) ρ = RunT P ρ (f ρ)) ∧
  (∀ (P : Po) (ss : List DS) (ρ : PEnv) (f : DE), Run P (sRetX f :: ss) ρ = RunT P ρ (f ρ)) ∧
  (∀ (P : Po) (ss : List DS) (ρ : PEnv) (i : Nat), Run P (sRetO i :: ss) ρ = RunT P ρ (owR ρ[i]?)) ∧
  (∀ (P : Po) (ss : List DS) (ρ : PEnv) , Run P (sRetN :: ss) ρ = P.rt .non) ∧
  (∀ (P : Po) (ss : List DS) (ρ : PEnv) (f : DE), Run P (sDrop f :: ss) ρ = RunD P ss ρ (f ρ)) ∧
  (∀ (P : Po) (ss : List DS) (ρ : PEnv) , Run P (sBrk :: ss) ρ = P.bk ρ) ∧
  (∀ (P : Po) (ss : List DS) (ρ : PEnv) , Run P (sCnt :: ss) ρ = P.ct ρ) ∧
  (∀ (P : Po) (ss : List DS) (ρ : PEnv) , Run P (sBad :: ss) ρ = False) ∧
  (∀ (P : Po) (ss : List DS) (ρ : PEnv) (c : DT) (s t : DS), Run P (sIf c s t :: ss) ρ = RunI P s t ss ρ (c ρ)) ∧
  (∀ (P : Po) (ss : List DS) (ρ : PEnv) (f : DE) (g : DG), Run P (sAsgG f g :: ss) ρ = RunG P g ss ρ (f ρ)) ∧
  (∀ (P : Po) (ss : List DS) (ρ : PEnv) (i j : Nat) (fl : DA), Run P (sPar i j fl :: ss) ρ = RunPar P i j ss ρ (fl ρ)) ∧
  (∀ (P : Po) (ss : List DS) (ρ : PEnv) (i : Nat) (g : PV → PV → R PV) (f : DE), Run P (sAug i g f :: ss) ρ = RunA P i ss ρ (binR g (varR ρ[i]?) (f ρ))) ∧
  (∀ (P : Po) (ss : List DS) (ρ : PEnv) (i : Nat) (f : DE), Run P (sApp i f :: ss) ρ = RunApp P i ss ρ ρ[i]? (f ρ)) ∧
  (∀ (P : Po) (ss : List DS) (ρ : PEnv) (i : Nat) (f : DE), Run P (sExt i f :: ss) ρ = RunExt P i ss ρ ρ[i]? (f ρ)) ∧
  (∀ (P : Po) (ss : List DS) (ρ : PEnv) (i : Nat) (fi f : DE), Run P (sSetI i fi f :: ss) ρ = RunSet P i ss ρ ρ[i]? (fi ρ) (f ρ)) ∧
  (∀ (P : Po) (ss : List DS) (ρ : PEnv) (it : DA) (g : DG) (s : DS), Run P (sFor it g s :: ss) ρ = RunF P g s ss ρ (it ρ)) ∧
  (∀ (P : Po) (ss : List DS) (ρ : PEnv) (c n : Nat) (f : DE), Run P (sFld0 c n f :: ss) ρ = RunFld P c n ss ρ (f ρ)) ∧
  (∀ (P : Po) (ρ : PEnv), Run P [] ρ = P.nx ρ) ∧
  (∀ (P : Po) (ss : List DS) (ρ : PEnv) (i : Nat) (d : PV), RunA P i ss ρ (.ok d) = Run P ss (ρ.set i (.fr d))) ∧
  (∀ (P : Po) (ss : List DS) (ρ : PEnv) (i : Nat) (d : PV), RunO P i ss ρ (.ok d) = Run P ss (ρ.set i (.ow d))) ∧
  (∀ (P : Po) (ρ : PEnv) (d : PV), RunT P ρ (.ok d) = P.rt d) ∧
  (∀ (P : Po) (ss : List DS) (ρ : PEnv) (d : PV), RunD P ss ρ (.ok d) = Run P ss ρ) ∧
  (∀ (P : Po) (ss : List DS) (ρ : PEnv) (s t : DS), RunI P s t ss ρ (.ok true) = Run P (s :: ss) ρ) ∧
  (∀ (P : Po) (ss : List DS) (ρ : PEnv) (s t : DS), RunI P s t ss ρ (.ok false) = Run P (t :: ss) ρ) ∧
  (∀ (P : Po) (ss : List DS) (ρ : PEnv) , RunGG P ss (.ok ρ) = Run P ss ρ) ∧
  (∀ (P : Po) (ss : List DS) (ρ : PEnv) (g : DG) (d : PV), RunG P g ss ρ (.ok d) = RunGG P ss (g d ρ)) ∧
  (∀ (P : Po) (ss : List DS) (ρ : PEnv) (i j : Nat) (x y : PV), RunPar P i j ss ρ (.ok [x, y]) = Run P ss ((ρ.set i (.fr x)).set j (.fr y))) ∧
  (∀ (P : Po) (ss : List DS) (ρ : PEnv) (i : Nat) (ds : List PV) (d : PV), RunApp P i ss ρ (some (.ow (.lst ds))) (.ok d) = (ds.length < 16777216 ∧ Run P ss (ρ.set i (.ow (.lst (ds ++ [d])))))) ∧
  (∀ (P : Po) (ss : List DS) (ρ : PEnv) (i : Nat) (ds es : List PV), RunExt P i ss ρ (some (.ow (.lst ds))) (.ok (.lst es)) = (ds.length + es.length ≤ 16777216 ∧ Run P ss (ρ.set i (.ow (.lst (ds ++ es)))))) ∧
  (∀ (P : Po) (ss : List DS) (ρ : PEnv) (g : DG) (s : DS) (ds : List PV), RunF P g s ss ρ (.ok ds) = Loop P g s ds ss ρ) ∧
  (∀ (P : Po) (ss : List DS) (c c1 n : Nat) (ds : List PV) (r : PEnv) (d : PV), RunFld P c n ss (.sf c1 ds :: r) (.ok d) = (c1 = c ∧ ds.length = n ∧ r.all (fun s => !isSf s) = true ∧ Run P ss (.sf c1 (ds ++ [d]) :: r))) ∧
  (∀ (P : Po) (ss : List DS) (ρ : PEnv) (i : Nat) (c : Nat) (fs : List PV), RunA P i ss ρ (.ex c fs) = P.ex c fs ρ) ∧
  (∀ (P : Po) (ss : List DS) (ρ : PEnv) (i : Nat) (c : Nat) (fs : List PV), RunO P i ss ρ (.ex c fs) = P.ex c fs ρ) ∧
  (∀ (P : Po) (ss : List DS) (ρ : PEnv) (c : Nat) (fs : List PV), RunD P ss ρ (.ex c fs) = P.ex c fs ρ) :=
  ⟨fun _ _ _  => run_nx,
  fun _ _ _ _ _ => run_sq,
  fun _ _ _ _ _ => run_frz,
  fun _ _ _ _ _ => run_thF,
  fun _ _ _ _ _ => run_asg,
  fun _ _ _ _ _ => run_asgO,
  fun _ _ _ _ => run_ret,
  fun _ _ _ _ => run_retX,
  fun _ _ _ _ => run_retO,
  fun _ _ _  => run_retN,
  fun _ _ _ _ => run_drop,
  fun _ _ _  => run_brk,
  fun _ _ _  => run_cnt,
  fun _ _ _  => run_bad,
  fun _ _ _ _ _ _ => run_if,
  fun _ _ _ _ _ => run_asgG,
  fun _ _ _ _ _ _ => run_par,
  fun _ _ _ _ _ _ => run_aug,
  fun _ _ _ _ _ => run_app,
  fun _ _ _ _ _ => run_ext,
  fun _ _ _ _ _ _ => run_setI,
  fun _ _ _ _ _ _ => run_for,
  fun _ _ _ _ _ _ => run_fld,
  fun _ _ => rfl,
  by intros; rfl,
  by intros; rfl,
  by intros; rfl,
  by intros; rfl,
  by intros; rfl,
  by intros; rfl,
  by intros; rfl,
  by intros; rfl,
  by intros; rfl,
  by intros; rfl,
  by intros; rfl,
  by intros; rfl,
  by intros; rfl,
  by intros; rfl,
  by intros; rfl,
  by intros; rfl⟩

theorem EV1 : (∀ (P : Po) (ss : List DS) (ρ : PEnv) (s t : DS) (c : Nat) (fs : List PV), RunI P s t ss ρ (.ex c fs) = P.ex c fs ρ) ∧
  (∀ (P : Po) (ss : List DS) (ρ : PEnv) (g : DG) (c : Nat) (fs : List PV), RunG P g ss ρ (.ex c fs) = P.ex c fs ρ) ∧
  (∀ (P : Po) (ss : List DS) (ρ : PEnv) (i j : Nat) (c : Nat) (fs : List PV), RunPar P i j ss ρ (.ex c fs) = P.ex c fs ρ) ∧
  (∀ (P : Po) (ss : List DS) (ρ : PEnv) (g : DG) (s : DS) (c : Nat) (fs : List PV), RunF P g s ss ρ (.ex c fs) = P.ex c fs ρ) ∧
  (∀ (P : Po) (ρ : PEnv) (c : Nat) (fs : List PV), RunT P ρ (.ex c fs) = P.ex c fs ρ) ∧
  (∀ (i : Nat) (ρ : PEnv), dVar i ρ = varR ρ[i]?) ∧
  (∀ (i : Nat) (ρ : PEnv), dBVar i ρ = bvarR ρ[i]?) ∧
  (∀ (d : PV), varR (some (.fr d)) = .ok d) ∧
  (∀ (d : PV), bvarR (some (.fr d)) = .ok d) ∧
  (∀ (d : PV), owR (some (.ow d)) = .ok d) ∧
  (∀ (d : PV), bvarR (some (.ow d)) = .ok d) ∧
  (∀ (d : PV) (ρ : PEnv), dC d ρ = .ok d) ∧
  (∀ (ρ : PEnv), dNil ρ = .ok []) ∧
  (∀ (ρ : PEnv), dYes ρ = .ok true) ∧
  (∀ (ρ : PEnv), dNo ρ = .ok none) ∧
  (∀ (ρ : PEnv), frz [] ρ = ρ) ∧
  (∀ (i : Nat) (is : List Nat) (ρ : PEnv), frz (i :: is) ρ = frz is (frzS i ρ ρ[i]?)) ∧
  (∀ (i : Nat) (ρ : PEnv) (d : PV), frzS i ρ (some (.ow d)) = ρ.set i (.fr d)) ∧
  (∀ (i : Nat) (ρ : PEnv) (d : PV), frzS i ρ (some (.fr d)) = ρ) ∧
  (∀ (i : Nat) (ρ : PEnv), frzS i ρ (some .no) = ρ) ∧
  (∀ (ρ : PEnv) (g : PV → PV → R PV) (fa fb : DE), dBin g fa fb ρ = binR g (fa ρ) (fb ρ)) ∧
  (∀ (g : PV → PV → R PV) (x y : PV), binR g (.ok x) (.ok y) = g x y) ∧
  (∀ (g : PV → PV → R PV) (c : Nat) (fs : List PV) (y : R PV), binR g (.ex c fs) y = .ex c fs) ∧
  (∀ (ρ : PEnv) (fa : DE) (fl : DA), dCons fa fl ρ = consR (fa ρ) (fl ρ)) ∧
  (∀ (x : PV) (r : List PV), consR (.ok x) (.ok r) = .ok (x :: r)) ∧
  (∀ (ρ : PEnv) (fl : DA), dTup fl ρ = capT (fl ρ)) ∧
  (∀ (ρ : PEnv) (fl : DA), dLst fl ρ = capL (fl ρ)) ∧
  (∀ (ρ : PEnv) (g : PV → R PV) (fa : DE), dUn g fa ρ = (fa ρ).bind g) ∧
  (∀ (ρ : PEnv) (g : List PV → R PV) (fl : DA), dFn g fl ρ = (fl ρ).bind g) ∧
  (∀ (ρ : PEnv) (fa : DE), dTst fa ρ = (fa ρ).bind asBl) ∧
  (∀ (ρ : PEnv) (fa : DE), dTru fa ρ = (fa ρ).bind truthP) ∧
  (∀ (ρ : PEnv) (a b : DT), dAndT a b ρ = andR (a ρ) (b ρ)) ∧
  (∀ (ρ : PEnv) (a b : DT), dOrT a b ρ = orR (a ρ) (b ρ)) ∧
  (∀ (ρ : PEnv) (a : DT), dNotT a ρ = notR (a ρ)) ∧
  (∀ (b : R Bool), andR (.ok true) b = b) ∧
  (∀ (b : R Bool), andR (.ok false) b = .ok false) ∧
  (∀ a b : Bool, andR (.ok a) (.ok b) = .ok (a && b)) ∧
  (∀ (b : R Bool), orR (.ok true) b = .ok true) ∧
  (∀ (b : R Bool), orR (.ok false) b = b) ∧
  (∀ a b : Bool, orR (.ok a) (.ok b) = .ok (a || b)) :=
  ⟨by intros; rfl,
  by intros; rfl,
  by intros; rfl,
  by intros; rfl,
  by intros; rfl,
  by intros; rfl,
  by intros; rfl,
  by intros; rfl,
  by intros; rfl,
  by intros; rfl,
  by intros; rfl,
  by intros; rfl,
  by intros; rfl,
  by intros; rfl,
  by intros; rfl,
  by intros; rfl,
  by intros; rfl,
  by intros; rfl,
  by intros; rfl,
  by intros; rfl,
  by intros; rfl,
  by intros; rfl,
  by intros; rfl,
  by intros; rfl,
  by intros; rfl,
  by intros; rfl,
  by intros; rfl,
  by intros; rfl,
  by intros; rfl,
  by intros; rfl,
  by intros; rfl,
  by intros; rfl,
  by intros; rfl,
  by intros; rfl,
  by intros; rfl,
  by intros; rfl,
  fun a b => by cases a <;> cases b <;> rfl,
  by intros; rfl,
  by intros; rfl,
  fun a b => by cases a <;> cases b <;> rfl⟩

theorem EV2 : (∀ (b : Bool), notR (.ok b) = .ok (!b)) ∧
  (∀ (ρ : PEnv) (fa fb : DE), dAndV fa fb ρ = andV (fa ρ) (fb ρ)) ∧
  (∀ (ρ : PEnv) (fa fb : DE), dOrV fa fb ρ = orV (fa ρ) (fb ρ)) ∧
  (∀ (b : R PV), andV (.ok (.bl true)) b = b) ∧
  (∀ (b : R PV), andV (.ok (.bl false)) b = .ok (.bl false)) ∧
  (∀ a b : Bool, andV (.ok (.bl a)) (.ok (.bl b)) = .ok (.bl (a && b))) ∧
  (∀ (b : R PV), orV (.ok (.bl true)) b = .ok (.bl true)) ∧
  (∀ (b : R PV), orV (.ok (.bl false)) b = b) ∧
  (∀ a b : Bool, orV (.ok (.bl a)) (.ok (.bl b)) = .ok (.bl (a || b))) ∧
  (∀ (ρ : PEnv) (c : DT) (fa fb : DE), dIf c fa fb ρ = ifR (c ρ) (fa ρ) (fb ρ)) ∧
  (∀ (a b : R PV), ifR (.ok true) a b = a) ∧
  (∀ (a b : R PV), ifR (.ok false) a b = b) ∧
  (∀ (ρ : PEnv) (g g1 : PV → PV → R PV) (fa fb fc : DE), dChain g g1 fa fb fc ρ = chR g1 (fb ρ) (binR g (fa ρ) (fb ρ)) (fc ρ)) ∧
  (∀ (g : PV → PV → R PV) (y u : PV), chR g (.ok y) (.ok (.bl true)) (.ok u) = g y u) ∧
  (∀ (g : PV → PV → R PV) (y u : R PV), chR g y (.ok (.bl false)) u = .ok (.bl false)) ∧
  (∀ (ρ : PEnv) (gs : PV → Option Int → Option Int → R PV) (fa : DE) (lo hi : DP), dSl gs fa lo hi ρ = slR gs (fa ρ) (lo ρ) (hi ρ)) ∧
  (∀ (gs : PV → Option Int → Option Int → R PV) (x : PV) (l u : Option Int), slR gs (.ok x) (.ok l) (.ok u) = gs x l u) ∧
  (∀ (ρ : PEnv) (fa : DE), dPt fa ρ = ptR (fa ρ)) ∧
  (∀ (i : Int), ptR (.ok (.int i)) = .ok (some i)) ∧
  (∀ (ρ : PEnv) (fa : DE), dIt fa ρ = seqR (fa ρ)) ∧
  (∀ (ds : List PV), seqR (.ok (.lst ds)) = .ok ds) ∧
  (∀ (ds : List PV), enumR (.ok (.lst ds)) = .ok (enumP 0 ds)) ∧
  (∀ (xs : List PV) (i : Int), oIx (.lst xs) (.int i) = .ofOpt (atI xs i)) ∧
  (∀ (xs : List PV), oLen (.lst xs) = .ok (.int xs.length)) ∧
  (∀ (ds : List PV), seqR (.ok (.tup ds)) = .ok ds) ∧
  (∀ (ds : List PV), enumR (.ok (.tup ds)) = .ok (enumP 0 ds)) ∧
  (∀ (xs : List PV) (i : Int), oIx (.tup xs) (.int i) = .ofOpt (atI xs i)) ∧
  (∀ (xs : List PV), oLen (.tup xs) = .ok (.int xs.length)) ∧
  (∀ (ds : List PV), seqR (.ok (.scr ds)) = .ok ds) ∧
  (∀ (ds : List PV), enumR (.ok (.scr ds)) = .ok (enumP 0 ds)) ∧
  (∀ (xs : List PV) (i : Int), oIx (.scr xs) (.int i) = .ofOpt (atI xs i)) ∧
  (∀ (xs : List PV), oLen (.scr xs) = .ok (.int xs.length)) ∧
  (∀ (ρ : PEnv) (fa : DE), dEnum fa ρ = enumR (fa ρ)) ∧
  (∀ (ρ : PEnv) (fa : DE), dRng1 fa ρ = rng1R (fa ρ)) ∧
  (∀ (ρ : PEnv) (fa fb : DE), dRng2 fa fb ρ = rng2R (fa ρ) (fb ρ)) ∧
  (∀ (ρ : PEnv) (fa fb : DE), dZip fa fb ρ = zipR (fa ρ) (fb ρ)) ∧
  (∀ (xs ys : List PV), zipR (.ok (.lst xs)) (.ok (.lst ys)) = .ok (zipP xs ys)) ∧
  (∀ (xs ys : List PV), zipR (.ok (.tup xs)) (.ok (.tup ys)) = .ok (zipP xs ys)) ∧
  (∀ (xs ys : List PV), zipR (.ok (.tup xs)) (.ok (.lst ys)) = .ok (zipP xs ys)) ∧
  (∀ (xs ys : List PV), zipR (.ok (.lst xs)) (.ok (.tup ys)) = .ok (zipP xs ys)) :=
  ⟨by intros; rfl,
  by intros; rfl,
  by intros; rfl,
  by intros; rfl,
  by intros; rfl,
  fun a b => by cases a <;> cases b <;> rfl,
  by intros; rfl,
  by intros; rfl,
  fun a b => by cases a <;> cases b <;> rfl,
  by intros; rfl,
  by intros; rfl,
  by intros; rfl,
  fun ρ g g1 fa fb fc => by
  unfold dChain chR binR
  cases fa ρ with
  | ok x => cases fb ρ with
    | ok y => rfl
    | _ => rfl
  | _ => rfl,
  by intros; rfl,
  by intros; rfl,
  by intros; rfl,
  by intros; rfl,
  by intros; rfl,
  by intros; rfl,
  by intros; rfl,
  by intros; rfl,
  by intros; rfl,
  by intros; rfl,
  by intros; rfl,
  by intros; rfl,
  by intros; rfl,
  by intros; rfl,
  by intros; rfl,
  by intros; rfl,
  by intros; rfl,
  by intros; rfl,
  by intros; rfl,
  by intros; rfl,
  by intros; rfl,
  by intros; rfl,
  by intros; rfl,
  by intros; rfl,
  by intros; rfl,
  by intros; rfl,
  by intros; rfl⟩

theorem EV3 : (∀ n : Nat, n ≤ 1000000000 → rng1R (.ok (.int (n : Nat))) = .ok (rngP 0 n)) ∧
  (∀ (ρ : PEnv) (Γ : Tab) (i : Nat) (fl : DA), dCall Γ i fl ρ = (fl ρ).bind (Γ i)) ∧
  (∀ (ρ : PEnv) (Γ : Tab) (i : Nat) (fl : DA), dCallL Γ i fl ρ = callL Γ i (fl ρ)) ∧
  (∀ (Γ : Tab) (i : Nat) (ds : List PV), callL Γ i (.ok ds) = lf (exb (Γ i ds))) ∧
  (∀ (x : PV), exb (.ok x) = .ok x) ∧
  (∀ (i : Int), lf (.ok (.int i)) = .ok (.int i)) ∧
  (∀ (i : Bool), lf (.ok (.bl i)) = .ok (.bl i)) ∧
  (∀ (i : Str), lf (.ok (.str i)) = .ok (.str i)) ∧
  (lf (.ok .non) = .ok .non) ∧
  (∀ (ρ : PEnv) (Γ : Tab) (i : Nat) (ix : List Nat) (fl fk : DA), dCallK Γ i ix fl fk ρ = callK Γ i ix (fl ρ) (fk ρ)) ∧
  (∀ (Γ : Tab) (i : Nat) (ix : List Nat) (ds es : List PV), callK Γ i ix (.ok ds) (.ok es) = Γ i (pick ix (ds ++ es))) ∧
  (∀ (α : Type) (xs : List α), pick [] xs = []) ∧
  (∀ (ρ : PEnv) (Γ : Tab) (t : List (Nat × Nat)) (fo : DE) (fl : DA), dMeth Γ t fo fl ρ = methR Γ t (fo ρ) (fl ρ)) ∧
  (∀ (ρ : PEnv) (Γ : Tab) (t : List (Nat × Nat)) (fo : DE) (fl : DA), dMethL Γ t fo fl ρ = methLR Γ t (fo ρ) (fl ρ)) ∧
  (∀ (Γ : Tab) (t : List (Nat × Nat)) (c : Nat) (fs ds : List PV), methR Γ t (.ok (.obj c fs)) (.ok ds) = (R.ofOpt (t.lookup c)).bind fun i => Γ i (.obj c fs :: ds)) ∧
  (∀ (Γ : Tab) (t : List (Nat × Nat)) (c : Nat) (fs ds : List PV), methLR Γ t (.ok (.obj c fs)) (.ok ds) = (R.ofOpt (t.lookup c)).bind fun i => lf (exb (Γ i (.obj c fs :: ds)))) ∧
  (∀ (Γ : Tab) (t : List (Nat × Nat)) (ne : Bool) (c : Nat) (fs : List PV) (y : PV), oOwnE Γ t ne (.obj c fs) y = (R.ofOpt (t.lookup c)).bind fun i => ownA ne y (Γ i [.obj c fs, y])) ∧
  (∀ (b : Bool), ownA false .non (.ok (.bl b)) = .ok (.bl b)) ∧
  (∀ (b : Bool), ownA true .non (.ok (.bl b)) = .ok (.bl (!b))) ∧
  (∀ (c : Bool) (b : Bool), ownA false (.bl c) (.ok (.bl b)) = .ok (.bl b)) ∧
  (∀ (c : Bool) (b : Bool), ownA true (.bl c) (.ok (.bl b)) = .ok (.bl (!b))) ∧
  (∀ (c : Int) (b : Bool), ownA false (.int c) (.ok (.bl b)) = .ok (.bl b)) ∧
  (∀ (c : Int) (b : Bool), ownA true (.int c) (.ok (.bl b)) = .ok (.bl (!b))) ∧
  (∀ (c : Str) (b : Bool), ownA false (.str c) (.ok (.bl b)) = .ok (.bl b)) ∧
  (∀ (c : Str) (b : Bool), ownA true (.str c) (.ok (.bl b)) = .ok (.bl (!b))) ∧
  (∀ (c : List PV) (b : Bool), ownA false (.tup c) (.ok (.bl b)) = .ok (.bl b)) ∧
  (∀ (c : List PV) (b : Bool), ownA true (.tup c) (.ok (.bl b)) = .ok (.bl (!b))) ∧
  (∀ (d : Nat) (c : List PV) (b : Bool), ownA false (.obj d c) (.ok (.bl b)) = .ok (.bl b)) ∧
  (∀ (d : Nat) (c : List PV) (b : Bool), ownA true (.obj d c) (.ok (.bl b)) = .ok (.bl (!b))) ∧
  (∀ (Γ : Tab) (t : List (Nat × Nat)) (y : PV) (u : PV), oOwnE Γ t false .non y = oEq .non y) ∧
  (∀ (Γ : Tab) (t : List (Nat × Nat)) (y : PV) (u : PV), oOwnE Γ t true .non y = oNe .non y) ∧
  (∀ (Γ : Tab) (t : List (Nat × Nat)) (y : PV) (c : Bool), oOwnE Γ t false (.bl c) y = oEq (.bl c) y) ∧
  (∀ (Γ : Tab) (t : List (Nat × Nat)) (y : PV) (c : Bool), oOwnE Γ t true (.bl c) y = oNe (.bl c) y) ∧
  (∀ (Γ : Tab) (t : List (Nat × Nat)) (y : PV) (c : Int), oOwnE Γ t false (.int c) y = oEq (.int c) y) ∧
  (∀ (Γ : Tab) (t : List (Nat × Nat)) (y : PV) (c : Int), oOwnE Γ t true (.int c) y = oNe (.int c) y) ∧
  (∀ (Γ : Tab) (t : List (Nat × Nat)) (y : PV) (c : Str), oOwnE Γ t false (.str c) y = oEq (.str c) y) ∧
  (∀ (Γ : Tab) (t : List (Nat × Nat)) (y : PV) (c : Str), oOwnE Γ t true (.str c) y = oNe (.str c) y) ∧
  (∀ (Γ : Tab) (t : List (Nat × Nat)) (y : PV) (c : List PV), oOwnE Γ t false (.tup c) y = oEq (.tup c) y) ∧
  (∀ (Γ : Tab) (t : List (Nat × Nat)) (y : PV) (c : List PV), oOwnE Γ t true (.tup c) y = oNe (.tup c) y) ∧
  (∀ (Γ : Tab) (t : List (Nat × Nat)) (c : List PV), oOwnL Γ t (.tup c) = .ok (.int c.length)) :=
  ⟨fun n h => rng1_nat h,
  by intros; rfl,
  by intros; rfl,
  by intros; rfl,
  by intros; rfl,
  by intros; rfl,
  by intros; rfl,
  by intros; rfl,
  rfl,
  by intros; rfl,
  by intros; rfl,
  by intros; rfl,
  by intros; rfl,
  by intros; rfl,
  fun Γ t c fs ds => by
  show (match t.lookup c with
    | some i => (R.ok ds).bind fun ds => Γ i (.obj c fs :: ds)
    | none => .bad) = _
  cases t.lookup c <;> rfl,
  fun Γ t c fs ds => by
  show (match t.lookup c with
    | some i => (R.ok ds).bind fun ds => lf (exb (Γ i (.obj c fs :: ds)))
    | none => .bad) = _
  cases t.lookup c <;> rfl,
  fun Γ t ne c fs y => by
  unfold oOwnE
  simp only
  cases t.lookup c with
  | none => rfl
  | some i =>
    show (if (noLst y && y.ty.isSome) = true then (match Γ i [.obj c fs, y] with
      | .ok (.bl b) => R.ok (.bl (xor ne b))
      | _ => .bad) else .bad) = ownA ne y (Γ i [.obj c fs, y])
    by_cases h : (noLst y && y.ty.isSome) = true
    · rw [if_pos h]
      unfold ownA
      cases Γ i [.obj c fs, y] with
      | ok z => cases z with
        | bl b => simp only; rw [if_pos h]
        | _ => rfl
      | _ => rfl
    · rw [if_neg h]
      unfold ownA
      cases Γ i [.obj c fs, y] with
      | ok z => cases z with
        | bl b => simp only; rw [if_neg h]
        | _ => rfl
      | _ => rfl,
  fun  b => by cases b <;> rfl,
  fun  b => by cases b <;> rfl,
  fun _ b => by cases b <;> rfl,
  fun _ b => by cases b <;> rfl,
  fun _ b => by cases b <;> rfl,
  fun _ b => by cases b <;> rfl,
  fun _ b => by cases b <;> rfl,
  fun _ b => by cases b <;> rfl,
  fun _ b => by cases b <;> rfl,
  fun _ b => by cases b <;> rfl,
  fun _ _ b => by cases b <;> rfl,
  fun _ _ b => by cases b <;> rfl,
  by intros; rfl,
  by intros; rfl,
  by intros; rfl,
  by intros; rfl,
  by intros; rfl,
  by intros; rfl,
  by intros; rfl,
  by intros; rfl,
  by intros; rfl,
  by intros; rfl,
  by intros; rfl⟩

theorem EV4 : (∀ (Γ : Tab) (t : List (Nat × Nat)) (y : PV) (c : List PV), oOwnE Γ t false (.lst c) y = oEq (.lst c) y) ∧
  (∀ (Γ : Tab) (t : List (Nat × Nat)) (y : PV) (c : List PV), oOwnE Γ t true (.lst c) y = oNe (.lst c) y) ∧
  (∀ (Γ : Tab) (t : List (Nat × Nat)) (c : List PV), oOwnL Γ t (.lst c) = .ok (.int c.length)) ∧
  (∀ (Γ : Tab) (t : List (Nat × Nat)) (y : PV) (c : List PV), oOwnE Γ t false (.scr c) y = oEq (.scr c) y) ∧
  (∀ (Γ : Tab) (t : List (Nat × Nat)) (y : PV) (c : List PV), oOwnE Γ t true (.scr c) y = oNe (.scr c) y) ∧
  (∀ (Γ : Tab) (t : List (Nat × Nat)) (c : List PV), oOwnL Γ t (.scr c) = .ok (.int c.length)) ∧
  (∀ (xs : List PV), oTupRev (.tup xs) = .ok (.tup xs.reverse)) ∧
  (∀ (c : List PV), oMaxA (.lst c) = oMax (.lst c)) ∧
  (∀ (i0 : Int), oMaxA (.tup [.int i0]) = .ok (.int (maxI i0 []))) ∧
  (∀ (i0 i1 : Int), oMaxA (.tup [.int i0, .int i1]) = .ok (.int (maxI i0 [i1]))) ∧
  (∀ (i0 i1 i2 : Int), oMaxA (.tup [.int i0, .int i1, .int i2]) = .ok (.int (maxI i0 [i1, i2]))) ∧
  (∀ (i0 i1 i2 i3 : Int), oMaxA (.tup [.int i0, .int i1, .int i2, .int i3]) = .ok (.int (maxI i0 [i1, i2, i3]))) ∧
  (∀ (i0 i1 i2 i3 i4 : Int), oMaxA (.tup [.int i0, .int i1, .int i2, .int i3, .int i4]) = .ok (.int (maxI i0 [i1, i2, i3, i4]))) ∧
  (∀ (c : List PV), oMinA (.lst c) = oMin (.lst c)) ∧
  (∀ (i0 : Int), oMinA (.tup [.int i0]) = .ok (.int (minI i0 []))) ∧
  (∀ (i0 i1 : Int), oMinA (.tup [.int i0, .int i1]) = .ok (.int (minI i0 [i1]))) ∧
  (∀ (i0 i1 i2 : Int), oMinA (.tup [.int i0, .int i1, .int i2]) = .ok (.int (minI i0 [i1, i2]))) ∧
  (∀ (i0 i1 i2 i3 : Int), oMinA (.tup [.int i0, .int i1, .int i2, .int i3]) = .ok (.int (minI i0 [i1, i2, i3]))) ∧
  (∀ (i0 i1 i2 i3 i4 : Int), oMinA (.tup [.int i0, .int i1, .int i2, .int i3, .int i4]) = .ok (.int (minI i0 [i1, i2, i3, i4]))) ∧
  (∀ (Γ : Tab) (t : List (Nat × Nat)) (c : Nat) (fs : List PV), oOwnL Γ t (.obj c fs) = (R.ofOpt (t.lookup c)).bind fun i => ownN (Γ i [.obj c fs])) ∧
  (∀ n : Nat, n ≤ 1000000000 → ownN (.ok (.int (n : Nat))) = .ok (.int (n : Nat))) ∧
  (∀ (ρ : PEnv) (Γ : Tab) (t : List (Nat × List Nat × Nat)) (fo : DE) (fl fk : DA), dMethK Γ t fo fl fk ρ = methK Γ t (fo ρ) (fl ρ) (fk ρ)) ∧
  (∀ (Γ : Tab) (t : List (Nat × List Nat × Nat)) (c : Nat) (fs ds es : List PV), methK Γ t (.ok (.obj c fs)) (.ok ds) (.ok es) = (R.ofOpt (t.lookup c)).bind fun q => Γ q.2 (pick q.1 (.obj c fs :: (ds ++ es)))) ∧
  (∀ (x : List Nat × Nat) (r : List (Nat × List Nat × Nat)), List.lookup 0 ((0, x) :: r) = some x) ∧
  (∀ (x : List Nat × Nat) (r : List (Nat × List Nat × Nat)), List.lookup 0 ((1, x) :: r) = List.lookup 0 r) ∧
  (∀ (x : List Nat × Nat) (r : List (Nat × List Nat × Nat)), List.lookup 0 ((2, x) :: r) = List.lookup 0 r) ∧
  (∀ (x : List Nat × Nat) (r : List (Nat × List Nat × Nat)), List.lookup 0 ((3, x) :: r) = List.lookup 0 r) ∧
  (∀ (x : List Nat × Nat) (r : List (Nat × List Nat × Nat)), List.lookup 1 ((1, x) :: r) = some x) ∧
  (∀ (x : List Nat × Nat) (r : List (Nat × List Nat × Nat)), List.lookup 1 ((0, x) :: r) = List.lookup 1 r) ∧
  (∀ (x : List Nat × Nat) (r : List (Nat × List Nat × Nat)), List.lookup 1 ((2, x) :: r) = List.lookup 1 r) ∧
  (∀ (x : List Nat × Nat) (r : List (Nat × List Nat × Nat)), List.lookup 1 ((3, x) :: r) = List.lookup 1 r) ∧
  (∀ (x : List Nat × Nat) (r : List (Nat × List Nat × Nat)), List.lookup 2 ((2, x) :: r) = some x) ∧
  (∀ (x : List Nat × Nat) (r : List (Nat × List Nat × Nat)), List.lookup 2 ((0, x) :: r) = List.lookup 2 r) ∧
  (∀ (x : List Nat × Nat) (r : List (Nat × List Nat × Nat)), List.lookup 2 ((1, x) :: r) = List.lookup 2 r) ∧
  (∀ (x : List Nat × Nat) (r : List (Nat × List Nat × Nat)), List.lookup 2 ((3, x) :: r) = List.lookup 2 r) ∧
  (∀ (x : List Nat × Nat) (r : List (Nat × List Nat × Nat)), List.lookup 3 ((3, x) :: r) = some x) ∧
  (∀ (x : List Nat × Nat) (r : List (Nat × List Nat × Nat)), List.lookup 3 ((0, x) :: r) = List.lookup 3 r) ∧
  (∀ (x : List Nat × Nat) (r : List (Nat × List Nat × Nat)), List.lookup 3 ((1, x) :: r) = List.lookup 3 r) ∧
  (∀ (x : List Nat × Nat) (r : List (Nat × List Nat × Nat)), List.lookup 3 ((2, x) :: r) = List.lookup 3 r) ∧
  (∀ (i : Nat) (ix : List Nat) (xs : List PV), pick (i :: ix) xs = pickC xs[i]? (pick ix xs)) :=
  ⟨by intros; rfl,
  by intros; rfl,
  by intros; rfl,
  by intros; rfl,
  by intros; rfl,
  by intros; rfl,
  by intros; rfl,
  by intros; rfl,
  by intros; rfl,
  by intros; rfl,
  by intros; rfl,
  by intros; rfl,
  by intros; rfl,
  by intros; rfl,
  by intros; rfl,
  by intros; rfl,
  by intros; rfl,
  by intros; rfl,
  by intros; rfl,
  fun Γ t c fs => by
  unfold oOwnL
  simp only
  cases t.lookup c with
  | none => rfl
  | some i =>
    show _ = ownN (Γ i [.obj c fs])
    simp only
    cases Γ i [.obj c fs] with
    | ok z => cases z <;> rfl
    | _ => rfl,
  fun n h => ownN_nat h,
  by intros; rfl,
  fun Γ t c fs ds es => by
  show (match t.lookup c with
    | some (ix, i) => (R.ok ds).bind fun ds => (R.ok es).bind fun es => Γ i (pick ix (.obj c fs :: (ds ++ es)))
    | none => .bad) = _
  cases t.lookup c <;> rfl,
  by intros; rfl,
  by intros; rfl,
  by intros; rfl,
  by intros; rfl,
  by intros; rfl,
  by intros; rfl,
  by intros; rfl,
  by intros; rfl,
  by intros; rfl,
  by intros; rfl,
  by intros; rfl,
  by intros; rfl,
  by intros; rfl,
  by intros; rfl,
  by intros; rfl,
  by intros; rfl,
  fun i ix xs => by
  unfold pick pickC
  rw [List.filterMap_cons]
  cases xs[i]? <;> rfl⟩

theorem EV5 : (∀ (y : PV) (r : List PV), pickC (some y) r = y :: r) ∧
  (∀ (t : List (Nat × Nat)) (c : Nat) (fs : List PV), oFld t (.obj c fs) = (R.ofOpt (t.lookup c)).bind fun i => .ofOpt fs[i]?) ∧
  (∀ (x : Nat) (r : List (Nat × Nat)), List.lookup 0 ((0, x) :: r) = some x) ∧
  (∀ (x : Nat) (r : List (Nat × Nat)), List.lookup 0 ((1, x) :: r) = List.lookup 0 r) ∧
  (∀ (x : Nat) (r : List (Nat × Nat)), List.lookup 0 ((2, x) :: r) = List.lookup 0 r) ∧
  (∀ (x : Nat) (r : List (Nat × Nat)), List.lookup 0 ((3, x) :: r) = List.lookup 0 r) ∧
  (∀ (x : Nat) (r : List (Nat × Nat)), List.lookup 1 ((1, x) :: r) = some x) ∧
  (∀ (x : Nat) (r : List (Nat × Nat)), List.lookup 1 ((0, x) :: r) = List.lookup 1 r) ∧
  (∀ (x : Nat) (r : List (Nat × Nat)), List.lookup 1 ((2, x) :: r) = List.lookup 1 r) ∧
  (∀ (x : Nat) (r : List (Nat × Nat)), List.lookup 1 ((3, x) :: r) = List.lookup 1 r) ∧
  (∀ (x : Nat) (r : List (Nat × Nat)), List.lookup 2 ((2, x) :: r) = some x) ∧
  (∀ (x : Nat) (r : List (Nat × Nat)), List.lookup 2 ((0, x) :: r) = List.lookup 2 r) ∧
  (∀ (x : Nat) (r : List (Nat × Nat)), List.lookup 2 ((1, x) :: r) = List.lookup 2 r) ∧
  (∀ (x : Nat) (r : List (Nat × Nat)), List.lookup 2 ((3, x) :: r) = List.lookup 2 r) ∧
  (∀ (x : Nat) (r : List (Nat × Nat)), List.lookup 3 ((3, x) :: r) = some x) ∧
  (∀ (x : Nat) (r : List (Nat × Nat)), List.lookup 3 ((0, x) :: r) = List.lookup 3 r) ∧
  (∀ (x : Nat) (r : List (Nat × Nat)), List.lookup 3 ((1, x) :: r) = List.lookup 3 r) ∧
  (∀ (x : Nat) (r : List (Nat × Nat)), List.lookup 3 ((2, x) :: r) = List.lookup 3 r) ∧
  (∀ (ρ : PEnv) (it : DA) (g : DG) (t : DT) (e : DE) (vs : List Nat), dLc it g t e vs ρ = lcR g t e (wipeE ρ vs) (it ρ)) ∧
  (∀ (ρ : PEnv), wipeE ρ [] = ρ) ∧
  (∀ (ρ : PEnv) (v : Nat) (vs : List Nat), wipeE ρ (v :: vs) = (wipeE ρ vs).set v .no) ∧
  (∀ (i : Nat) (d : PV) (ρ : PEnv), gNm i d ρ = .ok (ρ.set i (.fr d))) ∧
  (∀ (n : Nat) (gs : List PV → PEnv → R PEnv) (ds : List PV) (ρ : PEnv), ds.length = n → gTupP n gs (.tup ds) ρ = gs ds ρ) ∧
  (∀ (ρ : PEnv), gsNil [] ρ = .ok ρ) ∧
  (∀ (ρ : PEnv) (g : DG) (gs : List PV → PEnv → R PEnv) (d : PV) (r : List PV), gsCons g gs (d :: r) ρ = gsR gs r (g d ρ)) ∧
  (∀ (ρ : PEnv) (gs : List PV → PEnv → R PEnv) (r : List PV), gsR gs r (.ok ρ) = gs r ρ) ∧
  (∀ (c n : Nat) (ds : List PV) (r : PEnv), dSelf c n (.sf c ds :: r) = .ofOpt ds[n]?) ∧
  (∀ (α β : Type) (a : α) (f : α → R β), (R.ok a).bind f = f a) ∧
  (∀ (α β : Type) (c : Nat) (fs : List PV) (f : α → R β), (R.ex c fs : R α).bind f = .ex c fs) ∧
  (∀ (α : Type) (a : α), R.ofOpt (some a) = .ok a) ∧
  (∀ (b : Bool), asBl (.bl b) = .ok b) ∧
  (∀ (b : Bool), truthP (.bl b) = .ok b) ∧
  (∀ (xs : List PV), truthP (.lst xs) = .ok (!xs.isEmpty)) ∧
  (∀ (xs : List PV), truthP (.tup xs) = .ok (!xs.isEmpty)) ∧
  (∀ (b : Bool), oNot (.bl b) = .ok (.bl (!b))) ∧
  (∀ (g : PV → R PV) (d : PV), f1 g [d] = g d) ∧
  (∀ (g : Int → Int → Int) (i j : Int), f2 g [.int i, .int j] = .ok (.int (g i j))) ∧
  (∀ (ρ : PEnv) (t : DT) (e : DE), oneR (.ok ρ) t e = oneT (t ρ) e ρ) ∧
  (∀ (ρ : PEnv) (e : DE), oneT (.ok true) e ρ = oneE (e ρ)) ∧
  (∀ (ρ : PEnv) (e : DE), oneT (.ok false) e ρ = .ok none) :=
  ⟨by intros; rfl,
  fun t c fs => by
  show (match t.lookup c with
    | some i => R.ofOpt fs[i]?
    | none => .bad) = _
  cases t.lookup c <;> rfl,
  by intros; rfl,
  by intros; rfl,
  by intros; rfl,
  by intros; rfl,
  by intros; rfl,
  by intros; rfl,
  by intros; rfl,
  by intros; rfl,
  by intros; rfl,
  by intros; rfl,
  by intros; rfl,
  by intros; rfl,
  by intros; rfl,
  by intros; rfl,
  by intros; rfl,
  by intros; rfl,
  by intros; rfl,
  by intros; rfl,
  by intros; rfl,
  by intros; rfl,
  fun n gs ds ρ h => if_pos h,
  by intros; rfl,
  by intros; rfl,
  by intros; rfl,
  fun c n ds r => if_pos rfl,
  by intros; rfl,
  by intros; rfl,
  by intros; rfl,
  by intros; rfl,
  by intros; rfl,
  by intros; rfl,
  by intros; rfl,
  by intros; rfl,
  by intros; rfl,
  by intros; rfl,
  by intros; rfl,
  by intros; rfl,
  by intros; rfl⟩

theorem EV6 : (∀ (d : PV), oneE (.ok d) = .ok (some d)) ∧
  (∀ (K : PV → Prop) (E : Nat → List PV → Prop) (d : PV), (Po.fn K E).rt d = K d) ∧
  (∀ (K : PV → Prop) (E : Nat → List PV → Prop) (ρ : PEnv), (Po.fn K E).nx ρ = K .non) ∧
  (∀ (K : PV → Prop) (E : Nat → List PV → Prop) (c : Nat) (fs : List PV) (ρ : PEnv), (Po.fn K E).ex c fs ρ = E c fs) ∧
  (∀ (K : List PV → Prop) (E : Nat → List PV → Prop) (c : Nat) (ds : List PV) (ρ : PEnv), (Po.ini K E).nx (.sf c ds :: ρ) = K ds) ∧
  (∀ (K : List PV → Prop) (E : Nat → List PV → Prop) (c : Nat) (fs : List PV) (ρ : PEnv), (Po.ini K E).ex c fs ρ = E c fs) ∧
  (∀ (P : Po) (ss : List DS) (I : PEnv → Prop) (ρ : PEnv), (P.turn ss I).nx ρ = I ρ) ∧
  (∀ (P : Po) (ss : List DS) (I : PEnv → Prop) (ρ : PEnv), (P.turn ss I).ct ρ = I ρ) ∧
  (∀ (P : Po) (ss : List DS) (I : PEnv → Prop) (ρ : PEnv), (P.turn ss I).bk ρ = Run P ss ρ) ∧
  (∀ (P : Po) (ss : List DS) (I : PEnv → Prop) (d : PV), (P.turn ss I).rt d = P.rt d) ∧
  (∀ (P : Po) (ss : List DS) (I : PEnv → Prop) (c : Nat) (fs : List PV) (ρ : PEnv), (P.turn ss I).ex c fs ρ = P.ex c fs ρ) ∧
  (∀ (P : Po) (ss : List DS) (I : PEnv → Prop) (ρ : PEnv), (P.aft ss I).nx ρ = I ρ) ∧
  (∀ (P : Po) (ss : List DS) (I : PEnv → Prop) (ρ : PEnv), (P.aft ss I).bk ρ = P.bk ρ) ∧
  (∀ (P : Po) (ss : List DS) (I : PEnv → Prop) (ρ : PEnv), (P.aft ss I).ct ρ = P.ct ρ) ∧
  (∀ (P : Po) (ss : List DS) (I : PEnv → Prop) (d : PV), (P.aft ss I).rt d = P.rt d) ∧
  (∀ (P : Po) (ss : List DS) (I : PEnv → Prop) (c : Nat) (fs : List PV) (ρ : PEnv), (P.aft ss I).ex c fs ρ = P.ex c fs ρ) ∧
  (∀ (i j : Int), oAdd (.int i) (.int j) = .ok (.int (i + j))) ∧
  (∀ (i j : Int), oAddI (.int i) (.int j) = .ok (.int (i + j))) ∧
  (∀ (i j : Int), oSub (.int i) (.int j) = .ok (.int (i - j))) ∧
  (∀ (i j : Int), oLt (.int i) (.int j) = .ok (.bl (decide (i < j)))) ∧
  (∀ (i j : Int), oLe (.int i) (.int j) = .ok (.bl (decide (i ≤ j)))) ∧
  (∀ (i j : Int), oGt (.int i) (.int j) = .ok (.bl (decide (j < i)))) ∧
  (∀ (i j : Int), oGe (.int i) (.int j) = .ok (.bl (decide (j ≤ i)))) ∧
  (∀ (i j : Int), oEq (.int i) (.int j) = .ok (.bl (decide (i = j)))) ∧
  (∀ (i j : Int), oNe (.int i) (.int j) = .ok (.bl (!decide (i = j)))) ∧
  (∀ (x : Int) (k : Nat), oMod (.int x) (.int (2 ^ k)) = .ok (.int (x % 2 ^ k))) ∧
  (∀ (x : Int) (k : Nat), oMod (.int x) (.int ((2 ^ k : Nat) : Int)) = .ok (.int (x % 2 ^ k))) ∧
  (∀ i j : Int, j ≠ 0 → oMod (.int i) (.int j) = .ok (.int (i.fmod j))) ∧
  (∀ i j : Int, -18446744073709551616 < j → j < 18446744073709551616 → oMul (.int i) (.int j) = .ok (.int (i * j))) ∧
  (∀ i j : Int, -18446744073709551616 < i → i < 18446744073709551616 → oMul (.int i) (.int j) = .ok (.int (i * j))) ∧
  (∀ i : Int, ∀ k : Nat, oShr (.int i) (.int (k : Nat)) = .ok (.int (i / 2 ^ k))) ∧
  (∀ k : Nat, k ≤ 1000000 → oShl (.int 1) (.int (k : Nat)) = .ok (.int (2 ^ k))) ∧
  (∀ i : Int, oAnd (.int i) (.int 1) = .ok (.int (i % 2))) ∧
  (∀ (i : Int), oInt (.int i) = .ok (.int i)) ∧
  (∀ b : Bool, oInt (.bl b) = .ok (.int ((b.toNat : Nat) : Int))) ∧
  (∀ (i : Int), oNeg (.int i) = .ok (.int (-i))) ∧
  (oPow (.int 10) (.int 18) = .ok (.int 1000000000000000000)) ∧
  (∀ (xs : List PV), oTuple (.lst xs) = .ok (.tup xs)) ∧
  (∀ (xs : List PV), oTuple (.tup xs) = .ok (.tup xs)) ∧
  (∀ (xs : List PV), oList (.lst xs) = .ok (.lst xs)) :=
  ⟨by intros; rfl,
  by intros; rfl,
  by intros; rfl,
  by intros; rfl,
  fun K E c ds ρ => propext ⟨fun ⟨_, _, _, e, h⟩ => by cases e; exact h, fun h => ⟨_, _, _, rfl, h⟩⟩,
  by intros; rfl,
  by intros; rfl,
  by intros; rfl,
  by intros; rfl,
  by intros; rfl,
  by intros; rfl,
  by intros; rfl,
  by intros; rfl,
  by intros; rfl,
  by intros; rfl,
  by intros; rfl,
  by intros; rfl,
  by intros; rfl,
  by intros; rfl,
  by intros; rfl,
  by intros; rfl,
  by intros; rfl,
  by intros; rfl,
  by intros; rfl,
  by intros; rfl,
  mod_pow,
  mod_powN,
  fun _ _ h => oMod_ok h,
  fun _ _ h h2 => oMul_ok (mulC_r h h2),
  fun _ _ h h2 => oMul_ok (mulC_l h h2),
  fun i k => by rw [oShr_ok (Int.natCast_nonneg k)]; rfl,
  fun k h => by rw [oShl_ok (Int.natCast_nonneg k) (by decide) (by omega), Int.one_mul]; rfl,
  fun _ => oAnd_one,
  by intros; rfl,
  fun b => by cases b <;> rfl,
  by intros; rfl,
  oPow_10_18,
  by intros; rfl,
  by intros; rfl,
  by intros; rfl⟩

theorem EV7 : (∀ (xs : List PV), oList (.tup xs) = .ok (.lst xs)) ∧
  (∀ ns : List Int, oSum (.lst (ns.map PV.int)) = .ok (.int ns.sum)) ∧
  (∀ ns : List Bool, oAll (.lst (ns.map PV.bl)) = .ok (.bl (ns.all id))) ∧
  (∀ xs ys : List PV, xs.length + ys.length ≤ 1000000 → oAdd (.lst xs) (.lst ys) = .ok (.lst (xs ++ ys))) ∧
  (∀ xs ys : List PV, xs.length + ys.length ≤ 1000000 → oAdd (.tup xs) (.tup ys) = .ok (.tup (xs ++ ys))) ∧
  (∀ ds : List PV, ds.length ≤ 1000000 → capT (.ok ds) = .ok (.tup ds)) ∧
  (∀ ds : List PV, ds.length ≤ 1000000 → capL (.ok ds) = .ok (.lst ds)) ∧
  (oIs .non .non = .ok (.bl true)) ∧
  (∀ (a : Int), oIs (.int a) .non = .ok (.bl false)) ∧
  (∀ (a : List PV), oIs (.tup a) .non = .ok (.bl false)) ∧
  (∀ (a : List PV), oIs (.lst a) .non = .ok (.bl false)) ∧
  (∀ (a : Bool), oIs (.bl a) .non = .ok (.bl false)) ∧
  (∀ (c : Nat) (a : List PV), oIs (.obj c a) .non = .ok (.bl false)) ∧
  (∀ (a b : Bool), oIs (.bl a) (.bl b) = .ok (.bl (decide (a = b)))) ∧
  (∀ (a b : Bool), oIsNot (.bl a) (.bl b) = .ok (.bl (!decide (a = b)))) ∧
  (∀ (a b : Bool), oEq (.bl a) (.bl b) = .ok (.bl (decide (a = b)))) ∧
  (∀ (a b : Bool), oNe (.bl a) (.bl b) = .ok (.bl (!decide (a = b)))) ∧
  (∀ (a b : Str), oEq (.str a) (.str b) = .ok (.bl (decide (a = b)))) ∧
  (∀ (a b : Str), oNe (.str a) (.str b) = .ok (.bl (!decide (a = b)))) ∧
  (∀ (α : Type) (xs : List α) (n : Nat), atI xs ((n : Nat) : Int) = xs[n]?) ∧
  (∀ (α : Type) (xs : List α), atI xs 0 = xs[0]?) ∧
  (∀ (α : Type) (xs : List α), atI xs 1 = xs[1]?) ∧
  (∀ (α : Type) (xs : List α), atI xs 2 = xs[2]?) ∧
  (∀ (α : Type) (xs : List α), atI xs 3 = xs[3]?) ∧
  (∀ (α : Type) (xs : List α), atI xs 4 = xs[4]?) ∧
  (∀ (α : Type) (xs : List α), atI xs 5 = xs[5]?) ∧
  (∀ (α : Type) (xs : List α), atI xs 6 = xs[6]?) ∧
  (∀ (α : Type) (xs : List α), atI xs 7 = xs[7]?) ∧
  (∀ (α : Type) (xs : List α), atI xs 8 = xs[8]?) ∧
  (∀ (α : Type) (xs : List α), atI xs 9 = xs[9]?) ∧
  (∀ (α : Type) (xs : List α), atI xs 10 = xs[10]?) ∧
  (∀ (α : Type) (xs : List α), atI xs 11 = xs[11]?) ∧
  (∀ (α : Type) (xs : List α), atI xs 12 = xs[12]?) ∧
  (∀ (α : Type) (xs : List α), atI xs 13 = xs[13]?) ∧
  (∀ (α : Type) (xs : List α), atI xs 14 = xs[14]?) ∧
  (∀ (α : Type) (xs : List α), atI xs 15 = xs[15]?) ∧
  (∀ (α : Type) (xs : List α), atI xs 16 = xs[16]?) ∧
  (∀ (α : Type) (xs : List α), atI xs 17 = xs[17]?) ∧
  (∀ (α : Type) (xs : List α), atI xs 18 = xs[18]?) ∧
  (∀ (α : Type) (xs : List α), atI xs 19 = xs[19]?) :=
  ⟨by intros; rfl,
  fun _ => oSum_ints,
  fun _ => oAll_bls,
  fun _ _ h => oCat_ok h,
  fun _ _ h => oCatT_ok h,
  fun ds h => if_pos (show ds.length ≤ cap from Nat.le_trans h (by decide)),
  fun ds h => if_pos (show ds.length ≤ cap from Nat.le_trans h (by decide)),
  rfl,
  by intros; rfl,
  by intros; rfl,
  by intros; rfl,
  by intros; rfl,
  by intros; rfl,
  by intros; rfl,
  by intros; rfl,
  by intros; rfl,
  by intros; rfl,
  by intros; rfl,
  by intros; rfl,
  fun α xs n => by
  by_cases h : n < xs.length
  · exact PP.atI_nat h
  · rw [List.getElem?_eq_none (by omega)]
    unfold L2.atI L2.ixN
    rw [if_pos (Int.natCast_nonneg n), if_neg (by omega)]
    rfl,
  fun α xs => at_lit xs 0,
  fun α xs => at_lit xs 1,
  fun α xs => at_lit xs 2,
  fun α xs => at_lit xs 3,
  fun α xs => at_lit xs 4,
  fun α xs => at_lit xs 5,
  fun α xs => at_lit xs 6,
  fun α xs => at_lit xs 7,
  fun α xs => at_lit xs 8,
  fun α xs => at_lit xs 9,
  fun α xs => at_lit xs 10,
  fun α xs => at_lit xs 11,
  fun α xs => at_lit xs 12,
  fun α xs => at_lit xs 13,
  fun α xs => at_lit xs 14,
  fun α xs => at_lit xs 15,
  fun α xs => at_lit xs 16,
  fun α xs => at_lit xs 17,
  fun α xs => at_lit xs 18,
  fun α xs => at_lit xs 19⟩

theorem EV8 : (∀ (α : Type) (xs : List α), atI xs 20 = xs[20]?) ∧
  (∀ (α : Type) (xs : List α), atI xs 21 = xs[21]?) ∧
  (∀ (α : Type) (xs : List α), atI xs 22 = xs[22]?) ∧
  (∀ (α : Type) (xs : List α), atI xs 23 = xs[23]?) ∧
  (∀ (α : Type) (xs : List α), atI xs 24 = xs[24]?) ∧
  (∀ (α : Type) (xs : List α), atI xs 25 = xs[25]?) ∧
  (∀ (α : Type) (xs : List α), atI xs 26 = xs[26]?) ∧
  (∀ (α : Type) (xs : List α), atI xs 27 = xs[27]?) ∧
  (∀ (α : Type) (xs : List α), atI xs 28 = xs[28]?) ∧
  (∀ (α : Type) (xs : List α), atI xs 29 = xs[29]?) ∧
  (∀ (α : Type) (xs : List α), atI xs 30 = xs[30]?) ∧
  (∀ (α : Type) (xs : List α), atI xs 31 = xs[31]?) ∧
  (∀ (α : Type) (x0 : α) (l : List α), (x0 :: l)[0]? = some x0) ∧
  (∀ (α : Type) (x0 v : α) (l : List α), (x0 :: l).set 0 v = v :: l) ∧
  (∀ (α : Type) (x0 x1 : α) (l : List α), (x0 :: x1 :: l)[1]? = some x1) ∧
  (∀ (α : Type) (x0 x1 v : α) (l : List α), (x0 :: x1 :: l).set 1 v = x0 :: v :: l) ∧
  (∀ (α : Type) (x0 x1 x2 : α) (l : List α), (x0 :: x1 :: x2 :: l)[2]? = some x2) ∧
  (∀ (α : Type) (x0 x1 x2 v : α) (l : List α), (x0 :: x1 :: x2 :: l).set 2 v = x0 :: x1 :: v :: l) ∧
  (∀ (α : Type) (x0 x1 x2 x3 : α) (l : List α), (x0 :: x1 :: x2 :: x3 :: l)[3]? = some x3) ∧
  (∀ (α : Type) (x0 x1 x2 x3 v : α) (l : List α), (x0 :: x1 :: x2 :: x3 :: l).set 3 v = x0 :: x1 :: x2 :: v :: l) ∧
  (∀ (α : Type) (x0 x1 x2 x3 x4 : α) (l : List α), (x0 :: x1 :: x2 :: x3 :: x4 :: l)[4]? = some x4) ∧
  (∀ (α : Type) (x0 x1 x2 x3 x4 v : α) (l : List α), (x0 :: x1 :: x2 :: x3 :: x4 :: l).set 4 v = x0 :: x1 :: x2 :: x3 :: v :: l) ∧
  (∀ (α : Type) (x0 x1 x2 x3 x4 x5 : α) (l : List α), (x0 :: x1 :: x2 :: x3 :: x4 :: x5 :: l)[5]? = some x5) ∧
  (∀ (α : Type) (x0 x1 x2 x3 x4 x5 v : α) (l : List α), (x0 :: x1 :: x2 :: x3 :: x4 :: x5 :: l).set 5 v = x0 :: x1 :: x2 :: x3 :: x4 :: v :: l) ∧
  (∀ (α : Type) (x0 x1 x2 x3 x4 x5 x6 : α) (l : List α), (x0 :: x1 :: x2 :: x3 :: x4 :: x5 :: x6 :: l)[6]? = some x6) ∧
  (∀ (α : Type) (x0 x1 x2 x3 x4 x5 x6 v : α) (l : List α), (x0 :: x1 :: x2 :: x3 :: x4 :: x5 :: x6 :: l).set 6 v = x0 :: x1 :: x2 :: x3 :: x4 :: x5 :: v :: l) ∧
  (∀ (α : Type) (x0 x1 x2 x3 x4 x5 x6 x7 : α) (l : List α), (x0 :: x1 :: x2 :: x3 :: x4 :: x5 :: x6 :: x7 :: l)[7]? = some x7) ∧
  (∀ (α : Type) (x0 x1 x2 x3 x4 x5 x6 x7 v : α) (l : List α), (x0 :: x1 :: x2 :: x3 :: x4 :: x5 :: x6 :: x7 :: l).set 7 v = x0 :: x1 :: x2 :: x3 :: x4 :: x5 :: x6 :: v :: l) ∧
  (∀ (α : Type) (x0 x1 x2 x3 x4 x5 x6 x7 x8 : α) (l : List α), (x0 :: x1 :: x2 :: x3 :: x4 :: x5 :: x6 :: x7 :: x8 :: l)[8]? = some x8) ∧
  (∀ (α : Type) (x0 x1 x2 x3 x4 x5 x6 x7 x8 v : α) (l : List α), (x0 :: x1 :: x2 :: x3 :: x4 :: x5 :: x6 :: x7 :: x8 :: l).set 8 v = x0 :: x1 :: x2 :: x3 :: x4 :: x5 :: x6 :: x7 :: v :: l) ∧
  (∀ (α : Type) (x0 x1 x2 x3 x4 x5 x6 x7 x8 x9 : α) (l : List α), (x0 :: x1 :: x2 :: x3 :: x4 :: x5 :: x6 :: x7 :: x8 :: x9 :: l)[9]? = some x9) ∧
  (∀ (α : Type) (x0 x1 x2 x3 x4 x5 x6 x7 x8 x9 v : α) (l : List α), (x0 :: x1 :: x2 :: x3 :: x4 :: x5 :: x6 :: x7 :: x8 :: x9 :: l).set 9 v = x0 :: x1 :: x2 :: x3 :: x4 :: x5 :: x6 :: x7 :: x8 :: v :: l) ∧
  (∀ (α : Type) (x0 x1 x2 x3 x4 x5 x6 x7 x8 x9 x10 : α) (l : List α), (x0 :: x1 :: x2 :: x3 :: x4 :: x5 :: x6 :: x7 :: x8 :: x9 :: x10 :: l)[10]? = some x10) ∧
  (∀ (α : Type) (x0 x1 x2 x3 x4 x5 x6 x7 x8 x9 x10 v : α) (l : List α), (x0 :: x1 :: x2 :: x3 :: x4 :: x5 :: x6 :: x7 :: x8 :: x9 :: x10 :: l).set 10 v = x0 :: x1 :: x2 :: x3 :: x4 :: x5 :: x6 :: x7 :: x8 :: x9 :: v :: l) ∧
  (∀ (α : Type) (x0 x1 x2 x3 x4 x5 x6 x7 x8 x9 x10 x11 : α) (l : List α), (x0 :: x1 :: x2 :: x3 :: x4 :: x5 :: x6 :: x7 :: x8 :: x9 :: x10 :: x11 :: l)[11]? = some x11) ∧
  (∀ (α : Type) (x0 x1 x2 x3 x4 x5 x6 x7 x8 x9 x10 x11 v : α) (l : List α), (x0 :: x1 :: x2 :: x3 :: x4 :: x5 :: x6 :: x7 :: x8 :: x9 :: x10 :: x11 :: l).set 11 v = x0 :: x1 :: x2 :: x3 :: x4 :: x5 :: x6 :: x7 :: x8 :: x9 :: x10 :: v :: l) ∧
  (∀ (α : Type) (x0 x1 x2 x3 x4 x5 x6 x7 x8 x9 x10 x11 x12 : α) (l : List α), (x0 :: x1 :: x2 :: x3 :: x4 :: x5 :: x6 :: x7 :: x8 :: x9 :: x10 :: x11 :: x12 :: l)[12]? = some x12) ∧
  (∀ (α : Type) (x0 x1 x2 x3 x4 x5 x6 x7 x8 x9 x10 x11 x12 v : α) (l : List α), (x0 :: x1 :: x2 :: x3 :: x4 :: x5 :: x6 :: x7 :: x8 :: x9 :: x10 :: x11 :: x12 :: l).set 12 v = x0 :: x1 :: x2 :: x3 :: x4 :: x5 :: x6 :: x7 :: x8 :: x9 :: x10 :: x11 :: v :: l) ∧
  (∀ (α : Type) (x0 x1 x2 x3 x4 x5 x6 x7 x8 x9 x10 x11 x12 x13 : α) (l : List α), (x0 :: x1 :: x2 :: x3 :: x4 :: x5 :: x6 :: x7 :: x8 :: x9 :: x10 :: x11 :: x12 :: x13 :: l)[13]? = some x13) ∧
  (∀ (α : Type) (x0 x1 x2 x3 x4 x5 x6 x7 x8 x9 x10 x11 x12 x13 v : α) (l : List α), (x0 :: x1 :: x2 :: x3 :: x4 :: x5 :: x6 :: x7 :: x8 :: x9 :: x10 :: x11 :: x12 :: x13 :: l).set 13 v = x0 :: x1 :: x2 :: x3 :: x4 :: x5 :: x6 :: x7 :: x8 :: x9 :: x10 :: x11 :: x12 :: v :: l) :=
  ⟨fun α xs => at_lit xs 20,
  fun α xs => at_lit xs 21,
  fun α xs => at_lit xs 22,
  fun α xs => at_lit xs 23,
  fun α xs => at_lit xs 24,
  fun α xs => at_lit xs 25,
  fun α xs => at_lit xs 26,
  fun α xs => at_lit xs 27,
  fun α xs => at_lit xs 28,
  fun α xs => at_lit xs 29,
  fun α xs => at_lit xs 30,
  fun α xs => at_lit xs 31,
  by intros; rfl,
  by intros; rfl,
  by intros; rfl,
  by intros; rfl,
  by intros; rfl,
  by intros; rfl,
  by intros; rfl,
  by intros; rfl,
  by intros; rfl,
  by intros; rfl,
  by intros; rfl,
  by intros; rfl,
  by intros; rfl,
  by intros; rfl,
  by intros; rfl,
  by intros; rfl,
  by intros; rfl,
  by intros; rfl,
  by intros; rfl,
  by intros; rfl,
  by intros; rfl,
  by intros; rfl,
  by intros; rfl,
  by intros; rfl,
  by intros; rfl,
  by intros; rfl,
  by intros; rfl,
  by intros; rfl⟩

theorem EV9 : (∀ (α : Type) (x0 x1 x2 x3 x4 x5 x6 x7 x8 x9 x10 x11 x12 x13 x14 : α) (l : List α), (x0 :: x1 :: x2 :: x3 :: x4 :: x5 :: x6 :: x7 :: x8 :: x9 :: x10 :: x11 :: x12 :: x13 :: x14 :: l)[14]? = some x14) ∧
  (∀ (α : Type) (x0 x1 x2 x3 x4 x5 x6 x7 x8 x9 x10 x11 x12 x13 x14 v : α) (l : List α), (x0 :: x1 :: x2 :: x3 :: x4 :: x5 :: x6 :: x7 :: x8 :: x9 :: x10 :: x11 :: x12 :: x13 :: x14 :: l).set 14 v = x0 :: x1 :: x2 :: x3 :: x4 :: x5 :: x6 :: x7 :: x8 :: x9 :: x10 :: x11 :: x12 :: x13 :: v :: l) ∧
  (∀ (α : Type) (x0 x1 x2 x3 x4 x5 x6 x7 x8 x9 x10 x11 x12 x13 x14 x15 : α) (l : List α), (x0 :: x1 :: x2 :: x3 :: x4 :: x5 :: x6 :: x7 :: x8 :: x9 :: x10 :: x11 :: x12 :: x13 :: x14 :: x15 :: l)[15]? = some x15) ∧
  (∀ (α : Type) (x0 x1 x2 x3 x4 x5 x6 x7 x8 x9 x10 x11 x12 x13 x14 x15 v : α) (l : List α), (x0 :: x1 :: x2 :: x3 :: x4 :: x5 :: x6 :: x7 :: x8 :: x9 :: x10 :: x11 :: x12 :: x13 :: x14 :: x15 :: l).set 15 v = x0 :: x1 :: x2 :: x3 :: x4 :: x5 :: x6 :: x7 :: x8 :: x9 :: x10 :: x11 :: x12 :: x13 :: x14 :: v :: l) ∧
  (∀ (α : Type) (x0 x1 x2 x3 x4 x5 x6 x7 x8 x9 x10 x11 x12 x13 x14 x15 x16 : α) (l : List α), (x0 :: x1 :: x2 :: x3 :: x4 :: x5 :: x6 :: x7 :: x8 :: x9 :: x10 :: x11 :: x12 :: x13 :: x14 :: x15 :: x16 :: l)[16]? = some x16) ∧
  (∀ (α : Type) (x0 x1 x2 x3 x4 x5 x6 x7 x8 x9 x10 x11 x12 x13 x14 x15 x16 v : α) (l : List α), (x0 :: x1 :: x2 :: x3 :: x4 :: x5 :: x6 :: x7 :: x8 :: x9 :: x10 :: x11 :: x12 :: x13 :: x14 :: x15 :: x16 :: l).set 16 v = x0 :: x1 :: x2 :: x3 :: x4 :: x5 :: x6 :: x7 :: x8 :: x9 :: x10 :: x11 :: x12 :: x13 :: x14 :: x15 :: v :: l) ∧
  (∀ (α : Type) (x0 x1 x2 x3 x4 x5 x6 x7 x8 x9 x10 x11 x12 x13 x14 x15 x16 x17 : α) (l : List α), (x0 :: x1 :: x2 :: x3 :: x4 :: x5 :: x6 :: x7 :: x8 :: x9 :: x10 :: x11 :: x12 :: x13 :: x14 :: x15 :: x16 :: x17 :: l)[17]? = some x17) ∧
  (∀ (α : Type) (x0 x1 x2 x3 x4 x5 x6 x7 x8 x9 x10 x11 x12 x13 x14 x15 x16 x17 v : α) (l : List α), (x0 :: x1 :: x2 :: x3 :: x4 :: x5 :: x6 :: x7 :: x8 :: x9 :: x10 :: x11 :: x12 :: x13 :: x14 :: x15 :: x16 :: x17 :: l).set 17 v = x0 :: x1 :: x2 :: x3 :: x4 :: x5 :: x6 :: x7 :: x8 :: x9 :: x10 :: x11 :: x12 :: x13 :: x14 :: x15 :: x16 :: v :: l) ∧
  (∀ (α : Type) (x0 x1 x2 x3 x4 x5 x6 x7 x8 x9 x10 x11 x12 x13 x14 x15 x16 x17 x18 : α) (l : List α), (x0 :: x1 :: x2 :: x3 :: x4 :: x5 :: x6 :: x7 :: x8 :: x9 :: x10 :: x11 :: x12 :: x13 :: x14 :: x15 :: x16 :: x17 :: x18 :: l)[18]? = some x18) ∧
  (∀ (α : Type) (x0 x1 x2 x3 x4 x5 x6 x7 x8 x9 x10 x11 x12 x13 x14 x15 x16 x17 x18 v : α) (l : List α), (x0 :: x1 :: x2 :: x3 :: x4 :: x5 :: x6 :: x7 :: x8 :: x9 :: x10 :: x11 :: x12 :: x13 :: x14 :: x15 :: x16 :: x17 :: x18 :: l).set 18 v = x0 :: x1 :: x2 :: x3 :: x4 :: x5 :: x6 :: x7 :: x8 :: x9 :: x10 :: x11 :: x12 :: x13 :: x14 :: x15 :: x16 :: x17 :: v :: l) ∧
  (∀ (α : Type) (x0 x1 x2 x3 x4 x5 x6 x7 x8 x9 x10 x11 x12 x13 x14 x15 x16 x17 x18 x19 : α) (l : List α), (x0 :: x1 :: x2 :: x3 :: x4 :: x5 :: x6 :: x7 :: x8 :: x9 :: x10 :: x11 :: x12 :: x13 :: x14 :: x15 :: x16 :: x17 :: x18 :: x19 :: l)[19]? = some x19) ∧
  (∀ (α : Type) (x0 x1 x2 x3 x4 x5 x6 x7 x8 x9 x10 x11 x12 x13 x14 x15 x16 x17 x18 x19 v : α) (l : List α), (x0 :: x1 :: x2 :: x3 :: x4 :: x5 :: x6 :: x7 :: x8 :: x9 :: x10 :: x11 :: x12 :: x13 :: x14 :: x15 :: x16 :: x17 :: x18 :: x19 :: l).set 19 v = x0 :: x1 :: x2 :: x3 :: x4 :: x5 :: x6 :: x7 :: x8 :: x9 :: x10 :: x11 :: x12 :: x13 :: x14 :: x15 :: x16 :: x17 :: x18 :: v :: l) ∧
  (∀ (α : Type) (x0 x1 x2 x3 x4 x5 x6 x7 x8 x9 x10 x11 x12 x13 x14 x15 x16 x17 x18 x19 x20 : α) (l : List α), (x0 :: x1 :: x2 :: x3 :: x4 :: x5 :: x6 :: x7 :: x8 :: x9 :: x10 :: x11 :: x12 :: x13 :: x14 :: x15 :: x16 :: x17 :: x18 :: x19 :: x20 :: l)[20]? = some x20) ∧
  (∀ (α : Type) (x0 x1 x2 x3 x4 x5 x6 x7 x8 x9 x10 x11 x12 x13 x14 x15 x16 x17 x18 x19 x20 v : α) (l : List α), (x0 :: x1 :: x2 :: x3 :: x4 :: x5 :: x6 :: x7 :: x8 :: x9 :: x10 :: x11 :: x12 :: x13 :: x14 :: x15 :: x16 :: x17 :: x18 :: x19 :: x20 :: l).set 20 v = x0 :: x1 :: x2 :: x3 :: x4 :: x5 :: x6 :: x7 :: x8 :: x9 :: x10 :: x11 :: x12 :: x13 :: x14 :: x15 :: x16 :: x17 :: x18 :: x19 :: v :: l) ∧
  (∀ (α : Type) (x0 x1 x2 x3 x4 x5 x6 x7 x8 x9 x10 x11 x12 x13 x14 x15 x16 x17 x18 x19 x20 x21 : α) (l : List α), (x0 :: x1 :: x2 :: x3 :: x4 :: x5 :: x6 :: x7 :: x8 :: x9 :: x10 :: x11 :: x12 :: x13 :: x14 :: x15 :: x16 :: x17 :: x18 :: x19 :: x20 :: x21 :: l)[21]? = some x21) ∧
  (∀ (α : Type) (x0 x1 x2 x3 x4 x5 x6 x7 x8 x9 x10 x11 x12 x13 x14 x15 x16 x17 x18 x19 x20 x21 v : α) (l : List α), (x0 :: x1 :: x2 :: x3 :: x4 :: x5 :: x6 :: x7 :: x8 :: x9 :: x10 :: x11 :: x12 :: x13 :: x14 :: x15 :: x16 :: x17 :: x18 :: x19 :: x20 :: x21 :: l).set 21 v = x0 :: x1 :: x2 :: x3 :: x4 :: x5 :: x6 :: x7 :: x8 :: x9 :: x10 :: x11 :: x12 :: x13 :: x14 :: x15 :: x16 :: x17 :: x18 :: x19 :: x20 :: v :: l) ∧
  (∀ (α : Type) (x0 x1 x2 x3 x4 x5 x6 x7 x8 x9 x10 x11 x12 x13 x14 x15 x16 x17 x18 x19 x20 x21 x22 : α) (l : List α), (x0 :: x1 :: x2 :: x3 :: x4 :: x5 :: x6 :: x7 :: x8 :: x9 :: x10 :: x11 :: x12 :: x13 :: x14 :: x15 :: x16 :: x17 :: x18 :: x19 :: x20 :: x21 :: x22 :: l)[22]? = some x22) ∧
  (∀ (α : Type) (x0 x1 x2 x3 x4 x5 x6 x7 x8 x9 x10 x11 x12 x13 x14 x15 x16 x17 x18 x19 x20 x21 x22 v : α) (l : List α), (x0 :: x1 :: x2 :: x3 :: x4 :: x5 :: x6 :: x7 :: x8 :: x9 :: x10 :: x11 :: x12 :: x13 :: x14 :: x15 :: x16 :: x17 :: x18 :: x19 :: x20 :: x21 :: x22 :: l).set 22 v = x0 :: x1 :: x2 :: x3 :: x4 :: x5 :: x6 :: x7 :: x8 :: x9 :: x10 :: x11 :: x12 :: x13 :: x14 :: x15 :: x16 :: x17 :: x18 :: x19 :: x20 :: x21 :: v :: l) ∧
  (∀ (α : Type) (x0 x1 x2 x3 x4 x5 x6 x7 x8 x9 x10 x11 x12 x13 x14 x15 x16 x17 x18 x19 x20 x21 x22 x23 : α) (l : List α), (x0 :: x1 :: x2 :: x3 :: x4 :: x5 :: x6 :: x7 :: x8 :: x9 :: x10 :: x11 :: x12 :: x13 :: x14 :: x15 :: x16 :: x17 :: x18 :: x19 :: x20 :: x21 :: x22 :: x23 :: l)[23]? = some x23) ∧
  (∀ (α : Type) (x0 x1 x2 x3 x4 x5 x6 x7 x8 x9 x10 x11 x12 x13 x14 x15 x16 x17 x18 x19 x20 x21 x22 x23 v : α) (l : List α), (x0 :: x1 :: x2 :: x3 :: x4 :: x5 :: x6 :: x7 :: x8 :: x9 :: x10 :: x11 :: x12 :: x13 :: x14 :: x15 :: x16 :: x17 :: x18 :: x19 :: x20 :: x21 :: x22 :: x23 :: l).set 23 v = x0 :: x1 :: x2 :: x3 :: x4 :: x5 :: x6 :: x7 :: x8 :: x9 :: x10 :: x11 :: x12 :: x13 :: x14 :: x15 :: x16 :: x17 :: x18 :: x19 :: x20 :: x21 :: x22 :: v :: l) ∧
  (∀ (α : Type) (x0 x1 x2 x3 x4 x5 x6 x7 x8 x9 x10 x11 x12 x13 x14 x15 x16 x17 x18 x19 x20 x21 x22 x23 x24 : α) (l : List α), (x0 :: x1 :: x2 :: x3 :: x4 :: x5 :: x6 :: x7 :: x8 :: x9 :: x10 :: x11 :: x12 :: x13 :: x14 :: x15 :: x16 :: x17 :: x18 :: x19 :: x20 :: x21 :: x22 :: x23 :: x24 :: l)[24]? = some x24) ∧
  (∀ (α : Type) (x0 x1 x2 x3 x4 x5 x6 x7 x8 x9 x10 x11 x12 x13 x14 x15 x16 x17 x18 x19 x20 x21 x22 x23 x24 v : α) (l : List α), (x0 :: x1 :: x2 :: x3 :: x4 :: x5 :: x6 :: x7 :: x8 :: x9 :: x10 :: x11 :: x12 :: x13 :: x14 :: x15 :: x16 :: x17 :: x18 :: x19 :: x20 :: x21 :: x22 :: x23 :: x24 :: l).set 24 v = x0 :: x1 :: x2 :: x3 :: x4 :: x5 :: x6 :: x7 :: x8 :: x9 :: x10 :: x11 :: x12 :: x13 :: x14 :: x15 :: x16 :: x17 :: x18 :: x19 :: x20 :: x21 :: x22 :: x23 :: v :: l) ∧
  (∀ (α : Type) (x0 x1 x2 x3 x4 x5 x6 x7 x8 x9 x10 x11 x12 x13 x14 x15 x16 x17 x18 x19 x20 x21 x22 x23 x24 x25 : α) (l : List α), (x0 :: x1 :: x2 :: x3 :: x4 :: x5 :: x6 :: x7 :: x8 :: x9 :: x10 :: x11 :: x12 :: x13 :: x14 :: x15 :: x16 :: x17 :: x18 :: x19 :: x20 :: x21 :: x22 :: x23 :: x24 :: x25 :: l)[25]? = some x25) ∧
  (∀ (α : Type) (x0 x1 x2 x3 x4 x5 x6 x7 x8 x9 x10 x11 x12 x13 x14 x15 x16 x17 x18 x19 x20 x21 x22 x23 x24 x25 v : α) (l : List α), (x0 :: x1 :: x2 :: x3 :: x4 :: x5 :: x6 :: x7 :: x8 :: x9 :: x10 :: x11 :: x12 :: x13 :: x14 :: x15 :: x16 :: x17 :: x18 :: x19 :: x20 :: x21 :: x22 :: x23 :: x24 :: x25 :: l).set 25 v = x0 :: x1 :: x2 :: x3 :: x4 :: x5 :: x6 :: x7 :: x8 :: x9 :: x10 :: x11 :: x12 :: x13 :: x14 :: x15 :: x16 :: x17 :: x18 :: x19 :: x20 :: x21 :: x22 :: x23 :: x24 :: v :: l) ∧
  (∀ (α : Type) (x0 x1 x2 x3 x4 x5 x6 x7 x8 x9 x10 x11 x12 x13 x14 x15 x16 x17 x18 x19 x20 x21 x22 x23 x24 x25 x26 : α) (l : List α), (x0 :: x1 :: x2 :: x3 :: x4 :: x5 :: x6 :: x7 :: x8 :: x9 :: x10 :: x11 :: x12 :: x13 :: x14 :: x15 :: x16 :: x17 :: x18 :: x19 :: x20 :: x21 :: x22 :: x23 :: x24 :: x25 :: x26 :: l)[26]? = some x26) ∧
  (∀ (α : Type) (x0 x1 x2 x3 x4 x5 x6 x7 x8 x9 x10 x11 x12 x13 x14 x15 x16 x17 x18 x19 x20 x21 x22 x23 x24 x25 x26 v : α) (l : List α), (x0 :: x1 :: x2 :: x3 :: x4 :: x5 :: x6 :: x7 :: x8 :: x9 :: x10 :: x11 :: x12 :: x13 :: x14 :: x15 :: x16 :: x17 :: x18 :: x19 :: x20 :: x21 :: x22 :: x23 :: x24 :: x25 :: x26 :: l).set 26 v = x0 :: x1 :: x2 :: x3 :: x4 :: x5 :: x6 :: x7 :: x8 :: x9 :: x10 :: x11 :: x12 :: x13 :: x14 :: x15 :: x16 :: x17 :: x18 :: x19 :: x20 :: x21 :: x22 :: x23 :: x24 :: x25 :: v :: l) ∧
  (∀ (α : Type) (x0 x1 x2 x3 x4 x5 x6 x7 x8 x9 x10 x11 x12 x13 x14 x15 x16 x17 x18 x19 x20 x21 x22 x23 x24 x25 x26 x27 : α) (l : List α), (x0 :: x1 :: x2 :: x3 :: x4 :: x5 :: x6 :: x7 :: x8 :: x9 :: x10 :: x11 :: x12 :: x13 :: x14 :: x15 :: x16 :: x17 :: x18 :: x19 :: x20 :: x21 :: x22 :: x23 :: x24 :: x25 :: x26 :: x27 :: l)[27]? = some x27) ∧
  (∀ (α : Type) (x0 x1 x2 x3 x4 x5 x6 x7 x8 x9 x10 x11 x12 x13 x14 x15 x16 x17 x18 x19 x20 x21 x22 x23 x24 x25 x26 x27 v : α) (l : List α), (x0 :: x1 :: x2 :: x3 :: x4 :: x5 :: x6 :: x7 :: x8 :: x9 :: x10 :: x11 :: x12 :: x13 :: x14 :: x15 :: x16 :: x17 :: x18 :: x19 :: x20 :: x21 :: x22 :: x23 :: x24 :: x25 :: x26 :: x27 :: l).set 27 v = x0 :: x1 :: x2 :: x3 :: x4 :: x5 :: x6 :: x7 :: x8 :: x9 :: x10 :: x11 :: x12 :: x13 :: x14 :: x15 :: x16 :: x17 :: x18 :: x19 :: x20 :: x21 :: x22 :: x23 :: x24 :: x25 :: x26 :: v :: l) ∧
  (∀ (α : Type) (x0 x1 x2 x3 x4 x5 x6 x7 x8 x9 x10 x11 x12 x13 x14 x15 x16 x17 x18 x19 x20 x21 x22 x23 x24 x25 x26 x27 x28 : α) (l : List α), (x0 :: x1 :: x2 :: x3 :: x4 :: x5 :: x6 :: x7 :: x8 :: x9 :: x10 :: x11 :: x12 :: x13 :: x14 :: x15 :: x16 :: x17 :: x18 :: x19 :: x20 :: x21 :: x22 :: x23 :: x24 :: x25 :: x26 :: x27 :: x28 :: l)[28]? = some x28) ∧
  (∀ (α : Type) (x0 x1 x2 x3 x4 x5 x6 x7 x8 x9 x10 x11 x12 x13 x14 x15 x16 x17 x18 x19 x20 x21 x22 x23 x24 x25 x26 x27 x28 v : α) (l : List α), (x0 :: x1 :: x2 :: x3 :: x4 :: x5 :: x6 :: x7 :: x8 :: x9 :: x10 :: x11 :: x12 :: x13 :: x14 :: x15 :: x16 :: x17 :: x18 :: x19 :: x20 :: x21 :: x22 :: x23 :: x24 :: x25 :: x26 :: x27 :: x28 :: l).set 28 v = x0 :: x1 :: x2 :: x3 :: x4 :: x5 :: x6 :: x7 :: x8 :: x9 :: x10 :: x11 :: x12 :: x13 :: x14 :: x15 :: x16 :: x17 :: x18 :: x19 :: x20 :: x21 :: x22 :: x23 :: x24 :: x25 :: x26 :: x27 :: v :: l) ∧
  (∀ (α : Type) (x0 x1 x2 x3 x4 x5 x6 x7 x8 x9 x10 x11 x12 x13 x14 x15 x16 x17 x18 x19 x20 x21 x22 x23 x24 x25 x26 x27 x28 x29 : α) (l : List α), (x0 :: x1 :: x2 :: x3 :: x4 :: x5 :: x6 :: x7 :: x8 :: x9 :: x10 :: x11 :: x12 :: x13 :: x14 :: x15 :: x16 :: x17 :: x18 :: x19 :: x20 :: x21 :: x22 :: x23 :: x24 :: x25 :: x26 :: x27 :: x28 :: x29 :: l)[29]? = some x29) ∧
  (∀ (α : Type) (x0 x1 x2 x3 x4 x5 x6 x7 x8 x9 x10 x11 x12 x13 x14 x15 x16 x17 x18 x19 x20 x21 x22 x23 x24 x25 x26 x27 x28 x29 v : α) (l : List α), (x0 :: x1 :: x2 :: x3 :: x4 :: x5 :: x6 :: x7 :: x8 :: x9 :: x10 :: x11 :: x12 :: x13 :: x14 :: x15 :: x16 :: x17 :: x18 :: x19 :: x20 :: x21 :: x22 :: x23 :: x24 :: x25 :: x26 :: x27 :: x28 :: x29 :: l).set 29 v = x0 :: x1 :: x2 :: x3 :: x4 :: x5 :: x6 :: x7 :: x8 :: x9 :: x10 :: x11 :: x12 :: x13 :: x14 :: x15 :: x16 :: x17 :: x18 :: x19 :: x20 :: x21 :: x22 :: x23 :: x24 :: x25 :: x26 :: x27 :: x28 :: v :: l) ∧
  (∀ (α : Type) (x0 x1 x2 x3 x4 x5 x6 x7 x8 x9 x10 x11 x12 x13 x14 x15 x16 x17 x18 x19 x20 x21 x22 x23 x24 x25 x26 x27 x28 x29 x30 : α) (l : List α), (x0 :: x1 :: x2 :: x3 :: x4 :: x5 :: x6 :: x7 :: x8 :: x9 :: x10 :: x11 :: x12 :: x13 :: x14 :: x15 :: x16 :: x17 :: x18 :: x19 :: x20 :: x21 :: x22 :: x23 :: x24 :: x25 :: x26 :: x27 :: x28 :: x29 :: x30 :: l)[30]? = some x30) ∧
  (∀ (α : Type) (x0 x1 x2 x3 x4 x5 x6 x7 x8 x9 x10 x11 x12 x13 x14 x15 x16 x17 x18 x19 x20 x21 x22 x23 x24 x25 x26 x27 x28 x29 x30 v : α) (l : List α), (x0 :: x1 :: x2 :: x3 :: x4 :: x5 :: x6 :: x7 :: x8 :: x9 :: x10 :: x11 :: x12 :: x13 :: x14 :: x15 :: x16 :: x17 :: x18 :: x19 :: x20 :: x21 :: x22 :: x23 :: x24 :: x25 :: x26 :: x27 :: x28 :: x29 :: x30 :: l).set 30 v = x0 :: x1 :: x2 :: x3 :: x4 :: x5 :: x6 :: x7 :: x8 :: x9 :: x10 :: x11 :: x12 :: x13 :: x14 :: x15 :: x16 :: x17 :: x18 :: x19 :: x20 :: x21 :: x22 :: x23 :: x24 :: x25 :: x26 :: x27 :: x28 :: x29 :: v :: l) ∧
  (∀ (α : Type) (x0 x1 x2 x3 x4 x5 x6 x7 x8 x9 x10 x11 x12 x13 x14 x15 x16 x17 x18 x19 x20 x21 x22 x23 x24 x25 x26 x27 x28 x29 x30 x31 : α) (l : List α), (x0 :: x1 :: x2 :: x3 :: x4 :: x5 :: x6 :: x7 :: x8 :: x9 :: x10 :: x11 :: x12 :: x13 :: x14 :: x15 :: x16 :: x17 :: x18 :: x19 :: x20 :: x21 :: x22 :: x23 :: x24 :: x25 :: x26 :: x27 :: x28 :: x29 :: x30 :: x31 :: l)[31]? = some x31) ∧
  (∀ (α : Type) (x0 x1 x2 x3 x4 x5 x6 x7 x8 x9 x10 x11 x12 x13 x14 x15 x16 x17 x18 x19 x20 x21 x22 x23 x24 x25 x26 x27 x28 x29 x30 x31 v : α) (l : List α), (x0 :: x1 :: x2 :: x3 :: x4 :: x5 :: x6 :: x7 :: x8 :: x9 :: x10 :: x11 :: x12 :: x13 :: x14 :: x15 :: x16 :: x17 :: x18 :: x19 :: x20 :: x21 :: x22 :: x23 :: x24 :: x25 :: x26 :: x27 :: x28 :: x29 :: x30 :: x31 :: l).set 31 v = x0 :: x1 :: x2 :: x3 :: x4 :: x5 :: x6 :: x7 :: x8 :: x9 :: x10 :: x11 :: x12 :: x13 :: x14 :: x15 :: x16 :: x17 :: x18 :: x19 :: x20 :: x21 :: x22 :: x23 :: x24 :: x25 :: x26 :: x27 :: x28 :: x29 :: x30 :: v :: l) ∧
  (∀ i a0 : Int, oIn (.int i) (.lst [.int a0]) = .ok (.bl (decide (i = a0)))) ∧
  (∀ i a0 : Str, oIn (.str i) (.lst [.str a0]) = .ok (.bl (decide (i = a0)))) ∧
  (∀ i a0 a1 : Int, oIn (.int i) (.lst [.int a0, .int a1]) = .ok (.bl (decide (i = a0) || decide (i = a1)))) ∧
  (∀ i a0 a1 : Str, oIn (.str i) (.lst [.str a0, .str a1]) = .ok (.bl (decide (i = a0) || decide (i = a1)))) :=
  ⟨by intros; rfl,
  by intros; rfl,
  by intros; rfl,
  by intros; rfl,
  by intros; rfl,
  by intros; rfl,
  by intros; rfl,
  by intros; rfl,
  by intros; rfl,
  by intros; rfl,
  by intros; rfl,
  by intros; rfl,
  by intros; rfl,
  by intros; rfl,
  by intros; rfl,
  by intros; rfl,
  by intros; rfl,
  by intros; rfl,
  by intros; rfl,
  by intros; rfl,
  by intros; rfl,
  by intros; rfl,
  by intros; rfl,
  by intros; rfl,
  by intros; rfl,
  by intros; rfl,
  by intros; rfl,
  by intros; rfl,
  by intros; rfl,
  by intros; rfl,
  by intros; rfl,
  by intros; rfl,
  by intros; rfl,
  by intros; rfl,
  by intros; rfl,
  by intros; rfl,
  fun i a0 => by rw [in_lst (fun y _ => rfl) (show flatP (.int i) = true from rfl) (by rfl)]; simp [eqF, eq_comm, Bool.or_assoc, Bool.beq_eq_decide_eq],
  fun i a0 => by rw [in_lst (fun y _ => rfl) (show flatP (.str i) = true from rfl) (by rfl)]; simp [eqF, eq_comm, Bool.or_assoc, Bool.beq_eq_decide_eq],
  fun i a0 a1 => by rw [in_lst (fun y _ => rfl) (show flatP (.int i) = true from rfl) (by rfl)]; simp [eqF, eq_comm, Bool.or_assoc, Bool.beq_eq_decide_eq],
  fun i a0 a1 => by rw [in_lst (fun y _ => rfl) (show flatP (.str i) = true from rfl) (by rfl)]; simp [eqF, eq_comm, Bool.or_assoc, Bool.beq_eq_decide_eq]⟩

theorem EV10 : (∀ i a0 a1 a2 : Int, oIn (.int i) (.lst [.int a0, .int a1, .int a2]) = .ok (.bl (decide (i = a0) || decide (i = a1) || decide (i = a2)))) ∧
  (∀ i a0 a1 a2 : Str, oIn (.str i) (.lst [.str a0, .str a1, .str a2]) = .ok (.bl (decide (i = a0) || decide (i = a1) || decide (i = a2)))) ∧
  (∀ i a0 a1 a2 a3 : Int, oIn (.int i) (.lst [.int a0, .int a1, .int a2, .int a3]) = .ok (.bl (decide (i = a0) || decide (i = a1) || decide (i = a2) || decide (i = a3)))) ∧
  (∀ i a0 a1 a2 a3 : Str, oIn (.str i) (.lst [.str a0, .str a1, .str a2, .str a3]) = .ok (.bl (decide (i = a0) || decide (i = a1) || decide (i = a2) || decide (i = a3)))) ∧
  (∀ i a0 a1 a2 a3 a4 : Int, oIn (.int i) (.lst [.int a0, .int a1, .int a2, .int a3, .int a4]) = .ok (.bl (decide (i = a0) || decide (i = a1) || decide (i = a2) || decide (i = a3) || decide (i = a4)))) ∧
  (∀ i a0 a1 a2 a3 a4 : Str, oIn (.str i) (.lst [.str a0, .str a1, .str a2, .str a3, .str a4]) = .ok (.bl (decide (i = a0) || decide (i = a1) || decide (i = a2) || decide (i = a3) || decide (i = a4)))) ∧
  (∀ i a0 a1 a2 a3 a4 a5 : Int, oIn (.int i) (.lst [.int a0, .int a1, .int a2, .int a3, .int a4, .int a5]) = .ok (.bl (decide (i = a0) || decide (i = a1) || decide (i = a2) || decide (i = a3) || decide (i = a4) || decide (i = a5)))) ∧
  (∀ i a0 a1 a2 a3 a4 a5 : Str, oIn (.str i) (.lst [.str a0, .str a1, .str a2, .str a3, .str a4, .str a5]) = .ok (.bl (decide (i = a0) || decide (i = a1) || decide (i = a2) || decide (i = a3) || decide (i = a4) || decide (i = a5)))) ∧
  (∀ i a0 : Int, oIn (.int i) (.tup [.int a0]) = .ok (.bl (decide (i = a0)))) ∧
  (∀ i a0 : Str, oIn (.str i) (.tup [.str a0]) = .ok (.bl (decide (i = a0)))) ∧
  (∀ i a0 a1 : Int, oIn (.int i) (.tup [.int a0, .int a1]) = .ok (.bl (decide (i = a0) || decide (i = a1)))) ∧
  (∀ i a0 a1 : Str, oIn (.str i) (.tup [.str a0, .str a1]) = .ok (.bl (decide (i = a0) || decide (i = a1)))) ∧
  (∀ i a0 a1 a2 : Int, oIn (.int i) (.tup [.int a0, .int a1, .int a2]) = .ok (.bl (decide (i = a0) || decide (i = a1) || decide (i = a2)))) ∧
  (∀ i a0 a1 a2 : Str, oIn (.str i) (.tup [.str a0, .str a1, .str a2]) = .ok (.bl (decide (i = a0) || decide (i = a1) || decide (i = a2)))) ∧
  (∀ i a0 a1 a2 a3 : Int, oIn (.int i) (.tup [.int a0, .int a1, .int a2, .int a3]) = .ok (.bl (decide (i = a0) || decide (i = a1) || decide (i = a2) || decide (i = a3)))) ∧
  (∀ i a0 a1 a2 a3 : Str, oIn (.str i) (.tup [.str a0, .str a1, .str a2, .str a3]) = .ok (.bl (decide (i = a0) || decide (i = a1) || decide (i = a2) || decide (i = a3)))) ∧
  (∀ i a0 a1 a2 a3 a4 : Int, oIn (.int i) (.tup [.int a0, .int a1, .int a2, .int a3, .int a4]) = .ok (.bl (decide (i = a0) || decide (i = a1) || decide (i = a2) || decide (i = a3) || decide (i = a4)))) ∧
  (∀ i a0 a1 a2 a3 a4 : Str, oIn (.str i) (.tup [.str a0, .str a1, .str a2, .str a3, .str a4]) = .ok (.bl (decide (i = a0) || decide (i = a1) || decide (i = a2) || decide (i = a3) || decide (i = a4)))) ∧
  (∀ i a0 a1 a2 a3 a4 a5 : Int, oIn (.int i) (.tup [.int a0, .int a1, .int a2, .int a3, .int a4, .int a5]) = .ok (.bl (decide (i = a0) || decide (i = a1) || decide (i = a2) || decide (i = a3) || decide (i = a4) || decide (i = a5)))) ∧
  (∀ i a0 a1 a2 a3 a4 a5 : Str, oIn (.str i) (.tup [.str a0, .str a1, .str a2, .str a3, .str a4, .str a5]) = .ok (.bl (decide (i = a0) || decide (i = a1) || decide (i = a2) || decide (i = a3) || decide (i = a4) || decide (i = a5)))) ∧
  (∀ (xs : List PV) (k : Nat), xs.length * k ≤ 1000000 → k ≤ 1000000 → oMul (.lst xs) (.int (k : Nat)) = .ok (.lst (rep xs k))) ∧
  (∀ (x : PV) (k : Nat), rep [x] k = List.replicate k x) ∧
  (∀ n : Nat, n ≤ 1000000000 → rng1R (.ok (.int (no_index (@OfNat.ofNat Int n (@instOfNat n))))) = .ok (rngP 0 (@OfNat.ofNat Nat n (instOfNatNat n)))) ∧
  (∀ a k : Nat, a < 1267650600228229401496703205376 → k ≤ 1000000 → oShl (.int (a : Nat)) (.int (k : Nat)) = .ok (.int ((a * 2 ^ k : Nat) : Int))) ∧
  (∀ xs : List PV, atI xs (-1) = xs[xs.length - 1]?) ∧
  (∀ (n : Nat) (k : Nat), n ≤ 1000000000 → k ≤ 1000000000 → rng2R (.ok (.int ((n : Nat) : Int))) (.ok (.int ((k : Nat) : Int))) = .ok (rngP ((n : Nat) : Int) (k - n))) ∧
  (∀ (n : Nat) (k : Nat), n ≤ 1000000000 → (@OfNat.ofNat Nat k (instOfNatNat k)) ≤ 1000000000 → rng2R (.ok (.int ((n : Nat) : Int))) (.ok (.int (no_index (@OfNat.ofNat Int k (@instOfNat k))))) = .ok (rngP ((n : Nat) : Int) ((@OfNat.ofNat Nat k (instOfNatNat k)) - n))) ∧
  (∀ (n : Nat) (k : Nat), (@OfNat.ofNat Nat n (instOfNatNat n)) ≤ 1000000000 → k ≤ 1000000000 → rng2R (.ok (.int (no_index (@OfNat.ofNat Int n (@instOfNat n))))) (.ok (.int ((k : Nat) : Int))) = .ok (rngP ((@OfNat.ofNat Int n (@instOfNat n))) (k - (@OfNat.ofNat Nat n (instOfNatNat n))))) ∧
  (∀ (n : Nat) (k : Nat), (@OfNat.ofNat Nat n (instOfNatNat n)) ≤ 1000000000 → (@OfNat.ofNat Nat k (instOfNatNat k)) ≤ 1000000000 → rng2R (.ok (.int (no_index (@OfNat.ofNat Int n (@instOfNat n))))) (.ok (.int (no_index (@OfNat.ofNat Int k (@instOfNat k))))) = .ok (rngP ((@OfNat.ofNat Int n (@instOfNat n))) ((@OfNat.ofNat Nat k (instOfNatNat k)) - (@OfNat.ofNat Nat n (instOfNatNat n))))) ∧
  (∀ d : PV, lfree d = true → lf (.ok d) = .ok d) ∧
  (∀ (i : Int), lfree (.int i) = true) ∧
  (∀ (i : Bool), lfree (.bl i) = true) ∧
  (∀ (i : Str), lfree (.str i) = true) ∧
  (lfree .non = true) ∧
  (∀ xs : List PV, lfree (.tup xs) = lfrees xs) ∧
  (lfrees [] = true) ∧
  (∀ (x : PV) (xs : List PV), lfrees (x :: xs) = (lfree x && lfrees xs)) ∧
  (∀ i j : Int, j ≠ 0 → -1073741824 < j → j < 1073741824 → oFdiv (.int i) (.int j) = .ok (.int (i.fdiv j))) ∧
  (∀ (xs : List PV) (l u : Option Int), oSl (.tup xs) l u = .ok (.tup (cutP xs l u))) ∧
  (∀ (xs : List PV) (l u : Option Int), oSl (.lst xs) l u = .ok (.lst (cutP xs l u))) :=
  ⟨fun i a0 a1 a2 => by rw [in_lst (fun y _ => rfl) (show flatP (.int i) = true from rfl) (by rfl)]; simp [eqF, eq_comm, Bool.or_assoc, Bool.beq_eq_decide_eq],
  fun i a0 a1 a2 => by rw [in_lst (fun y _ => rfl) (show flatP (.str i) = true from rfl) (by rfl)]; simp [eqF, eq_comm, Bool.or_assoc, Bool.beq_eq_decide_eq],
  fun i a0 a1 a2 a3 => by rw [in_lst (fun y _ => rfl) (show flatP (.int i) = true from rfl) (by rfl)]; simp [eqF, eq_comm, Bool.or_assoc, Bool.beq_eq_decide_eq],
  fun i a0 a1 a2 a3 => by rw [in_lst (fun y _ => rfl) (show flatP (.str i) = true from rfl) (by rfl)]; simp [eqF, eq_comm, Bool.or_assoc, Bool.beq_eq_decide_eq],
  fun i a0 a1 a2 a3 a4 => by rw [in_lst (fun y _ => rfl) (show flatP (.int i) = true from rfl) (by rfl)]; simp [eqF, eq_comm, Bool.or_assoc, Bool.beq_eq_decide_eq],
  fun i a0 a1 a2 a3 a4 => by rw [in_lst (fun y _ => rfl) (show flatP (.str i) = true from rfl) (by rfl)]; simp [eqF, eq_comm, Bool.or_assoc, Bool.beq_eq_decide_eq],
  fun i a0 a1 a2 a3 a4 a5 => by rw [in_lst (fun y _ => rfl) (show flatP (.int i) = true from rfl) (by rfl)]; simp [eqF, eq_comm, Bool.or_assoc, Bool.beq_eq_decide_eq],
  fun i a0 a1 a2 a3 a4 a5 => by rw [in_lst (fun y _ => rfl) (show flatP (.str i) = true from rfl) (by rfl)]; simp [eqF, eq_comm, Bool.or_assoc, Bool.beq_eq_decide_eq],
  fun i a0 => by rw [in_tup (fun y _ => rfl) (show flatP (.int i) = true from rfl) (by rfl)]; simp [eqF, eq_comm, Bool.or_assoc, Bool.beq_eq_decide_eq],
  fun i a0 => by rw [in_tup (fun y _ => rfl) (show flatP (.str i) = true from rfl) (by rfl)]; simp [eqF, eq_comm, Bool.or_assoc, Bool.beq_eq_decide_eq],
  fun i a0 a1 => by rw [in_tup (fun y _ => rfl) (show flatP (.int i) = true from rfl) (by rfl)]; simp [eqF, eq_comm, Bool.or_assoc, Bool.beq_eq_decide_eq],
  fun i a0 a1 => by rw [in_tup (fun y _ => rfl) (show flatP (.str i) = true from rfl) (by rfl)]; simp [eqF, eq_comm, Bool.or_assoc, Bool.beq_eq_decide_eq],
  fun i a0 a1 a2 => by rw [in_tup (fun y _ => rfl) (show flatP (.int i) = true from rfl) (by rfl)]; simp [eqF, eq_comm, Bool.or_assoc, Bool.beq_eq_decide_eq],
  fun i a0 a1 a2 => by rw [in_tup (fun y _ => rfl) (show flatP (.str i) = true from rfl) (by rfl)]; simp [eqF, eq_comm, Bool.or_assoc, Bool.beq_eq_decide_eq],
  fun i a0 a1 a2 a3 => by rw [in_tup (fun y _ => rfl) (show flatP (.int i) = true from rfl) (by rfl)]; simp [eqF, eq_comm, Bool.or_assoc, Bool.beq_eq_decide_eq],
  fun i a0 a1 a2 a3 => by rw [in_tup (fun y _ => rfl) (show flatP (.str i) = true from rfl) (by rfl)]; simp [eqF, eq_comm, Bool.or_assoc, Bool.beq_eq_decide_eq],
  fun i a0 a1 a2 a3 a4 => by rw [in_tup (fun y _ => rfl) (show flatP (.int i) = true from rfl) (by rfl)]; simp [eqF, eq_comm, Bool.or_assoc, Bool.beq_eq_decide_eq],
  fun i a0 a1 a2 a3 a4 => by rw [in_tup (fun y _ => rfl) (show flatP (.str i) = true from rfl) (by rfl)]; simp [eqF, eq_comm, Bool.or_assoc, Bool.beq_eq_decide_eq],
  fun i a0 a1 a2 a3 a4 a5 => by rw [in_tup (fun y _ => rfl) (show flatP (.int i) = true from rfl) (by rfl)]; simp [eqF, eq_comm, Bool.or_assoc, Bool.beq_eq_decide_eq],
  fun i a0 a1 a2 a3 a4 a5 => by rw [in_tup (fun y _ => rfl) (show flatP (.str i) = true from rfl) (by rfl)]; simp [eqF, eq_comm, Bool.or_assoc, Bool.beq_eq_decide_eq],
  fun xs k h h2 => mul_lst h h2,
  fun x k => rep_one,
  fun n h => rng1_nat h,
  fun a k h h2 => shl_nat h h2,
  at_last,
  fun n k h h2 => rng2_nat h h2,
  fun n k h h2 => rng2_nat h h2,
  fun n k h h2 => rng2_nat h h2,
  fun n k h h2 => rng2_nat h h2,
  fun d h => by unfold lf; rw [bind_ok, if_pos h],
  fun _ => by unfold lfree; rfl,
  fun _ => by unfold lfree; rfl,
  fun _ => by unfold lfree; rfl,
  by unfold lfree; rfl,
  fun _ => by rw [lfree],
  by rw [lfrees],
  fun _ _ => by rw [lfrees],
  fun i j h h1 h2 => oFdiv_ok h (by omega),
  by intros; rfl,
  by intros; rfl⟩

theorem EV11 : (∀ (xs : List PV) (l u : Option Int), oSl (.scr xs) l u = .ok (.lst (cutP xs l u))) ∧
  (∀ (xs : List PV) (l u : Option Int), oSlN (.lst xs) l u = .ok (.lst (cutP xs l u))) ∧
  (∀ (xs : List PV)  , cutP xs none none = xs) ∧
  (∀ (xs : List PV)  (k : Nat), cutP xs none (some ((k : Nat) : Int)) = xs.take k) ∧
  (∀ (xs : List PV)  (k : Nat), cutP xs none (some (no_index (@OfNat.ofNat Int k (@instOfNat k)))) = xs.take (@OfNat.ofNat Nat k (instOfNatNat k))) ∧
  (∀ (xs : List PV) (n : Nat) , cutP xs (some ((n : Nat) : Int)) none = xs.drop n) ∧
  (∀ (xs : List PV) (n : Nat) (k : Nat), cutP xs (some ((n : Nat) : Int)) (some ((k : Nat) : Int)) = (xs.drop n).take (k - n)) ∧
  (∀ (xs : List PV) (n : Nat) (k : Nat), cutP xs (some ((n : Nat) : Int)) (some (no_index (@OfNat.ofNat Int k (@instOfNat k)))) = (xs.drop n).take ((@OfNat.ofNat Nat k (instOfNatNat k)) - n)) ∧
  (∀ (xs : List PV) (n : Nat) , cutP xs (some (no_index (@OfNat.ofNat Int n (@instOfNat n)))) none = xs.drop (@OfNat.ofNat Nat n (instOfNatNat n))) ∧
  (∀ (xs : List PV) (n : Nat) (k : Nat), cutP xs (some (no_index (@OfNat.ofNat Int n (@instOfNat n)))) (some ((k : Nat) : Int)) = (xs.drop (@OfNat.ofNat Nat n (instOfNatNat n))).take (k - (@OfNat.ofNat Nat n (instOfNatNat n)))) ∧
  (∀ (xs : List PV) (n : Nat) (k : Nat), cutP xs (some (no_index (@OfNat.ofNat Int n (@instOfNat n)))) (some (no_index (@OfNat.ofNat Int k (@instOfNat k)))) = (xs.drop (@OfNat.ofNat Nat n (instOfNatNat n))).take ((@OfNat.ofNat Nat k (instOfNatNat k)) - (@OfNat.ofNat Nat n (instOfNatNat n)))) ∧
  (∀ (xs : List PV), cutP xs none (some (-1)) = xs.dropLast) ∧
  (∀ (P : Po) (i : Nat) (ss : List DS) (ρ : PEnv) (ds : List PV) (j : Nat) (d : PV), j < ds.length → RunSet P i ss ρ (some (.ow (.lst ds))) (.ok (.int (j : Nat))) (.ok d) = Run P ss (ρ.set i (.ow (.lst (ds.set j d))))) ∧
  (∀ (P : Po) (i : Nat) (ss : List DS) (ρ : PEnv) (ds : List PV) (j : Nat) (d : PV), j < ds.length → RunSet P i ss ρ (some (.ow (.lst ds))) (.ok (.int (no_index (@OfNat.ofNat Int j (@instOfNat j))))) (.ok d) = Run P ss (ρ.set i (.ow (.lst (ds.set (@OfNat.ofNat Nat j (instOfNatNat j)) d))))) :=
  ⟨by intros; rfl,
  by intros; rfl,
  fun xs   => cut_nn,
  fun xs  _ => cut_ns,
  fun xs  _ => cut_ns,
  fun xs _  => cut_sn,
  fun xs _ _ => cut_ss,
  fun xs _ _ => cut_ss,
  fun xs _  => cut_sn,
  fun xs _ _ => cut_ss,
  fun xs _ _ => cut_ss,
  fun xs => cut_last,
  fun P i ss ρ ds j d h => by
  show (match ixN ds.length ((j : Nat) : Int) with
      | some n => Run P ss (ρ.set i (.ow (.lst (ds.set n d))))
      | none => False) = _
  have hx : ixN ds.length ((j : Nat) : Int) = some j := by
    unfold L2.ixN
    rw [if_pos (Int.natCast_nonneg j), if_pos (by omega)]
    rfl
  rw [hx],
  fun P i ss ρ ds j d h => by
  show (match ixN ds.length ((j : Nat) : Int) with
      | some n => Run P ss (ρ.set i (.ow (.lst (ds.set n d))))
      | none => False) = Run P ss (ρ.set i (.ow (.lst (ds.set j d))))
  have hx : ixN ds.length ((j : Nat) : Int) = some j := by
    unfold L2.ixN
    rw [if_pos (Int.natCast_nonneg j), if_pos (by omega)]
    rfl
  rw [hx]⟩

theorem SN : (("zero" : Str) = ("ones" : Str)) = False ∧
  (("zero" : Str) = ("not" : Str)) = False ∧
  (("zero" : Str) = ("and" : Str)) = False ∧
  (("zero" : Str) = ("or" : Str)) = False ∧
  (("zero" : Str) = ("xor" : Str)) = False ∧
  (("zero" : Str) = ("shift" : Str)) = False ∧
  (("zero" : Str) = ("minus" : Str)) = False ∧
  (("zero" : Str) = ("add" : Str)) = False ∧
  (("zero" : Str) = ("sub" : Str)) = False ∧
  (("zero" : Str) = ("count" : Str)) = False ∧
  (("ones" : Str) = ("zero" : Str)) = False ∧
  (("ones" : Str) = ("not" : Str)) = False ∧
  (("ones" : Str) = ("and" : Str)) = False ∧
  (("ones" : Str) = ("or" : Str)) = False ∧
  (("ones" : Str) = ("xor" : Str)) = False ∧
  (("ones" : Str) = ("shift" : Str)) = False ∧
  (("ones" : Str) = ("minus" : Str)) = False ∧
  (("ones" : Str) = ("add" : Str)) = False ∧
  (("ones" : Str) = ("sub" : Str)) = False ∧
  (("ones" : Str) = ("count" : Str)) = False ∧
  (("not" : Str) = ("zero" : Str)) = False ∧
  (("not" : Str) = ("ones" : Str)) = False ∧
  (("not" : Str) = ("and" : Str)) = False ∧
  (("not" : Str) = ("or" : Str)) = False ∧
  (("not" : Str) = ("xor" : Str)) = False ∧
  (("not" : Str) = ("shift" : Str)) = False ∧
  (("not" : Str) = ("minus" : Str)) = False ∧
  (("not" : Str) = ("add" : Str)) = False ∧
  (("not" : Str) = ("sub" : Str)) = False ∧
  (("not" : Str) = ("count" : Str)) = False ∧
  (("and" : Str) = ("zero" : Str)) = False ∧
  (("and" : Str) = ("ones" : Str)) = False ∧
  (("and" : Str) = ("not" : Str)) = False ∧
  (("and" : Str) = ("or" : Str)) = False ∧
  (("and" : Str) = ("xor" : Str)) = False ∧
  (("and" : Str) = ("shift" : Str)) = False ∧
  (("and" : Str) = ("minus" : Str)) = False ∧
  (("and" : Str) = ("add" : Str)) = False ∧
  (("and" : Str) = ("sub" : Str)) = False ∧
  (("and" : Str) = ("count" : Str)) = False ∧
  (("or" : Str) = ("zero" : Str)) = False ∧
  (("or" : Str) = ("ones" : Str)) = False ∧
  (("or" : Str) = ("not" : Str)) = False ∧
  (("or" : Str) = ("and" : Str)) = False ∧
  (("or" : Str) = ("xor" : Str)) = False ∧
  (("or" : Str) = ("shift" : Str)) = False ∧
  (("or" : Str) = ("minus" : Str)) = False ∧
  (("or" : Str) = ("add" : Str)) = False ∧
  (("or" : Str) = ("sub" : Str)) = False ∧
  (("or" : Str) = ("count" : Str)) = False ∧
  (("xor" : Str) = ("zero" : Str)) = False ∧
  (("xor" : Str) = ("ones" : Str)) = False ∧
  (("xor" : Str) = ("not" : Str)) = False ∧
  (("xor" : Str) = ("and" : Str)) = False ∧
  (("xor" : Str) = ("or" : Str)) = False ∧
  (("xor" : Str) = ("shift" : Str)) = False ∧
  (("xor" : Str) = ("minus" : Str)) = False ∧
  (("xor" : Str) = ("add" : Str)) = False ∧
  (("xor" : Str) = ("sub" : Str)) = False ∧
  (("xor" : Str) = ("count" : Str)) = False ∧
  (("shift" : Str) = ("zero" : Str)) = False ∧
  (("shift" : Str) = ("ones" : Str)) = False ∧
  (("shift" : Str) = ("not" : Str)) = False ∧
  (("shift" : Str) = ("and" : Str)) = False ∧
  (("shift" : Str) = ("or" : Str)) = False ∧
  (("shift" : Str) = ("xor" : Str)) = False ∧
  (("shift" : Str) = ("minus" : Str)) = False ∧
  (("shift" : Str) = ("add" : Str)) = False ∧
  (("shift" : Str) = ("sub" : Str)) = False ∧
  (("shift" : Str) = ("count" : Str)) = False ∧
  (("minus" : Str) = ("zero" : Str)) = False ∧
  (("minus" : Str) = ("ones" : Str)) = False ∧
  (("minus" : Str) = ("not" : Str)) = False ∧
  (("minus" : Str) = ("and" : Str)) = False ∧
  (("minus" : Str) = ("or" : Str)) = False ∧
  (("minus" : Str) = ("xor" : Str)) = False ∧
  (("minus" : Str) = ("shift" : Str)) = False ∧
  (("minus" : Str) = ("add" : Str)) = False ∧
  (("minus" : Str) = ("sub" : Str)) = False ∧
  (("minus" : Str) = ("count" : Str)) = False ∧
  (("add" : Str) = ("zero" : Str)) = False ∧
  (("add" : Str) = ("ones" : Str)) = False ∧
  (("add" : Str) = ("not" : Str)) = False ∧
  (("add" : Str) = ("and" : Str)) = False ∧
  (("add" : Str) = ("or" : Str)) = False ∧
  (("add" : Str) = ("xor" : Str)) = False ∧
  (("add" : Str) = ("shift" : Str)) = False ∧
  (("add" : Str) = ("minus" : Str)) = False ∧
  (("add" : Str) = ("sub" : Str)) = False ∧
  (("add" : Str) = ("count" : Str)) = False ∧
  (("sub" : Str) = ("zero" : Str)) = False ∧
  (("sub" : Str) = ("ones" : Str)) = False ∧
  (("sub" : Str) = ("not" : Str)) = False ∧
  (("sub" : Str) = ("and" : Str)) = False ∧
  (("sub" : Str) = ("or" : Str)) = False ∧
  (("sub" : Str) = ("xor" : Str)) = False ∧
  (("sub" : Str) = ("shift" : Str)) = False ∧
  (("sub" : Str) = ("minus" : Str)) = False ∧
  (("sub" : Str) = ("add" : Str)) = False ∧
  (("sub" : Str) = ("count" : Str)) = False ∧
  (("count" : Str) = ("zero" : Str)) = False ∧
  (("count" : Str) = ("ones" : Str)) = False ∧
  (("count" : Str) = ("not" : Str)) = False ∧
  (("count" : Str) = ("and" : Str)) = False ∧
  (("count" : Str) = ("or" : Str)) = False ∧
  (("count" : Str) = ("xor" : Str)) = False ∧
  (("count" : Str) = ("shift" : Str)) = False ∧
  (("count" : Str) = ("minus" : Str)) = False ∧
  (("count" : Str) = ("add" : Str)) = False ∧
  (("count" : Str) = ("sub" : Str)) = False :=
  ⟨eq_false (by decide),
  eq_false (by decide),
  eq_false (by decide),
  eq_false (by decide),
  eq_false (by decide),
  eq_false (by decide),
  eq_false (by decide),
  eq_false (by decide),
  eq_false (by decide),
  eq_false (by decide),
  eq_false (by decide),
  eq_false (by decide),
  eq_false (by decide),
  eq_false (by decide),
  eq_false (by decide),
  eq_false (by decide),
  eq_false (by decide),
  eq_false (by decide),
  eq_false (by decide),
  eq_false (by decide),
  eq_false (by decide),
  eq_false (by decide),
  eq_false (by decide),
  eq_false (by decide),
  eq_false (by decide),
  eq_false (by decide),
  eq_false (by decide),
  eq_false (by decide),
  eq_false (by decide),
  eq_false (by decide),
  eq_false (by decide),
  eq_false (by decide),
  eq_false (by decide),
  eq_false (by decide),
  eq_false (by decide),
  eq_false (by decide),
  eq_false (by decide),
  eq_false (by decide),
  eq_false (by decide),
  eq_false (by decide),
  eq_false (by decide),
  eq_false (by decide),
  eq_false (by decide),
  eq_false (by decide),
  eq_false (by decide),
  eq_false (by decide),
  eq_false (by decide),
  eq_false (by decide),
  eq_false (by decide),
  eq_false (by decide),
  eq_false (by decide),
  eq_false (by decide),
  eq_false (by decide),
  eq_false (by decide),
  eq_false (by decide),
  eq_false (by decide),
  eq_false (by decide),
  eq_false (by decide),
  eq_false (by decide),
  eq_false (by decide),
  eq_false (by decide),
  eq_false (by decide),
  eq_false (by decide),
  eq_false (by decide),
  eq_false (by decide),
  eq_false (by decide),
  eq_false (by decide),
  eq_false (by decide),
  eq_false (by decide),
  eq_false (by decide),
  eq_false (by decide),
  eq_false (by decide),
  eq_false (by decide),
  eq_false (by decide),
  eq_false (by decide),
  eq_false (by decide),
  eq_false (by decide),
  eq_false (by decide),
  eq_false (by decide),
  eq_false (by decide),
  eq_false (by decide),
  eq_false (by decide),
  eq_false (by decide),
  eq_false (by decide),
  eq_false (by decide),
  eq_false (by decide),
  eq_false (by decide),
  eq_false (by decide),
  eq_false (by decide),
  eq_false (by decide),
  eq_false (by decide),
  eq_false (by decide),
  eq_false (by decide),
  eq_false (by decide),
  eq_false (by decide),
  eq_false (by decide),
  eq_false (by decide),
  eq_false (by decide),
  eq_false (by decide),
  eq_false (by decide),
  eq_false (by decide),
  eq_false (by decide),
  eq_false (by decide),
  eq_false (by decide),
  eq_false (by decide),
  eq_false (by decide),
  eq_false (by decide),
  eq_false (by decide),
  eq_false (by decide),
  eq_false (by decide)⟩

section
variable {P : Po} {s : DS} {ss : List DS} {ρ : PEnv} {g : DG} {ds : List PV}
/-! ### a def -/
theorem satR_mono {α : Type} {x : R α} {k k' : α → Prop} (h : satR P ρ x k) (m : ∀ a, k a → k' a) : satR P ρ x k' := by
  cases x with
  | ok a => exact m a h
  | ex c fs => exact h
  | bad => exact h
def RSat (K : PV → Prop) (E : Nat → List PV → Prop) : R PV → Prop
  | .ok d => K d
  | .ex c fs => E c fs
  | .bad => False
theorem fn_run {K : PV → Prop} {E : Nat → List PV → Prop} {np nN : Nat} (hl : ds.length = np) (h : Run (.fn K E) [s] (ds.map Slot.fr ++ List.replicate (nN - np) Slot.no)) : RSat K E (fnDen np nN s ds) := by
  unfold fnDen
  rw [if_pos hl]
  replace h : (match s (ds.map Slot.fr ++ List.replicate (nN - np) Slot.no) with
    | .nx ρ1 => Out.nx ρ1
    | o => o).sat (.fn K E) := h
  revert h
  cases s (ds.map Slot.fr ++ List.replicate (nN - np) Slot.no) <;> exact fun h => h
theorem rsat_ok {K : PV → Prop} {x : R PV} (h : RSat K (fun _ _ => False) x) : ∃ d, x = .ok d ∧ K d := by
  cases x with
  | ok d => exact ⟨d, rfl, h⟩
  | ex c fs => exact h.elim
  | bad => exact h.elim
/-- an answer of a certain kind -/
theorem fn_has {K : PV → Prop} {np nN : Nat} (hl : ds.length = np) (h : Run (.fn K fun _ _ => False) [s] (ds.map Slot.fr ++ List.replicate (nN - np) Slot.no)) : ∃ d, fnDen np nN s ds = .ok d ∧ K d := rsat_ok (fn_run hl h)
/-- the answer d -/
theorem fn_eq {d : PV} {np nN : Nat} (hl : ds.length = np) (h : Run (.fn (· = d) fun _ _ => False) [s] (ds.map Slot.fr ++ List.replicate (nN - np) Slot.no)) : fnDen np nN s ds = .ok d := by
  obtain ⟨_, h1, rfl⟩ := fn_has hl h
  exact h1
/-- an exception -/
theorem fn_ex {c : Nat} {fs : List PV} {np nN : Nat} (hl : ds.length = np) (h : Run (.fn (fun _ => False) fun c' fs' => c' = c ∧ fs' = fs) [s] (ds.map Slot.fr ++ List.replicate (nN - np) Slot.no)) : fnDen np nN s ds = .ex c fs := by
  have := fn_run hl h
  revert this
  cases fnDen np nN s ds with
  | ok d => exact fun h => h.elim
  | ex c' fs' => rintro ⟨rfl, rfl⟩; rfl
  | bad => exact fun h => h.elim
theorem ini_eq {c m np nN : Nat} {ds' : List PV} (hl : ds.length + 1 = np) (hm : ds'.length = m) (h : Run ⟨fun ρ => ∃ r, ρ = .sf c ds' :: r, fun _ => False, fun _ => False, fun _ => False, fun _ _ _ => False⟩ [s] (Slot.sf c [] :: (ds.map Slot.fr ++ List.replicate (nN - np) Slot.no))) : iniDen c m np nN s ds = .ok (.obj c ds') := by
  unfold iniDen
  rw [if_pos hl]
  replace h : (match s (Slot.sf c [] :: (ds.map Slot.fr ++ List.replicate (nN - np) Slot.no)) with
    | .nx ρ1 => Out.nx ρ1
    | o => o).sat _ := h
  revert h
  cases s (Slot.sf c [] :: (ds.map Slot.fr ++ List.replicate (nN - np) Slot.no)) with
  | nx ρ1 =>
    rintro ⟨r, rfl⟩
    show (if c = c ∧ ds'.length = m then _ else _) = _
    rw [if_pos ⟨rfl, hm⟩]
  | _ => exact fun h => h.elim
/-! ### loops -/
theorem loop_nil : Loop P g s [] ss ρ = Run P ss ρ := rfl
theorem loop_cons {d : PV} {r : List PV} (h : RunGG (.turn P ss fun ρ' => Loop P g s r ss ρ') [s] (g d ρ)) : Loop P g s (d :: r) ss ρ := by
  unfold Loop Run
  show (match (match g d ρ with
    | .ok ρ1 => match s ρ1 with
      | .nx ρ2 => forL g s r ρ2
      | .ct ρ2 => forL g s r ρ2
      | .bk ρ2 => .nx ρ2
      | o => o
    | _ => Out.bad) with
    | .nx ρ1 => runs ss ρ1
    | o => o).sat P
  revert h
  cases g d ρ with
  | ok ρ1 =>
    intro h
    replace h : (match s ρ1 with
      | .nx ρ1 => Out.nx ρ1
      | o => o).sat (.turn P ss fun ρ' => Loop P g s r ss ρ') := h
    revert h
    show _ → (match (match s ρ1 with
      | .nx ρ2 => forL g s r ρ2
      | .ct ρ2 => forL g s r ρ2
      | .bk ρ2 => .nx ρ2
      | o => o) with
      | .nx ρ1 => runs ss ρ1
      | o => o).sat P
    cases s ρ1 <;> exact fun h => h
  | ex c fs => exact fun h => h.elim
  | bad => exact fun h => h.elim
theorem loop_ix (J : Nat → PEnv → Prop) : ∀ (ds : List PV) (n : Nat) (ρ : PEnv), J n ρ → (∀ i d ρ', ds[i]? = some d → J (n + i) ρ' → RunGG (.turn P ss (J (n + i + 1))) [s] (g d ρ')) → (∀ ρ', J (n + ds.length) ρ' → Run P ss ρ') → Loop P g s ds ss ρ
  | [], n, ρ, h0, _, he => he ρ h0
  | d :: r, n, ρ, h0, hs, he => by
    refine loop_cons ?_
    have h1 := hs 0 d ρ rfl h0
    have ih : ∀ ρ', J (n + 1) ρ' → Loop P g s r ss ρ' := fun ρ' h => loop_ix J r (n + 1) ρ' h (fun i d' ρ2 hd hj => by
      have := hs (i + 1) d' ρ2 (by simpa using hd) (by rw [Nat.add_assoc, Nat.add_comm 1 i] at hj; exact hj)
      rw [show n + 1 + i + 1 = n + (i + 1) + 1 by omega]
      exact this) fun ρ2 hj => he ρ2 (by rw [List.length_cons, show n + (r.length + 1) = n + 1 + r.length by omega]; exact hj)
    revert h1
    cases g d ρ with
    | ok ρ1 => exact fun h1 => Out.sat_mono h1 (fun ρ' h => ih ρ' h) (fun _ h => h) (fun ρ' h => ih ρ' h) (fun _ h => h) fun _ _ _ h => h
    | ex c fs => exact fun h => h.elim
    | bad => exact fun h => h.elim
/-- by places: J e i is what holds ahead of the turn i, e how the names stood ahead of the loop -/
theorem loop_at (J : PEnv → Nat → PEnv → Prop) (h0 : J ρ 0 ρ) (hs : ∀ i d ρ', ds[i]? = some d → J ρ i ρ' → RunGG (.turn P ss (J ρ (i + 1))) [s] (g d ρ')) (he : ∀ ρ', J ρ ds.length ρ' → Run P ss ρ') : Loop P g s ds ss ρ :=
  loop_ix (J ρ) ds 0 ρ h0 (fun i d ρ' hd hj => by rw [Nat.zero_add] at hj ⊢; exact hs i d ρ' hd hj) fun ρ' hj => he ρ' (by rw [Nat.zero_add] at hj; exact hj)
theorem loop_rng {n : Nat} (J : PEnv → Nat → PEnv → Prop) (h0 : J ρ 0 ρ) (hs : ∀ i ρ', i < n → J ρ i ρ' → RunGG (.turn P ss (J ρ (i + 1))) [s] (g (.int (i : Nat)) ρ')) (he : ∀ ρ', J ρ n ρ' → Run P ss ρ') : Loop P g s (rngP 0 n) ss ρ :=
  loop_at J h0 (fun i d ρ' hd hj => by
    have hi : i < n := by
      have := (List.getElem?_eq_some_iff.mp hd).1
      rwa [rngP_length] at this
    rw [rngP_get hi] at hd
    cases hd
    rw [show (0 : Int) + (i : Nat) = (i : Nat) by omega]
    exact hs i ρ' hi hj) fun ρ' hj => he ρ' (by rw [rngP_length] at hj; exact hj)
theorem loop_map {α : Type} {c : α → PV} {xs : List α} (J : PEnv → Nat → PEnv → Prop) (h0 : J ρ 0 ρ) (hs : ∀ i x ρ', xs[i]? = some x → J ρ i ρ' → RunGG (.turn P ss (J ρ (i + 1))) [s] (g (c x) ρ')) (he : ∀ ρ', J ρ xs.length ρ' → Run P ss ρ') : Loop P g s (xs.map c) ss ρ :=
  loop_at J h0 (fun i d ρ' hd hj => by
    rw [List.getElem?_map] at hd
    obtain ⟨x, hx, rfl⟩ := Option.map_eq_some_iff.mp hd
    exact hs i x ρ' hx hj) fun ρ' hj => he ρ' (by rw [List.length_map] at hj; exact hj)
theorem loop_enum (J : PEnv → Nat → PEnv → Prop) (h0 : J ρ 0 ρ) (hs : ∀ i d ρ', ds[i]? = some d → J ρ i ρ' → RunGG (.turn P ss (J ρ (i + 1))) [s] (g (.tup [.int (i : Nat), d]) ρ')) (he : ∀ ρ', J ρ ds.length ρ' → Run P ss ρ') : Loop P g s (enumP 0 ds) ss ρ :=
  loop_at J h0 (fun i d ρ' hd hj => by
    have hi : i < ds.length := by
      have := (List.getElem?_eq_some_iff.mp hd).1
      rwa [enumP_length] at this
    rw [enumP_get (List.getElem?_eq_getElem hi), Nat.zero_add] at hd
    cases hd
    exact hs i _ ρ' (List.getElem?_eq_getElem hi) hj) fun ρ' hj => he ρ' (by rw [enumP_length] at hj; exact hj)
/-- an invariant of the names alone -/
theorem loop_all (J : PEnv → PEnv → Prop) (h0 : J ρ ρ) (hs : ∀ d ρ', d ∈ ds → J ρ ρ' → RunGG (.turn P ss (J ρ)) [s] (g d ρ')) (he : ∀ ρ', J ρ ρ' → Run P ss ρ') : Loop P g s ds ss ρ :=
  loop_at (fun e _ => J e) h0 (fun _ d ρ' hd => hs d ρ' (List.mem_of_getElem? hd)) he
/-- a loop that looks for an item where b is false -/
theorem loop_look (b : PV → Bool) (J : PEnv → PEnv → Prop) (h0 : J ρ ρ) (hs : ∀ d ρ', d ∈ ds → J ρ ρ' → RunGG (.turn P ss fun ρ2 => b d = true ∧ J ρ ρ2) [s] (g d ρ')) (he : ∀ ρ', ds.all b = true → J ρ ρ' → Run P ss ρ') : Loop P g s ds ss ρ :=
  loop_at (fun e i ρ' => (ds.take i).all b = true ∧ J e ρ') ⟨rfl, h0⟩ (fun i d ρ' hd hj => by
    have h1 := hs d ρ' (List.mem_of_getElem? hd) hj.2
    have e : ds.take (i + 1) = ds.take i ++ [d] := by rw [List.take_add_one, hd]; rfl
    revert h1
    cases g d ρ' with
    | ok ρ1 => exact fun h1 => Out.sat_mono h1 (fun ρ2 h => ⟨by rw [e, List.all_append, hj.1]; simp [h.1], h.2⟩) (fun _ h => h) (fun ρ2 h => ⟨by rw [e, List.all_append, hj.1]; simp [h.1], h.2⟩) (fun _ h => h) fun _ _ _ h => h
    | ex c fs => exact fun h => h.elim
    | bad => exact fun h => h.elim) fun ρ' hj => he ρ' (by have := hj.1; rwa [List.take_length] at this) hj.2
/-! ### comprehensions -/
variable {t : DT} {e : DE}
theorem lc_of {f : PV → Option PV} : ∀ (ds : List PV), (∀ d ∈ ds, oneR (g d ρ) t e = .ok (f d)) → lcL g t e ρ ds = .ok (ds.filterMap f)
  | [], _ => rfl
  | d :: r, h => by
    have h1 := h d List.mem_cons_self
    have ih := lc_of r fun d' hd => h d' (List.mem_cons_of_mem _ hd)
    unfold lcL
    revert h1
    cases g d ρ with
    | ok ρ1 =>
      show oneT (t ρ1) e ρ1 = _ → _
      simp only
      cases t ρ1 with
      | ok b =>
        cases b with
        | true =>
          show oneE (e ρ1) = _ → _
          simp only
          cases e ρ1 with
          | ok x =>
            intro h1
            replace h1 : R.ok (some x) = R.ok (f d) := h1
            cases h2 : f d with
            | none => rw [h2] at h1; cases h1
            | some y =>
              rw [h2] at h1
              cases h1
              rw [List.filterMap_cons_some h2]
              simp only [ih]
          | ex c fs => exact fun h => nomatch h
          | bad => exact fun h => nomatch h
        | false =>
          intro h1
          replace h1 : R.ok none = R.ok (f d) := h1
          cases h2 : f d with
          | none => rw [List.filterMap_cons_none h2]; exact ih
          | some y => rw [h2] at h1; cases h1
      | ex c fs => exact fun h => nomatch h
      | bad => exact fun h => nomatch h
    | ex c fs => exact fun h => nomatch h
    | bad => exact fun h => nomatch h
theorem lc_flt (f : PV → Option PV) (hl : ds.length ≤ 1000000) (h : ∀ d ∈ ds, oneR (g d ρ) t e = .ok (f d)) : lcR g t e ρ (.ok ds) = .ok (.lst (ds.filterMap f)) := by
  show (if ds.length ≤ cap then _ else _) = _
  rw [if_pos (show ds.length ≤ cap from Nat.le_trans hl (by decide)), lc_of ds h]
theorem lc_map (f : PV → PV) (hl : ds.length ≤ 1000000) (h : ∀ d ∈ ds, oneR (g d ρ) t e = .ok (some (f d))) : lcR g t e ρ (.ok ds) = .ok (.lst (ds.map f)) := by
  rw [lc_flt (fun d => some (f d)) hl h, show (fun d => some (f d)) = some ∘ f from rfl, List.filterMap_eq_map]
theorem lc_mapm {α : Type} {c : α → PV} {xs : List α} (f : α → PV) (hl : xs.length ≤ 1000000) (h : ∀ x ∈ xs, oneR (g (c x) ρ) t e = .ok (some (f x))) : lcR g t e ρ (.ok (xs.map c)) = .ok (.lst (xs.map f)) := by
  have key : lcL g t e ρ (xs.map c) = .ok (xs.map f) := by
    clear hl
    induction xs with
    | nil => rfl
    | cons x r ih =>
      have h1 := h x List.mem_cons_self
      have ih := ih fun d' hd => h d' (List.mem_cons_of_mem _ hd)
      rw [List.map_cons, List.map_cons]
      unfold lcL
      revert h1
      cases g (c x) ρ with
      | ok ρ1 =>
        show oneT (t ρ1) e ρ1 = _ → _
        simp only
        cases t ρ1 with
        | ok b =>
          cases b with
          | true =>
            show oneE (e ρ1) = _ → _
            simp only
            cases e ρ1 with
            | ok y => intro h1; cases h1; simp only [ih]
            | ex c fs => exact fun h => nomatch h
            | bad => exact fun h => nomatch h
          | false => exact fun h => nomatch h
        | ex c fs => exact fun h => nomatch h
        | bad => exact fun h => nomatch h
      | ex c fs => exact fun h => nomatch h
      | bad => exact fun h => nomatch h
  show (if (xs.map c).length ≤ cap then _ else _) = _
  rw [if_pos (show (xs.map c).length ≤ cap by rw [List.length_map]; exact Nat.le_trans hl (by decide)), key]
theorem lc_rng {n : Nat} (f : Nat → PV) (hl : n ≤ 1000000) (h : ∀ i < n, oneR (g (.int (i : Nat)) ρ) t e = .ok (some (f i))) : lcR g t e ρ (.ok (rngP 0 n)) = .ok (.lst ((List.range n).map f)) := by
  unfold rngP
  refine lc_mapm f (by rw [List.length_range]; exact hl) fun i hi => ?_
  rw [show (0 : Int) + (i : Nat) = (i : Nat) by omega]
  exact h i (List.mem_range.mp hi)
theorem lc_ix {xs : List PV} (hl : ds.length ≤ 1000000) (hl2 : ds.length = xs.length) (h : ∀ (i : Nat) d x, ds[i]? = some d → xs[i]? = some x → oneR (g d ρ) t e = .ok (some x)) : lcR g t e ρ (.ok ds) = .ok (.lst xs) := by
  have key : ∀ (ds xs : List PV), ds.length = xs.length → (∀ (i : Nat) d x, ds[i]? = some d → xs[i]? = some x → oneR (g d ρ) t e = .ok (some x)) → lcL g t e ρ ds = .ok xs := by
    intro ds
    induction ds with
    | nil => intro xs h _; rw [List.eq_nil_of_length_eq_zero h.symm]; rfl
    | cons d r ih =>
      intro xs h k
      cases xs with
      | nil => simp at h
      | cons x xs =>
        have h1 := k 0 d x rfl rfl
        have ih := ih xs (by simpa using h) fun i d' x' hd hx => k (i + 1) d' x' (by simpa using hd) (by simpa using hx)
        unfold lcL
        revert h1
        cases g d ρ with
        | ok ρ1 =>
          show oneT (t ρ1) e ρ1 = _ → _
          simp only
          cases t ρ1 with
          | ok b =>
            cases b with
            | true =>
              show oneE (e ρ1) = _ → _
              simp only
              cases e ρ1 with
              | ok y => intro h1; cases h1; simp only [ih]
              | ex c fs => exact fun h => nomatch h
              | bad => exact fun h => nomatch h
            | false => exact fun h => nomatch h
          | ex c fs => exact fun h => nomatch h
          | bad => exact fun h => nomatch h
        | ex c fs => exact fun h => nomatch h
        | bad => exact fun h => nomatch h
  show (if ds.length ≤ cap then _ else _) = _
  rw [if_pos (show ds.length ≤ cap from Nat.le_trans hl (by decide)), key ds xs hl2 h]
theorem lc_rng2 {n : Nat} {lo : Int} (f : Nat → PV) (hl : n ≤ 1000000) (h : ∀ i < n, oneR (g (.int (lo + (i : Nat))) ρ) t e = .ok (some (f i))) : lcR g t e ρ (.ok (rngP lo n)) = .ok (.lst ((List.range n).map f)) := by
  unfold rngP
  exact lc_mapm f (by rw [List.length_range]; exact hl) fun i hi => h i (List.mem_range.mp hi)
theorem lc_fltm {α : Type} {c : α → PV} {xs : List α} (p : α → Bool) (f : α → PV) (hl : xs.length ≤ 1000000) (h : ∀ x ∈ xs, oneR (g (c x) ρ) t e = .ok (if p x then some (f x) else none)) : lcR g t e ρ (.ok (xs.map c)) = .ok (.lst ((xs.filter p).map f)) := by
  have key : lcL g t e ρ (xs.map c) = .ok ((xs.filter p).map f) := by
    clear hl
    induction xs with
    | nil => rfl
    | cons x r ih =>
      have h1 := h x List.mem_cons_self
      have ih := ih fun d' hd => h d' (List.mem_cons_of_mem _ hd)
      rw [List.map_cons]
      unfold lcL
      revert h1
      cases g (c x) ρ with
      | ok ρ1 =>
        show oneT (t ρ1) e ρ1 = _ → _
        simp only
        cases t ρ1 with
        | ok b =>
          cases b with
          | true =>
            show oneE (e ρ1) = _ → _
            simp only
            cases e ρ1 with
            | ok y =>
              intro h1
              replace h1 : R.ok (some y) = R.ok (if p x = true then some (f x) else none) := h1
              by_cases hp : p x = true
              · rw [if_pos hp] at h1
                cases h1
                rw [List.filter_cons_of_pos hp, List.map_cons]
                simp only [ih]
              · rw [if_neg hp] at h1; cases h1
            | ex c fs => exact fun h => nomatch h
            | bad => exact fun h => nomatch h
          | false =>
            intro h1
            replace h1 : R.ok none = R.ok (if p x = true then some (f x) else none) := h1
            by_cases hp : p x = true
            · rw [if_pos hp] at h1; cases h1
            · rw [List.filter_cons_of_neg hp]; exact ih
        | ex c fs => exact fun h => nomatch h
        | bad => exact fun h => nomatch h
      | ex c fs => exact fun h => nomatch h
      | bad => exact fun h => nomatch h
  show (if (xs.map c).length ≤ cap then _ else _) = _
  rw [if_pos (show (xs.map c).length ≤ cap by rw [List.length_map]; exact Nat.le_trans hl (by decide)), key]
end
/-! ### cuts: what holds behind a statement -/
section
variable {P : Po} {s t : DS} {ss : List DS} {ρ : PEnv}
theorem run_cut (I : PEnv → PEnv → Prop) (h : Run (P.aft ss (I ρ)) [s] ρ) (k : ∀ ρ', I ρ ρ' → Run P ss ρ') : Run P (s :: ss) ρ := by
  unfold Run at h ⊢
  replace h : (match s ρ with
    | .nx ρ1 => Out.nx ρ1
    | o => o).sat (P.aft ss (I ρ)) := h
  show (match s ρ with
    | .nx ρ1 => runs ss ρ1
    | o => o).sat P
  revert h
  cases s ρ with
  | nx ρ1 => exact fun h => k ρ1 h
  | _ => exact fun h => h
theorem if_cut (I : PEnv → PEnv → Prop) {x : R Bool} (h : RunI (P.aft ss (I ρ)) s t [] ρ x) (k : ∀ ρ', I ρ ρ' → Run P ss ρ') : RunI P s t ss ρ x := by
  unfold RunI at h ⊢
  cases x with
  | ok b => exact run_cut I h k
  | ex c fs => exact h
  | bad => exact h
end
section
variable {g : DG} {t : DT} {e : DE} {ρ : PEnv}
theorem lc_rngI {n : Nat} (f : Nat → Int) (hl : n ≤ 1000000) (h : ∀ i < n, oneR (g (.int (i : Nat)) ρ) t e = .ok (some (.int (f i)))) : lcR g t e ρ (.ok (rngP 0 n)) = .ok (.lst (((List.range n).map f).map PV.int)) := by
  rw [lc_rng (fun i => .int (f i)) hl h, List.map_map]
  rfl
theorem lc_rngN {n : Nat} (f : Nat → Nat) (hl : n ≤ 1000000) (h : ∀ i < n, oneR (g (.int (i : Nat)) ρ) t e = .ok (some (.int (f i : Nat)))) : lcR g t e ρ (.ok (rngP 0 n)) = .ok (.lst (((List.range n).map f).map fun (i : Nat) => .int (i : Int))) := by
  rw [lc_rng (fun i => .int (f i : Nat)) hl h, List.map_map]
  rfl
theorem lc_intI {xs : List Int} (f : Int → Int) (hl : xs.length ≤ 1000000) (h : ∀ x ∈ xs, oneR (g (.int x) ρ) t e = .ok (some (.int (f x)))) : lcR g t e ρ (.ok (xs.map PV.int)) = .ok (.lst ((xs.map f).map PV.int)) := by
  rw [lc_mapm (fun i => .int (f i)) hl h, List.map_map]
  rfl
end
/-! casts -/
theorem NC : (∀ n : Nat, ((no_index (@OfNat.ofNat Nat n (instOfNatNat n)) : Nat) : Int) = @OfNat.ofNat Int n (@instOfNat n)) ∧
  (∀ a b : Nat, (a : Int) + (b : Int) = ((a + b : Nat) : Int)) ∧
  (∀ a b : Nat, (a : Int) * (b : Int) = ((a * b : Nat) : Int)) ∧
  (∀ a n : Nat, (a : Int) + (no_index (@OfNat.ofNat Int n (@instOfNat n))) = ((a + @OfNat.ofNat Nat n (instOfNatNat n) : Nat) : Int)) ∧
  (∀ a n : Nat, (no_index (@OfNat.ofNat Int n (@instOfNat n))) + (a : Int) = ((@OfNat.ofNat Nat n (instOfNatNat n) + a : Nat) : Int)) ∧
  (∀ a n : Nat, (a : Int) * (no_index (@OfNat.ofNat Int n (@instOfNat n))) = ((a * @OfNat.ofNat Nat n (instOfNatNat n) : Nat) : Int)) ∧
  (∀ a n : Nat, (no_index (@OfNat.ofNat Int n (@instOfNat n))) * (a : Int) = ((@OfNat.ofNat Nat n (instOfNatNat n) * a : Nat) : Int)) ∧
  (∀ a b : Nat, (a : Int).fmod (b : Int) = ((a % b : Nat) : Int)) ∧
  (∀ a n : Nat, (a : Int).fmod (no_index (@OfNat.ofNat Int n (@instOfNat n))) = ((a % @OfNat.ofNat Nat n (instOfNatNat n) : Nat) : Int)) ∧
  (∀ a b : Nat, (a : Int).fdiv (b : Int) = ((a / b : Nat) : Int)) ∧
  (∀ a n : Nat, (a : Int).fdiv (no_index (@OfNat.ofNat Int n (@instOfNat n))) = ((a / @OfNat.ofNat Nat n (instOfNatNat n) : Nat) : Int)) ∧
  (∀ a b : Nat, b ≤ a → (a : Int) - (b : Int) = ((a - b : Nat) : Int)) ∧
  (∀ a n : Nat, @OfNat.ofNat Nat n (instOfNatNat n) ≤ a → (a : Int) - (no_index (@OfNat.ofNat Int n (@instOfNat n))) = ((a - @OfNat.ofNat Nat n (instOfNatNat n) : Nat) : Int)) ∧
  (∀ a n : Nat, a ≤ @OfNat.ofNat Nat n (instOfNatNat n) → (no_index (@OfNat.ofNat Int n (@instOfNat n))) - (a : Int) = ((@OfNat.ofNat Nat n (instOfNatNat n) - a : Nat) : Int)) ∧
  (∀ k : Nat, (2 : Int) ^ k = ((2 ^ k : Nat) : Int)) ∧
  (∀ a b : Nat, (a : Int) / (b : Int) = ((a / b : Nat) : Int)) ∧
  (∀ a n : Nat, (a : Int) % (no_index (@OfNat.ofNat Int n (@instOfNat n))) = ((a % @OfNat.ofNat Nat n (instOfNatNat n) : Nat) : Int)) ∧
  (∀ a b : Nat, (a : Int) % (b : Int) = ((a % b : Nat) : Int)) ∧
  (∀ a b : Nat, ((a : Int) < (b : Int)) = (a < b)) ∧
  (∀ a b : Nat, ((a : Int) ≤ (b : Int)) = (a ≤ b)) ∧
  (∀ a b : Nat, ((a : Int) = (b : Int)) = (a = b)) ∧
  (∀ a n : Nat, ((a : Int) < (no_index (@OfNat.ofNat Int n (@instOfNat n)))) = (a < @OfNat.ofNat Nat n (instOfNatNat n))) ∧
  (∀ a n : Nat, ((no_index (@OfNat.ofNat Int n (@instOfNat n))) < (a : Int)) = (@OfNat.ofNat Nat n (instOfNatNat n) < a)) ∧
  (∀ a n : Nat, ((a : Int) ≤ (no_index (@OfNat.ofNat Int n (@instOfNat n)))) = (a ≤ @OfNat.ofNat Nat n (instOfNatNat n))) ∧
  (∀ a n : Nat, ((no_index (@OfNat.ofNat Int n (@instOfNat n))) ≤ (a : Int)) = (@OfNat.ofNat Nat n (instOfNatNat n) ≤ a)) ∧
  (∀ a n : Nat, ((a : Int) = (no_index (@OfNat.ofNat Int n (@instOfNat n)))) = (a = @OfNat.ofNat Nat n (instOfNatNat n))) ∧
  (∀ a n : Nat, ((no_index (@OfNat.ofNat Int n (@instOfNat n))) = (a : Int)) = (@OfNat.ofNat Nat n (instOfNatNat n) = a)) :=
  ⟨fun _ => rfl,
  fun a b => (Int.natCast_add a b).symm,
  fun a b => (Int.natCast_mul a b).symm,
  fun a n => (Int.natCast_add a n).symm,
  fun a n => (Int.natCast_add n a).symm,
  fun a n => (Int.natCast_mul a n).symm,
  fun a n => (Int.natCast_mul n a).symm,
  fun a b => (Int.ofNat_fmod a b).symm,
  fun a n => (Int.ofNat_fmod a n).symm,
  fun a b => (Int.ofNat_fdiv a b).symm,
  fun a n => (Int.ofNat_fdiv a n).symm,
  fun a b h => (Int.ofNat_sub h).symm,
  fun a n h => (Int.ofNat_sub h).symm,
  fun a n h => (Int.ofNat_sub h).symm,
  fun k => (Int.natCast_pow 2 k).symm,
  fun a b => (Int.natCast_ediv a b).symm,
  fun a n => rfl,
  fun a n => rfl,
  fun a b => propext Int.ofNat_lt,
  fun a b => propext Int.ofNat_le,
  fun a b => propext Int.natCast_inj,
  fun a n => propext (@Int.ofNat_lt a n),
  fun a n => propext (@Int.ofNat_lt n a),
  fun a n => propext (@Int.ofNat_le a n),
  fun a n => propext (@Int.ofNat_le n a),
  fun a n => propext (@Int.natCast_inj a n),
  fun a n => propext (@Int.natCast_inj n a)⟩
def natsP (l : List Nat) : List PV := l.map fun (i : Nat) => .int (i : Int)
theorem natsP_cons (a : Nat) (l : List Nat) : natsP (a :: l) = .int (a : Nat) :: natsP l := rfl
theorem natsP_nil : natsP [] = [] := rfl
theorem natsP_len (l : List Nat) : (natsP l).length = l.length := List.length_map _
theorem natsP_get (l : List Nat) (i : Nat) : (natsP l)[i]? = (l[i]?).map fun (i : Nat) => .int (i : Int) := List.getElem?_map
def DrawsN : List Nat → List Nat → Prop
  | [], [] => True
  | a :: s, d :: r => d < a ∧ DrawsN s r
  | _, _ => False
theorem DrawsN.nil {ds : List Nat} (h : DrawsN [] ds) : ds = [] := by
  cases ds with
  | nil => rfl
  | cons d r => exact h.elim
theorem DrawsN.cons {a : Nat} {s ds : List Nat} (h : DrawsN (a :: s) ds) : ∃ d r, ds = d :: r ∧ d < a ∧ DrawsN s r := by
  cases ds with
  | nil => exact h.elim
  | cons d r => exact ⟨d, r, rfl, h⟩
theorem DrawsN.len : ∀ {s ds : List Nat}, DrawsN s ds → ds.length = s.length
  | [], [], _ => rfl
  | _ :: _, _ :: _, h => by rw [List.length_cons, List.length_cons, DrawsN.len h.2]
  | [], _ :: _, h => h.elim
  | _ :: _, [], h => h.elim
theorem DrawsN.get : ∀ {s ds : List Nat} {i a d : Nat}, DrawsN s ds → s[i]? = some a → ds[i]? = some d → d < a
  | _ :: _, _ :: _, 0, _, _, h, h1, h2 => by cases h1; cases h2; exact h.1
  | _ :: _, _ :: _, _ + 1, _, _, h, h1, h2 => DrawsN.get h.2 (by simpa using h1) (by simpa using h2)
  | [], _, _, _, _, _, h1, _ => by simp at h1
  | _ :: _, [], _, _, _, h, _, _ => h.elim
theorem DrawsN.of : ∀ {s ds : List Nat}, ds.length = s.length → (∀ (i a d : Nat), s[i]? = some a → ds[i]? = some d → d < a) → DrawsN s ds
  | [], [], _, _ => trivial
  | a :: s, d :: r, h, k => ⟨k 0 a d rfl rfl, DrawsN.of (by simpa using h) fun i a' d' h1 h2 => k (i + 1) a' d' (by simpa using h1) (by simpa using h2)⟩
  | [], _ :: _, h, _ => by simp at h
  | _ :: _, [], h, _ => by simp at h
theorem DrawsN.rep {a : Nat} : ∀ {n : Nat} {ds : List Nat}, DrawsN (List.replicate n a) ds → ds.length = n ∧ ∀ d ∈ ds, d < a
  | 0, ds, h => by rw [h.nil]; exact ⟨rfl, fun _ z => by cases z⟩
  | n + 1, ds, h => by
    rw [List.replicate_succ] at h
    obtain ⟨d, r, rfl, h1, h2⟩ := h.cons
    obtain ⟨h3, h4⟩ := DrawsN.rep h2
    refine ⟨by rw [List.length_cons, h3], fun x hx => ?_⟩
    rcases List.mem_cons.mp hx with rfl | hx
    · exact h1
    · exact h4 x hx
theorem DrawsN.d1 {a0 : Nat} {ds : List Nat} (h : DrawsN [a0] ds) : ∃ d0, ds = [d0] ∧ d0 < a0 := by
  obtain ⟨d0, r0, rfl, h0, k0⟩ := h.cons
  obtain rfl := k0.nil
  exact ⟨d0, rfl, h0⟩
theorem DrawsN.d2 {a0 a1 : Nat} {ds : List Nat} (h : DrawsN [a0, a1] ds) : ∃ d0 d1, ds = [d0, d1] ∧ d0 < a0 ∧ d1 < a1 := by
  obtain ⟨d0, r0, rfl, h0, k0⟩ := h.cons
  obtain ⟨d1, r1, rfl, h1, k1⟩ := k0.cons
  obtain rfl := k1.nil
  exact ⟨d0, d1, rfl, h0, h1⟩
theorem DrawsN.d3 {a0 a1 a2 : Nat} {ds : List Nat} (h : DrawsN [a0, a1, a2] ds) : ∃ d0 d1 d2, ds = [d0, d1, d2] ∧ d0 < a0 ∧ d1 < a1 ∧ d2 < a2 := by
  obtain ⟨d0, r0, rfl, h0, k0⟩ := h.cons
  obtain ⟨d1, r1, rfl, h1, k1⟩ := k0.cons
  obtain ⟨d2, r2, rfl, h2, k2⟩ := k1.cons
  obtain rfl := k2.nil
  exact ⟨d0, d1, d2, rfl, h0, h1, h2⟩
theorem DrawsN.d4 {a0 a1 a2 a3 : Nat} {ds : List Nat} (h : DrawsN [a0, a1, a2, a3] ds) : ∃ d0 d1 d2 d3, ds = [d0, d1, d2, d3] ∧ d0 < a0 ∧ d1 < a1 ∧ d2 < a2 ∧ d3 < a3 := by
  obtain ⟨d0, r0, rfl, h0, k0⟩ := h.cons
  obtain ⟨d1, r1, rfl, h1, k1⟩ := k0.cons
  obtain ⟨d2, r2, rfl, h2, k2⟩ := k1.cons
  obtain ⟨d3, r3, rfl, h3, k3⟩ := k2.cons
  obtain rfl := k3.nil
  exact ⟨d0, d1, d2, d3, rfl, h0, h1, h2, h3⟩
theorem DrawsN.d5 {a0 a1 a2 a3 a4 : Nat} {ds : List Nat} (h : DrawsN [a0, a1, a2, a3, a4] ds) : ∃ d0 d1 d2 d3 d4, ds = [d0, d1, d2, d3, d4] ∧ d0 < a0 ∧ d1 < a1 ∧ d2 < a2 ∧ d3 < a3 ∧ d4 < a4 := by
  obtain ⟨d0, r0, rfl, h0, k0⟩ := h.cons
  obtain ⟨d1, r1, rfl, h1, k1⟩ := k0.cons
  obtain ⟨d2, r2, rfl, h2, k2⟩ := k1.cons
  obtain ⟨d3, r3, rfl, h3, k3⟩ := k2.cons
  obtain ⟨d4, r4, rfl, h4, k4⟩ := k3.cons
  obtain rfl := k4.nil
  exact ⟨d0, d1, d2, d3, d4, rfl, h0, h1, h2, h3, h4⟩
theorem DrawsN.d6 {a0 a1 a2 a3 a4 a5 : Nat} {ds : List Nat} (h : DrawsN [a0, a1, a2, a3, a4, a5] ds) : ∃ d0 d1 d2 d3 d4 d5, ds = [d0, d1, d2, d3, d4, d5] ∧ d0 < a0 ∧ d1 < a1 ∧ d2 < a2 ∧ d3 < a3 ∧ d4 < a4 ∧ d5 < a5 := by
  obtain ⟨d0, r0, rfl, h0, k0⟩ := h.cons
  obtain ⟨d1, r1, rfl, h1, k1⟩ := k0.cons
  obtain ⟨d2, r2, rfl, h2, k2⟩ := k1.cons
  obtain ⟨d3, r3, rfl, h3, k3⟩ := k2.cons
  obtain ⟨d4, r4, rfl, h4, k4⟩ := k3.cons
  obtain ⟨d5, r5, rfl, h5, k5⟩ := k4.cons
  obtain rfl := k5.nil
  exact ⟨d0, d1, d2, d3, d4, d5, rfl, h0, h1, h2, h3, h4, h5⟩
theorem DrawsN.d7 {a0 a1 a2 a3 a4 a5 a6 : Nat} {ds : List Nat} (h : DrawsN [a0, a1, a2, a3, a4, a5, a6] ds) : ∃ d0 d1 d2 d3 d4 d5 d6, ds = [d0, d1, d2, d3, d4, d5, d6] ∧ d0 < a0 ∧ d1 < a1 ∧ d2 < a2 ∧ d3 < a3 ∧ d4 < a4 ∧ d5 < a5 ∧ d6 < a6 := by
  obtain ⟨d0, r0, rfl, h0, k0⟩ := h.cons
  obtain ⟨d1, r1, rfl, h1, k1⟩ := k0.cons
  obtain ⟨d2, r2, rfl, h2, k2⟩ := k1.cons
  obtain ⟨d3, r3, rfl, h3, k3⟩ := k2.cons
  obtain ⟨d4, r4, rfl, h4, k4⟩ := k3.cons
  obtain ⟨d5, r5, rfl, h5, k5⟩ := k4.cons
  obtain ⟨d6, r6, rfl, h6, k6⟩ := k5.cons
  obtain rfl := k6.nil
  exact ⟨d0, d1, d2, d3, d4, d5, d6, rfl, h0, h1, h2, h3, h4, h5, h6⟩
theorem DrawsN.d8 {a0 a1 a2 a3 a4 a5 a6 a7 : Nat} {ds : List Nat} (h : DrawsN [a0, a1, a2, a3, a4, a5, a6, a7] ds) : ∃ d0 d1 d2 d3 d4 d5 d6 d7, ds = [d0, d1, d2, d3, d4, d5, d6, d7] ∧ d0 < a0 ∧ d1 < a1 ∧ d2 < a2 ∧ d3 < a3 ∧ d4 < a4 ∧ d5 < a5 ∧ d6 < a6 ∧ d7 < a7 := by
  obtain ⟨d0, r0, rfl, h0, k0⟩ := h.cons
  obtain ⟨d1, r1, rfl, h1, k1⟩ := k0.cons
  obtain ⟨d2, r2, rfl, h2, k2⟩ := k1.cons
  obtain ⟨d3, r3, rfl, h3, k3⟩ := k2.cons
  obtain ⟨d4, r4, rfl, h4, k4⟩ := k3.cons
  obtain ⟨d5, r5, rfl, h5, k5⟩ := k4.cons
  obtain ⟨d6, r6, rfl, h6, k6⟩ := k5.cons
  obtain ⟨d7, r7, rfl, h7, k7⟩ := k6.cons
  obtain rfl := k7.nil
  exact ⟨d0, d1, d2, d3, d4, d5, d6, d7, rfl, h0, h1, h2, h3, h4, h5, h6, h7⟩
theorem DrawsN.d9 {a0 a1 a2 a3 a4 a5 a6 a7 a8 : Nat} {ds : List Nat} (h : DrawsN [a0, a1, a2, a3, a4, a5, a6, a7, a8] ds) : ∃ d0 d1 d2 d3 d4 d5 d6 d7 d8, ds = [d0, d1, d2, d3, d4, d5, d6, d7, d8] ∧ d0 < a0 ∧ d1 < a1 ∧ d2 < a2 ∧ d3 < a3 ∧ d4 < a4 ∧ d5 < a5 ∧ d6 < a6 ∧ d7 < a7 ∧ d8 < a8 := by
  obtain ⟨d0, r0, rfl, h0, k0⟩ := h.cons
  obtain ⟨d1, r1, rfl, h1, k1⟩ := k0.cons
  obtain ⟨d2, r2, rfl, h2, k2⟩ := k1.cons
  obtain ⟨d3, r3, rfl, h3, k3⟩ := k2.cons
  obtain ⟨d4, r4, rfl, h4, k4⟩ := k3.cons
  obtain ⟨d5, r5, rfl, h5, k5⟩ := k4.cons
  obtain ⟨d6, r6, rfl, h6, k6⟩ := k5.cons
  obtain ⟨d7, r7, rfl, h7, k7⟩ := k6.cons
  obtain ⟨d8, r8, rfl, h8, k8⟩ := k7.cons
  obtain rfl := k8.nil
  exact ⟨d0, d1, d2, d3, d4, d5, d6, d7, d8, rfl, h0, h1, h2, h3, h4, h5, h6, h7, h8⟩
theorem DrawsN.d10 {a0 a1 a2 a3 a4 a5 a6 a7 a8 a9 : Nat} {ds : List Nat} (h : DrawsN [a0, a1, a2, a3, a4, a5, a6, a7, a8, a9] ds) : ∃ d0 d1 d2 d3 d4 d5 d6 d7 d8 d9, ds = [d0, d1, d2, d3, d4, d5, d6, d7, d8, d9] ∧ d0 < a0 ∧ d1 < a1 ∧ d2 < a2 ∧ d3 < a3 ∧ d4 < a4 ∧ d5 < a5 ∧ d6 < a6 ∧ d7 < a7 ∧ d8 < a8 ∧ d9 < a9 := by
  obtain ⟨d0, r0, rfl, h0, k0⟩ := h.cons
  obtain ⟨d1, r1, rfl, h1, k1⟩ := k0.cons
  obtain ⟨d2, r2, rfl, h2, k2⟩ := k1.cons
  obtain ⟨d3, r3, rfl, h3, k3⟩ := k2.cons
  obtain ⟨d4, r4, rfl, h4, k4⟩ := k3.cons
  obtain ⟨d5, r5, rfl, h5, k5⟩ := k4.cons
  obtain ⟨d6, r6, rfl, h6, k6⟩ := k5.cons
  obtain ⟨d7, r7, rfl, h7, k7⟩ := k6.cons
  obtain ⟨d8, r8, rfl, h8, k8⟩ := k7.cons
  obtain ⟨d9, r9, rfl, h9, k9⟩ := k8.cons
  obtain rfl := k9.nil
  exact ⟨d0, d1, d2, d3, d4, d5, d6, d7, d8, d9, rfl, h0, h1, h2, h3, h4, h5, h6, h7, h8, h9⟩
theorem DrawsN.d11 {a0 a1 a2 a3 a4 a5 a6 a7 a8 a9 a10 : Nat} {ds : List Nat} (h : DrawsN [a0, a1, a2, a3, a4, a5, a6, a7, a8, a9, a10] ds) : ∃ d0 d1 d2 d3 d4 d5 d6 d7 d8 d9 d10, ds = [d0, d1, d2, d3, d4, d5, d6, d7, d8, d9, d10] ∧ d0 < a0 ∧ d1 < a1 ∧ d2 < a2 ∧ d3 < a3 ∧ d4 < a4 ∧ d5 < a5 ∧ d6 < a6 ∧ d7 < a7 ∧ d8 < a8 ∧ d9 < a9 ∧ d10 < a10 := by
  obtain ⟨d0, r0, rfl, h0, k0⟩ := h.cons
  obtain ⟨d1, r1, rfl, h1, k1⟩ := k0.cons
  obtain ⟨d2, r2, rfl, h2, k2⟩ := k1.cons
  obtain ⟨d3, r3, rfl, h3, k3⟩ := k2.cons
  obtain ⟨d4, r4, rfl, h4, k4⟩ := k3.cons
  obtain ⟨d5, r5, rfl, h5, k5⟩ := k4.cons
  obtain ⟨d6, r6, rfl, h6, k6⟩ := k5.cons
  obtain ⟨d7, r7, rfl, h7, k7⟩ := k6.cons
  obtain ⟨d8, r8, rfl, h8, k8⟩ := k7.cons
  obtain ⟨d9, r9, rfl, h9, k9⟩ := k8.cons
  obtain ⟨d10, r10, rfl, h10, k10⟩ := k9.cons
  obtain rfl := k10.nil
  exact ⟨d0, d1, d2, d3, d4, d5, d6, d7, d8, d9, d10, rfl, h0, h1, h2, h3, h4, h5, h6, h7, h8, h9, h10⟩
theorem DrawsN.d12 {a0 a1 a2 a3 a4 a5 a6 a7 a8 a9 a10 a11 : Nat} {ds : List Nat} (h : DrawsN [a0, a1, a2, a3, a4, a5, a6, a7, a8, a9, a10, a11] ds) : ∃ d0 d1 d2 d3 d4 d5 d6 d7 d8 d9 d10 d11, ds = [d0, d1, d2, d3, d4, d5, d6, d7, d8, d9, d10, d11] ∧ d0 < a0 ∧ d1 < a1 ∧ d2 < a2 ∧ d3 < a3 ∧ d4 < a4 ∧ d5 < a5 ∧ d6 < a6 ∧ d7 < a7 ∧ d8 < a8 ∧ d9 < a9 ∧ d10 < a10 ∧ d11 < a11 := by
  obtain ⟨d0, r0, rfl, h0, k0⟩ := h.cons
  obtain ⟨d1, r1, rfl, h1, k1⟩ := k0.cons
  obtain ⟨d2, r2, rfl, h2, k2⟩ := k1.cons
  obtain ⟨d3, r3, rfl, h3, k3⟩ := k2.cons
  obtain ⟨d4, r4, rfl, h4, k4⟩ := k3.cons
  obtain ⟨d5, r5, rfl, h5, k5⟩ := k4.cons
  obtain ⟨d6, r6, rfl, h6, k6⟩ := k5.cons
  obtain ⟨d7, r7, rfl, h7, k7⟩ := k6.cons
  obtain ⟨d8, r8, rfl, h8, k8⟩ := k7.cons
  obtain ⟨d9, r9, rfl, h9, k9⟩ := k8.cons
  obtain ⟨d10, r10, rfl, h10, k10⟩ := k9.cons
  obtain ⟨d11, r11, rfl, h11, k11⟩ := k10.cons
  obtain rfl := k11.nil
  exact ⟨d0, d1, d2, d3, d4, d5, d6, d7, d8, d9, d10, d11, rfl, h0, h1, h2, h3, h4, h5, h6, h7, h8, h9, h10, h11⟩
theorem DrawsN.d13 {a0 a1 a2 a3 a4 a5 a6 a7 a8 a9 a10 a11 a12 : Nat} {ds : List Nat} (h : DrawsN [a0, a1, a2, a3, a4, a5, a6, a7, a8, a9, a10, a11, a12] ds) : ∃ d0 d1 d2 d3 d4 d5 d6 d7 d8 d9 d10 d11 d12, ds = [d0, d1, d2, d3, d4, d5, d6, d7, d8, d9, d10, d11, d12] ∧ d0 < a0 ∧ d1 < a1 ∧ d2 < a2 ∧ d3 < a3 ∧ d4 < a4 ∧ d5 < a5 ∧ d6 < a6 ∧ d7 < a7 ∧ d8 < a8 ∧ d9 < a9 ∧ d10 < a10 ∧ d11 < a11 ∧ d12 < a12 := by
  obtain ⟨d0, r0, rfl, h0, k0⟩ := h.cons
  obtain ⟨d1, r1, rfl, h1, k1⟩ := k0.cons
  obtain ⟨d2, r2, rfl, h2, k2⟩ := k1.cons
  obtain ⟨d3, r3, rfl, h3, k3⟩ := k2.cons
  obtain ⟨d4, r4, rfl, h4, k4⟩ := k3.cons
  obtain ⟨d5, r5, rfl, h5, k5⟩ := k4.cons
  obtain ⟨d6, r6, rfl, h6, k6⟩ := k5.cons
  obtain ⟨d7, r7, rfl, h7, k7⟩ := k6.cons
  obtain ⟨d8, r8, rfl, h8, k8⟩ := k7.cons
  obtain ⟨d9, r9, rfl, h9, k9⟩ := k8.cons
  obtain ⟨d10, r10, rfl, h10, k10⟩ := k9.cons
  obtain ⟨d11, r11, rfl, h11, k11⟩ := k10.cons
  obtain ⟨d12, r12, rfl, h12, k12⟩ := k11.cons
  obtain rfl := k12.nil
  exact ⟨d0, d1, d2, d3, d4, d5, d6, d7, d8, d9, d10, d11, d12, rfl, h0, h1, h2, h3, h4, h5, h6, h7, h8, h9, h10, h11, h12⟩
theorem DrawsN.d14 {a0 a1 a2 a3 a4 a5 a6 a7 a8 a9 a10 a11 a12 a13 : Nat} {ds : List Nat} (h : DrawsN [a0, a1, a2, a3, a4, a5, a6, a7, a8, a9, a10, a11, a12, a13] ds) : ∃ d0 d1 d2 d3 d4 d5 d6 d7 d8 d9 d10 d11 d12 d13, ds = [d0, d1, d2, d3, d4, d5, d6, d7, d8, d9, d10, d11, d12, d13] ∧ d0 < a0 ∧ d1 < a1 ∧ d2 < a2 ∧ d3 < a3 ∧ d4 < a4 ∧ d5 < a5 ∧ d6 < a6 ∧ d7 < a7 ∧ d8 < a8 ∧ d9 < a9 ∧ d10 < a10 ∧ d11 < a11 ∧ d12 < a12 ∧ d13 < a13 := by
  obtain ⟨d0, r0, rfl, h0, k0⟩ := h.cons
  obtain ⟨d1, r1, rfl, h1, k1⟩ := k0.cons
  obtain ⟨d2, r2, rfl, h2, k2⟩ := k1.cons
  obtain ⟨d3, r3, rfl, h3, k3⟩ := k2.cons
  obtain ⟨d4, r4, rfl, h4, k4⟩ := k3.cons
  obtain ⟨d5, r5, rfl, h5, k5⟩ := k4.cons
  obtain ⟨d6, r6, rfl, h6, k6⟩ := k5.cons
  obtain ⟨d7, r7, rfl, h7, k7⟩ := k6.cons
  obtain ⟨d8, r8, rfl, h8, k8⟩ := k7.cons
  obtain ⟨d9, r9, rfl, h9, k9⟩ := k8.cons
  obtain ⟨d10, r10, rfl, h10, k10⟩ := k9.cons
  obtain ⟨d11, r11, rfl, h11, k11⟩ := k10.cons
  obtain ⟨d12, r12, rfl, h12, k12⟩ := k11.cons
  obtain ⟨d13, r13, rfl, h13, k13⟩ := k12.cons
  obtain rfl := k13.nil
  exact ⟨d0, d1, d2, d3, d4, d5, d6, d7, d8, d9, d10, d11, d12, d13, rfl, h0, h1, h2, h3, h4, h5, h6, h7, h8, h9, h10, h11, h12, h13⟩
theorem DrawsN.d15 {a0 a1 a2 a3 a4 a5 a6 a7 a8 a9 a10 a11 a12 a13 a14 : Nat} {ds : List Nat} (h : DrawsN [a0, a1, a2, a3, a4, a5, a6, a7, a8, a9, a10, a11, a12, a13, a14] ds) : ∃ d0 d1 d2 d3 d4 d5 d6 d7 d8 d9 d10 d11 d12 d13 d14, ds = [d0, d1, d2, d3, d4, d5, d6, d7, d8, d9, d10, d11, d12, d13, d14] ∧ d0 < a0 ∧ d1 < a1 ∧ d2 < a2 ∧ d3 < a3 ∧ d4 < a4 ∧ d5 < a5 ∧ d6 < a6 ∧ d7 < a7 ∧ d8 < a8 ∧ d9 < a9 ∧ d10 < a10 ∧ d11 < a11 ∧ d12 < a12 ∧ d13 < a13 ∧ d14 < a14 := by
  obtain ⟨d0, r0, rfl, h0, k0⟩ := h.cons
  obtain ⟨d1, r1, rfl, h1, k1⟩ := k0.cons
  obtain ⟨d2, r2, rfl, h2, k2⟩ := k1.cons
  obtain ⟨d3, r3, rfl, h3, k3⟩ := k2.cons
  obtain ⟨d4, r4, rfl, h4, k4⟩ := k3.cons
  obtain ⟨d5, r5, rfl, h5, k5⟩ := k4.cons
  obtain ⟨d6, r6, rfl, h6, k6⟩ := k5.cons
  obtain ⟨d7, r7, rfl, h7, k7⟩ := k6.cons
  obtain ⟨d8, r8, rfl, h8, k8⟩ := k7.cons
  obtain ⟨d9, r9, rfl, h9, k9⟩ := k8.cons
  obtain ⟨d10, r10, rfl, h10, k10⟩ := k9.cons
  obtain ⟨d11, r11, rfl, h11, k11⟩ := k10.cons
  obtain ⟨d12, r12, rfl, h12, k12⟩ := k11.cons
  obtain ⟨d13, r13, rfl, h13, k13⟩ := k12.cons
  obtain ⟨d14, r14, rfl, h14, k14⟩ := k13.cons
  obtain rfl := k14.nil
  exact ⟨d0, d1, d2, d3, d4, d5, d6, d7, d8, d9, d10, d11, d12, d13, d14, rfl, h0, h1, h2, h3, h4, h5, h6, h7, h8, h9, h10, h11, h12, h13, h14⟩
theorem DrawsN.d16 {a0 a1 a2 a3 a4 a5 a6 a7 a8 a9 a10 a11 a12 a13 a14 a15 : Nat} {ds : List Nat} (h : DrawsN [a0, a1, a2, a3, a4, a5, a6, a7, a8, a9, a10, a11, a12, a13, a14, a15] ds) : ∃ d0 d1 d2 d3 d4 d5 d6 d7 d8 d9 d10 d11 d12 d13 d14 d15, ds = [d0, d1, d2, d3, d4, d5, d6, d7, d8, d9, d10, d11, d12, d13, d14, d15] ∧ d0 < a0 ∧ d1 < a1 ∧ d2 < a2 ∧ d3 < a3 ∧ d4 < a4 ∧ d5 < a5 ∧ d6 < a6 ∧ d7 < a7 ∧ d8 < a8 ∧ d9 < a9 ∧ d10 < a10 ∧ d11 < a11 ∧ d12 < a12 ∧ d13 < a13 ∧ d14 < a14 ∧ d15 < a15 := by
  obtain ⟨d0, r0, rfl, h0, k0⟩ := h.cons
  obtain ⟨d1, r1, rfl, h1, k1⟩ := k0.cons
  obtain ⟨d2, r2, rfl, h2, k2⟩ := k1.cons
  obtain ⟨d3, r3, rfl, h3, k3⟩ := k2.cons
  obtain ⟨d4, r4, rfl, h4, k4⟩ := k3.cons
  obtain ⟨d5, r5, rfl, h5, k5⟩ := k4.cons
  obtain ⟨d6, r6, rfl, h6, k6⟩ := k5.cons
  obtain ⟨d7, r7, rfl, h7, k7⟩ := k6.cons
  obtain ⟨d8, r8, rfl, h8, k8⟩ := k7.cons
  obtain ⟨d9, r9, rfl, h9, k9⟩ := k8.cons
  obtain ⟨d10, r10, rfl, h10, k10⟩ := k9.cons
  obtain ⟨d11, r11, rfl, h11, k11⟩ := k10.cons
  obtain ⟨d12, r12, rfl, h12, k12⟩ := k11.cons
  obtain ⟨d13, r13, rfl, h13, k13⟩ := k12.cons
  obtain ⟨d14, r14, rfl, h14, k14⟩ := k13.cons
  obtain ⟨d15, r15, rfl, h15, k15⟩ := k14.cons
  obtain rfl := k15.nil
  exact ⟨d0, d1, d2, d3, d4, d5, d6, d7, d8, d9, d10, d11, d12, d13, d14, d15, rfl, h0, h1, h2, h3, h4, h5, h6, h7, h8, h9, h10, h11, h12, h13, h14, h15⟩
section
variable {g : DG} {t : DT} {e : DE} {ρ : PEnv}
theorem lc_fltN {n : Nat} (p : Nat → Bool) (hl : n ≤ 1000000) (h : ∀ i < n, oneR (g (.int (i : Nat)) ρ) t e = .ok (if p i then some (.int (i : Nat)) else none)) : lcR g t e ρ (.ok (rngP 0 n)) = .ok (.lst (natsP ((List.range n).filter p))) := by
  have e0 : rngP 0 n = (List.range n).map fun (i : Nat) => PV.int (i : Int) := by
    unfold rngP
    exact List.map_congr_left fun i _ => by rw [Int.zero_add]
  rw [e0]
  exact lc_fltm p _ (by rw [List.length_range]; exact hl) fun i hi => h i (List.mem_range.mp hi)
theorem lc_fltP {xs : List Nat} (p : Nat → Bool) (hl : xs.length ≤ 1000000) (h : ∀ i ∈ xs, oneR (g (.int (i : Nat)) ρ) t e = .ok (if p i then some (.int (i : Nat)) else none)) : lcR g t e ρ (.ok (natsP xs)) = .ok (.lst (natsP (xs.filter p))) := lc_fltm p _ hl h
theorem lc_strs {xs : List Str} (p : Str → Bool) (hl : xs.length ≤ 1000000) (h : ∀ x ∈ xs, oneR (g (.str x) ρ) t e = .ok (if p x then some (.str x) else none)) : lcR g t e ρ (.ok (xs.map PV.str)) = .ok (.lst ((xs.filter p).map PV.str)) := lc_fltm p _ hl h
end
end PP

/-! PPMark: lanes (many bits side by side) and the marks of rows -/
namespace PP
open PySem L2
/-- f's bits below N as a number -/
def lane : Nat → (Nat → Bool) → Nat
  | 0, _ => 0
  | n + 1, f => lane n f + (f n).toNat * 2 ^ n
theorem lane_lt (f : Nat → Bool) : ∀ N, lane N f < 2 ^ N
  | 0 => Nat.one_pos
  | n + 1 => by
    have := lane_lt f n
    have h : (f n).toNat ≤ 1 := by cases f n <;> decide
    have h2 : (f n).toNat * 2 ^ n ≤ 1 * 2 ^ n := Nat.mul_le_mul_right _ h
    show lane n f + (f n).toNat * 2 ^ n < _
    rw [Nat.pow_succ]
    omega
theorem lane_bit (f : Nat → Bool) : ∀ (N q : Nat), (lane N f).testBit q = (decide (q < N) && f q)
  | 0, q => by show Nat.testBit 0 q = _; simp
  | n + 1, q => by
    show (lane n f + (f n).toNat * 2 ^ n).testBit q = _
    rw [Nat.add_comm, Nat.mul_comm, Nat.testBit_two_pow_mul_add _ (lane_lt f n), lane_bit f n q]
    by_cases h : q < n
    · rw [if_pos h]
      simp [h, Nat.lt_succ_of_lt h]
    · rw [if_neg h]
      by_cases h2 : q = n
      · subst h2
        rw [Nat.sub_self]
        cases f q <;> simp
      · rw [show decide (q < n + 1) = false from decide_eq_false (by omega), Bool.false_and]
        have : q - n ≠ 0 := by omega
        obtain ⟨k, hk⟩ := Nat.exists_eq_succ_of_ne_zero this
        rw [hk]
        cases f n <;> simp [Nat.testBit_succ]
theorem lane_eq {N : Nat} {f g : Nat → Bool} (h : ∀ q, q < N → f q = g q) : lane N f = lane N g := by
  induction N with
  | zero => rfl
  | succ n ih => show lane n f + _ = lane n g + _; rw [ih fun q hq => h q (Nat.lt_succ_of_lt hq), h n (Nat.lt_succ_self n)]
theorem lane_and (N : Nat) (f g : Nat → Bool) : lane N f &&& lane N g = lane N fun q => f q && g q := by
  apply Nat.eq_of_testBit_eq
  intro q
  rw [Nat.testBit_and, lane_bit, lane_bit, lane_bit]
  cases decide (q < N) <;> simp
theorem lane_add (f g : Nat → Bool) : ∀ N, lane N f + lane N g = lane N (fun q => f q || g q) + lane N fun q => f q && g q
  | 0 => rfl
  | n + 1 => by
    have ih := lane_add f g n
    show lane n f + (f n).toNat * 2 ^ n + (lane n g + (g n).toNat * 2 ^ n) = lane n (fun q => f q || g q) + (f n || g n).toNat * 2 ^ n + (lane n (fun q => f q && g q) + (f n && g n).toNat * 2 ^ n)
    cases f n <;> cases g n <;> simp <;> omega
theorem lane_xor (f g : Nat → Bool) : ∀ N, lane N f + lane N g = lane N (fun q => f q != g q) + 2 * lane N fun q => f q && g q
  | 0 => rfl
  | n + 1 => by
    have ih := lane_xor f g n
    show lane n f + (f n).toNat * 2 ^ n + (lane n g + (g n).toNat * 2 ^ n) = lane n (fun q => f q != g q) + (f n != g n).toNat * 2 ^ n + 2 * (lane n (fun q => f q && g q) + (f n && g n).toNat * 2 ^ n)
    cases f n <;> cases g n <;> simp <;> omega
theorem lane_sub (f g : Nat → Bool) : ∀ N, lane N f = lane N (fun q => f q && !g q) + lane N fun q => f q && g q
  | 0 => rfl
  | n + 1 => by
    have ih := lane_sub f g n
    show lane n f + (f n).toNat * 2 ^ n = lane n (fun q => f q && !g q) + (f n && !g n).toNat * 2 ^ n + (lane n (fun q => f q && g q) + (f n && g n).toNat * 2 ^ n)
    cases f n <;> cases g n <;> simp <;> omega
theorem lane_full : ∀ N, lane N (fun _ => true) = 2 ^ N - 1
  | 0 => rfl
  | n + 1 => by
    show lane n (fun _ => true) + 1 * 2 ^ n = _
    have := Nat.two_pow_pos n
    rw [lane_full n, Nat.pow_succ]
    omega
theorem lane_none : ∀ N, lane N (fun _ => false) = 0
  | 0 => rfl
  | n + 1 => by show lane n (fun _ => false) + 0 * 2 ^ n = 0; rw [lane_none n]; simp
theorem lane_div {N q : Nat} (f : Nat → Bool) (h : q < N) : lane N f / 2 ^ q % 2 = (f q).toNat := by
  have := lane_bit f N q
  rw [decide_eq_true h, Bool.true_and] at this
  rw [← this, Nat.testBit_eq_decide_div_mod_eq]
  have h2 : lane N f / 2 ^ q % 2 < 2 := Nat.mod_lt _ (by decide)
  generalize lane N f / 2 ^ q % 2 = z at *
  match z, h2 with
  | 0, _ => rfl
  | 1, _ => rfl
theorem and_nat (a b : Nat) : Builtin.bitAnd (a : Int) (b : Int) = ((a &&& b : Nat) : Int) := and_pp (Int.natCast_nonneg a) (Int.natCast_nonneg b)
theorem oAnd_lane {N : Nat} {f g : Nat → Bool} : oAnd (.int (lane N f : Nat)) (.int (lane N g : Nat)) = .ok (.int ((lane N fun q => f q && g q : Nat) : Int)) := by
  show R.ok (PV.int (Builtin.bitAnd _ _)) = _
  rw [and_nat, lane_and]
theorem oOr_lane {N : Nat} {f g : Nat → Bool} : oOr (.int (lane N f : Nat)) (.int (lane N g : Nat)) = .ok (.int ((lane N fun q => f q || g q : Nat) : Int)) := by
  show R.ok (PV.int (Builtin.bitOr _ _)) = _
  rw [PyProof.Rows.bitOr_and, and_nat, lane_and]
  have := lane_add f g N
  congr 2
  omega
theorem oXor_lane {N : Nat} {f g : Nat → Bool} : oXor (.int (lane N f : Nat)) (.int (lane N g : Nat)) = .ok (.int ((lane N fun q => f q != g q : Nat) : Int)) := by
  show R.ok (PV.int (Builtin.bitXor _ _)) = _
  rw [PyProof.Rows.bitXor_and, and_nat, lane_and]
  have := lane_xor f g N
  congr 2
  omega
theorem oNot_lane {N : Nat} {f g : Nat → Bool} : binR oAnd (.ok (.int (lane N f : Nat))) (oInv (.int (lane N g : Nat))) = .ok (.int ((lane N fun q => f q && !g q : Nat) : Int)) := by
  show R.ok (PV.int (Builtin.bitAnd _ (Builtin.bitNot _))) = _
  have h1 := lane_sub f g N
  have h2 : Builtin.bitAnd ((lane N f : Nat) : Int) (Builtin.bitNot ((lane N g : Nat) : Int)) = (lane N f : Nat) - ((lane N f &&& lane N g : Nat) : Int) := by
    unfold Builtin.bitAnd
    rw [decide_eq_true (Int.natCast_nonneg _), decide_eq_false (by unfold Builtin.bitNot; omega)]
    show ((lane N f : Nat) : Int) - ((((lane N f : Nat) : Int).toNat &&& (Builtin.bitNot (Builtin.bitNot ((lane N g : Nat) : Int))).toNat : Nat) : Int) = _
    rw [show Builtin.bitNot (Builtin.bitNot ((lane N g : Nat) : Int)) = (lane N g : Nat) by unfold Builtin.bitNot; omega]
    rfl
  rw [h2, lane_and]
  congr 2
  omega

/-! ### a step of a row at one place -/
def Deed.marked : Deed → Bool
  | .shift _ | .minus _ | .add _ _ | .sub _ _ | .count _ _ _ => true
  | _ => false
def Deed.lim : Deed → Nat
  | .count p _ _ => p
  | _ => 2
def bAt (bs : List Bool) (i : Nat) : Bool := bs.getD i false
def onesOf (bs : List Bool) (ps : List Nat) : Nat := (ps.map fun i => (bAt bs i).toNat).sum
def Deed.bit (bs : List Bool) (k : Nat) : Deed → Bool
  | .zero => false
  | .ones => true
  | .not a => !bAt bs a
  | .and a b => bAt bs a && bAt bs b
  | .or a b => bAt bs a || bAt bs b
  | .xor a b => bAt bs a != bAt bs b
  | .shift _ => k == 1
  | .minus a => bAt bs a != (k == 1)
  | .add a b => (bAt bs a != bAt bs b) != (k == 1)
  | .sub a b => (bAt bs a != bAt bs b) != (k == 1)
  | .count _ r _ => k == r
def Deed.nxt (bs : List Bool) (k : Nat) : Deed → Nat
  | .shift a => (bAt bs a).toNat
  | .minus a => (bAt bs a || k == 1).toNat
  | .add a b => ((bAt bs a && bAt bs b) || ((bAt bs a || bAt bs b) && k == 1)).toNat
  | .sub a b => (((bAt bs b || k == 1) && !bAt bs a) || (bAt bs b && k == 1)).toNat
  | .count p _ ps => (k + onesOf bs ps) % p
  | _ => 0
/-- one deed more: the bits so far, the marks behind so far; M the marks ahead -/
def stepD (M : List Nat) (s : List Bool × List Nat) (d : Deed) : List Bool × List Nat :=
  (s.1 ++ [d.bit s.1 (M.getD s.2.length 0)], if d.marked then s.2 ++ [d.nxt s.1 (M.getD s.2.length 0)] else s.2)
def stepsD (M : List Nat) (B : List Bool) (ds : List Deed) : List Bool × List Nat := ds.foldl (stepD M) (B, [])
theorem stepsD_snoc {M : List Nat} {B : List Bool} {ds : List Deed} {d : Deed} : stepsD M B (ds ++ [d]) = stepD M (stepsD M B ds) d := by
  unfold stepsD
  rw [List.foldl_append]
  rfl
def mdeeds (ds : List Deed) : List Deed := ds.filter Deed.marked
theorem mdeeds_snoc {ds : List Deed} {d : Deed} : mdeeds (ds ++ [d]) = if d.marked then mdeeds ds ++ [d] else mdeeds ds := by
  unfold mdeeds
  rw [List.filter_append]
  cases h : d.marked <;> simp [h]
theorem stepsD_len {M : List Nat} {B : List Bool} : ∀ {ds : List Deed} {k : Nat}, k = ds.length → (stepsD M B ds).1.length = B.length + ds.length ∧ (stepsD M B ds).2.length = (mdeeds ds).length
  | ds, 0, h => by
    cases ds with
    | nil => exact ⟨rfl, rfl⟩
    | cons _ _ => simp at h
  | ds, k + 1, h => by
    have hne : ds ≠ [] := by rintro rfl; simp at h
    rw [← List.dropLast_concat_getLast hne] at h ⊢
    generalize ds.dropLast = r at *
    generalize ds.getLast hne = d at *
    obtain ⟨h1, h2⟩ := stepsD_len (M := M) (B := B) (ds := r) (k := k) (by simpa using h)
    rw [stepsD_snoc, mdeeds_snoc]
    unfold stepD
    constructor
    · simp only [List.length_append, h1, List.length_singleton]; omega
    · cases d.marked
      · exact h2
      · simp only [List.length_append, h2, List.length_singleton, if_true]
/-- the place of a marked deed among the marked ones -/
theorem mdeeds_at {ds : List Deed} {i : Nat} {d : Deed} (h : ds[i]? = some d) (hm : d.marked = true) : (mdeeds ds)[(mdeeds (ds.take i)).length]? = some d := by
  have e : ds = ds.take i ++ d :: ds.drop (i + 1) := by
    have hl : i < ds.length := (List.getElem?_eq_some_iff.mp h).1
    have h' := (List.getElem?_eq_some_iff.mp h).2
    rw [← h', ← List.drop_eq_getElem_cons hl, List.take_append_drop]
  generalize ds.take i = a at *
  generalize ds.drop (i + 1) = b at *
  rw [e]
  unfold mdeeds
  rw [List.filter_append, List.filter_cons_of_pos hm, List.getElem?_append_right (Nat.le_refl _), Nat.sub_self]
  rfl
/-- marks as lanes -/
def markPV (N : Nat) (d : Deed) (g : Nat → Nat) : PV := match d with
  | .count p _ _ => .lst ((List.range p).map fun r => .int ((lane N fun q => g q == r : Nat) : Int))
  | _ => .int ((lane N fun q => g q == 1 : Nat) : Int)
def heldPV (N : Nat) (ds : List Deed) (M : Nat → List Nat) : List PV := ds.mapIdx fun i d => markPV N d fun q => (M q).getD i 0
theorem heldPV_get {N i : Nat} {ds : List Deed} {M : Nat → List Nat} {d : Deed} (h : ds[i]? = some d) : (heldPV N ds M)[i]? = some (markPV N d fun q => (M q).getD i 0) := by
  unfold heldPV
  rw [List.getElem?_mapIdx, h]
  rfl
theorem heldPV_len {N : Nat} {ds : List Deed} {M : Nat → List Nat} : (heldPV N ds M).length = ds.length := by unfold heldPV; rw [List.length_mapIdx]
def lanesPV (N cnt : Nat) (L : Nat → List Bool) : List PV := (List.range cnt).map fun j => .int ((lane N fun q => bAt (L q) j : Nat) : Int)
theorem lanesPV_get {N cnt i : Nat} {L : Nat → List Bool} (h : i < cnt) : (lanesPV N cnt L)[i]? = some (.int ((lane N fun q => bAt (L q) i : Nat) : Int)) := by
  unfold lanesPV
  rw [List.getElem?_map, List.getElem?_range h]
  rfl
theorem lanesPV_len {N cnt : Nat} {L : Nat → List Bool} : (lanesPV N cnt L).length = cnt := by unfold lanesPV; rw [List.length_map, List.length_range]
theorem bAt_snoc {bs : List Bool} {b : Bool} {j n : Nat} (hn : bs.length = n) : bAt (bs ++ [b]) j = if j = n then b else bAt bs j := by
  unfold bAt
  subst hn
  rw [List.getD_eq_getElem?_getD, List.getD_eq_getElem?_getD]
  by_cases h : j = bs.length
  · subst h
    rw [if_pos rfl]
    simp
  · rw [if_neg h]
    by_cases h2 : j < bs.length
    · rw [List.getElem?_append_left h2]
    · rw [List.getElem?_eq_none (by simp; omega), List.getElem?_eq_none (by omega)]
/-- one lane more -/
theorem lanesPV_snoc {N cnt : Nat} {L : Nat → List Bool} {f : Nat → Bool} (hl : ∀ q, (L q).length = cnt) : lanesPV N cnt L ++ [.int ((lane N f : Nat) : Int)] = lanesPV N (cnt + 1) fun q => L q ++ [f q] := by
  unfold lanesPV
  rw [List.range_succ, List.map_append]
  congr 1
  · apply List.map_congr_left
    intro j hj
    have hj := List.mem_range.mp hj
    congr 2
    apply lane_eq
    intro q _
    rw [bAt_snoc (hl q), if_neg (by omega)]
  · show _ = [_]
    congr 3
    apply lane_eq
    intro q _
    rw [bAt_snoc (hl q), if_pos rfl]
/-- one mark more -/
theorem heldPV_snoc {N : Nat} {ds : List Deed} {M : Nat → List Nat} {d : Deed} {g : Nat → Nat} (hl : ∀ q, (M q).length = ds.length) : heldPV N ds M ++ [markPV N d g] = heldPV N (ds ++ [d]) fun q => M q ++ [g q] := by
  unfold heldPV
  rw [List.mapIdx_append]
  have key : ∀ (d : Deed) (g g' : Nat → Nat), (∀ q, g q = g' q) → markPV N d g = markPV N d g' := fun d g g' h => by rw [show g = g' from funext h]
  congr 1
  · apply List.ext_getElem?
    intro i
    rw [List.getElem?_mapIdx, List.getElem?_mapIdx]
    cases h : ds[i]? with
    | none => rfl
    | some e =>
      have hi : i < ds.length := (List.getElem?_eq_some_iff.mp h).1
      show some _ = some _
      congr 1
      apply key
      intro q
      rw [List.getD_eq_getElem?_getD, List.getD_eq_getElem?_getD, List.getElem?_append_left (by rw [hl q]; exact hi)]
  · show [_] = [_]
    congr 1
    apply key
    intro q
    show g q = (M q ++ [g q]).getD (0 + ds.length) 0
    rw [List.getD_eq_getElem?_getD, Nat.zero_add, ← hl q]
    simp
theorem lane_shl (s k : Nat) (f : Nat → Bool) : lane s f * 2 ^ k = lane (k + s) fun q => decide (k ≤ q) && f (q - k) := by
  apply Nat.eq_of_testBit_eq
  intro q
  rw [← Nat.shiftLeft_eq, Nat.testBit_shiftLeft, lane_bit, lane_bit]
  by_cases h : k ≤ q
  · rw [decide_eq_true (p := q ≥ k) h, Bool.true_and, Bool.true_and]
    congr 1
    exact decide_eq_decide.mpr (by omega)
  · rw [decide_eq_false (p := q ≥ k) h]
    simp
theorem lane_more {n N : Nat} {f : Nat → Bool} (h : n ≤ N) : lane n f = lane N fun q => decide (q < n) && f q := by
  apply Nat.eq_of_testBit_eq
  intro q
  rw [lane_bit, lane_bit]
  by_cases h2 : q < n
  · rw [decide_eq_true h2, decide_eq_true (by omega : q < N), Bool.true_and, Bool.true_and]
  · rw [decide_eq_false h2]
    simp
theorem heldPV_take {N i : Nat} {ds : List Deed} {M : Nat → List Nat} {d : Deed} (h : ds[i]? = some d) : heldPV N (ds.take (i + 1)) M = heldPV N (ds.take i) M ++ [markPV N d fun q => (M q).getD i 0] := by
  have hl : i < ds.length := (List.getElem?_eq_some_iff.mp h).1
  rw [take_snoc h]
  unfold heldPV
  rw [List.mapIdx_append]
  congr 1
  show [markPV N d fun q => (M q).getD (0 + (ds.take i).length) 0] = [_]
  rw [List.length_take, Nat.zero_add, Nat.min_eq_left (by omega)]
theorem mdeeds_ok : ∀ {ds : List Deed} {n : Nat}, DeedsOk n ds → ∀ d ∈ mdeeds ds, d.marked = true ∧ ∀ p r ps, d = .count p r ps → (p = 2 ∨ p = 3 ∨ p = 5) ∧ r < p
  | [], _, _, _, hd => by cases hd
  | e :: r, n, h, d, hd => by
    obtain ⟨h1, h2⟩ := List.mem_filter.mp hd
    refine ⟨h2, fun p r' ps e' => ?_⟩
    rcases List.mem_cons.mp h1 with rfl | h1
    · subst e'
      exact ⟨h.1.1, h.1.2.1⟩
    · exact (mdeeds_ok h.2 d (List.mem_filter.mpr ⟨h1, h2⟩)).2 p r' ps e'
/-- parts of a sum -/
theorem lane_sub1 {N : Nat} {f : Nat → Bool} : lane N f = lane N fun q => (f q).toNat == 1 := lane_eq fun q _ => by cases f q <;> rfl
/-- a count turned by one lane -/
theorem turn_count {p g : Nat} {r : Nat} {b : Bool} (hp : 2 ≤ p) (hg : g < p) (hr : r < p) : ((g == r && !b) || (g == (if r = 0 then p - 1 else r - 1) && b)) = ((g + b.toNat) % p == r) := by
  cases b with
  | false =>
    rw [show (g + false.toNat) % p = g from Nat.mod_eq_of_lt hg]
    simp
  | true =>
    simp only [Bool.not_true, Bool.and_false, Bool.false_or, Bool.and_true, Bool.toNat_true]
    by_cases h : g + 1 = p
    · rw [h, Nat.mod_self]
      by_cases h0 : r = 0
      · subst h0
        rw [if_pos rfl]
        have : g = p - 1 := by omega
        simp [this]
      · rw [if_neg h0]
        have h1 : ¬ g = r - 1 := by omega
        have h2 : ¬ 0 = r := by omega
        rw [beq_eq_false_iff_ne.mpr h1, beq_eq_false_iff_ne.mpr h2]
    · rw [Nat.mod_eq_of_lt (by omega)]
      by_cases h0 : r = 0
      · subst h0
        rw [if_pos rfl]
        have h1 : ¬ g = p - 1 := by omega
        have h2 : ¬ g + 1 = 0 := by omega
        rw [beq_eq_false_iff_ne.mpr h1, beq_eq_false_iff_ne.mpr h2]
      · rw [if_neg h0]
        by_cases h3 : g = r - 1
        · subst h3
          rw [show r - 1 + 1 = r by omega]
          simp
        · have h2 : ¬ g + 1 = r := by omega
          rw [beq_eq_false_iff_ne.mpr h3, beq_eq_false_iff_ne.mpr h2]
theorem oAnd_nlane {N : Nat} {f g : Nat → Bool} : oAnd (.int (lane N f : Nat)) (.int (Builtin.bitNot (lane N g : Nat))) = .ok (.int ((lane N fun q => f q && !g q : Nat) : Int)) := oNot_lane
theorem LN : (∀ (N : Nat) (f g : Nat → Bool), oAnd (.int (lane N f : Nat)) (.int (lane N g : Nat)) = .ok (.int ((lane N fun q => f q && g q : Nat) : Int))) ∧
  (∀ (N : Nat) (f g : Nat → Bool), oOr (.int (lane N f : Nat)) (.int (lane N g : Nat)) = .ok (.int ((lane N fun q => f q || g q : Nat) : Int))) ∧
  (∀ (N : Nat) (f g : Nat → Bool), oXor (.int (lane N f : Nat)) (.int (lane N g : Nat)) = .ok (.int ((lane N fun q => f q != g q : Nat) : Int))) ∧
  (∀ i : Int, oInv (.int i) = .ok (.int (Builtin.bitNot i))) ∧
  (∀ (N : Nat) (f g : Nat → Bool), oAnd (.int (lane N f : Nat)) (.int (Builtin.bitNot (lane N g : Nat))) = .ok (.int ((lane N fun q => f q && !g q : Nat) : Int))) :=
  ⟨fun _ _ _ => oAnd_lane, fun _ _ _ => oOr_lane, fun _ _ _ => oXor_lane, fun _ => rfl, fun _ _ _ => oAnd_nlane⟩
def cntPV (N p : Nat) (g : Nat → Nat) : List PV := (List.range p).map fun r => .int ((lane N fun q => g q == r : Nat) : Int)
theorem cntPV_get {N p r : Nat} {g : Nat → Nat} (h : r < p) : (cntPV N p g)[r]? = some (.int ((lane N fun q => g q == r : Nat) : Int)) := by
  unfold cntPV
  rw [List.getElem?_map, List.getElem?_range h]
  rfl
theorem cntPV_len {N p : Nat} {g : Nat → Nat} : (cntPV N p g).length = p := by unfold cntPV; rw [List.length_map, List.length_range]
theorem cntPV_eq {N p : Nat} {g g' : Nat → Nat} (h : ∀ q, q < N → g q = g' q) : cntPV N p g = cntPV N p g' := by
  unfold cntPV
  apply List.map_congr_left
  intro r _
  congr 2
  apply lane_eq
  intro q hq
  rw [h q hq]
def onesN (fs : List (Nat → Bool)) (q : Nat) : Nat := (fs.map fun f => (f q).toNat).sum
theorem onesN_take {fs : List (Nat → Bool)} {i q : Nat} {f : Nat → Bool} (h : fs[i]? = some f) : onesN (fs.take (i + 1)) q = onesN (fs.take i) q + (f q).toNat := by
  have hl : i < fs.length := (List.getElem?_eq_some_iff.mp h).1
  have e : fs.take (i + 1) = fs.take i ++ [f] := by rw [List.take_add_one, h]; rfl
  unfold onesN
  rw [e, List.map_append, List.sum_append]
  simp
theorem lanesN_cnt (N cnt : Nat) (L : Nat → List Bool) : (lanesPV N cnt L).length = cnt := lanesPV_len
theorem count_sum : ∀ p ∈ [2, 3, 5], ∀ g : Nat, g < p → ((List.range (p - 1)).map fun i => (((1 : Int) + (i : Nat)) * (((g == 1 + i).toNat : Nat) : Int))).sum = (g : Int) := by
  decide
theorem bits_get {bs : List Bool} {a : Nat} (h : a < bs.length) : (natsP (bs.map Bool.toNat))[a]? = some (.int (((bAt bs a).toNat : Nat) : Int)) := by
  rw [natsP_get, List.getElem?_map, List.getElem?_eq_getElem h]
  unfold bAt
  rw [List.getD_eq_getElem?_getD, List.getElem?_eq_getElem h]
  rfl
theorem nats_get {l : List Nat} {a : Nat} (h : a < l.length) : (natsP l)[a]? = some (.int ((l.getD a 0 : Nat) : Int)) := by
  rw [natsP_get, List.getD_eq_getElem?_getD, List.getElem?_eq_getElem h]
  rfl
def lbits (n l : Nat) : List Bool := (List.range n).map fun k => l.testBit k
theorem lbits_len {n l : Nat} : (lbits n l).length = n := by unfold lbits; rw [List.length_map, List.length_range]
theorem lane1 {f : Nat → Bool} : lane 1 f = (f 0).toNat := by
  show 0 + (f 0).toNat * 2 ^ 0 = _
  simp
theorem bit_toNat (l k : Nat) : (l.testBit k).toNat = l / 2 ^ k % 2 := by
  rw [Nat.testBit_eq_decide_div_mod_eq]
  have : l / 2 ^ k % 2 < 2 := Nat.mod_lt _ (by decide)
  generalize l / 2 ^ k % 2 = z at *
  match z, this with
  | 0, _ => rfl
  | 1, _ => rfl
theorem lanes1 {cnt : Nat} {L : Nat → List Bool} (h : (L 0).length = cnt) : lanesPV 1 cnt L = natsP ((L 0).map Bool.toNat) := by
  apply List.ext_getElem?
  intro i
  by_cases hi : i < cnt
  · rw [lanesPV_get hi, bits_get (by rw [h]; exact hi), lane1]
  · rw [List.getElem?_eq_none (by rw [lanesPV_len]; omega), List.getElem?_eq_none (by rw [natsP_len, List.length_map]; omega)]
theorem lbits_lane {n l : Nat} : ((List.range n).map fun i => PV.int ((l / 2 ^ i % 2 : Nat) : Int)) = lanesPV 1 n fun _ => lbits n l := by
  rw [lanes1 (L := fun _ => lbits n l) (cnt := n) lbits_len]
  unfold lbits natsP
  rw [List.map_map, List.map_map]
  apply List.map_congr_left
  intro k _
  show _ = PV.int (((l.testBit k).toNat : Nat) : Int)
  rw [bit_toNat]
theorem Deed.nxt_lim {d : Deed} {bs : List Bool} {k n : Nat} (h : d.ok n) (hm : d.marked = true) : d.nxt bs k < d.lim := by
  have hb : ∀ b : Bool, b.toNat < 2 := fun b => by cases b <;> decide
  cases d with
  | zero | ones | not | and | or | xor => cases hm
  | count p r ps => exact Nat.mod_lt _ (Nat.lt_of_le_of_lt (Nat.zero_le _) h.2.1)
  | _ => exact hb _
theorem drawsN_snoc : ∀ {s r : List Nat} {a d : Nat}, DrawsN s r → d < a → DrawsN (s ++ [a]) (r ++ [d])
  | [], r, a, d, h, h2 => by rw [h.nil]; exact ⟨h2, trivial⟩
  | b :: s, r, a, d, h, h2 => by
    obtain ⟨e, r', rfl, h3, h4⟩ := h.cons
    exact ⟨h3, drawsN_snoc h4 h2⟩
theorem DeedsOk.init {e : Deed} : ∀ {r : List Deed} {n : Nat}, DeedsOk n (r ++ [e]) → DeedsOk n r
  | [], _, _ => trivial
  | _ :: _, _, h => ⟨h.1, DeedsOk.init h.2⟩
theorem stepsD_lim {M : List Nat} {B : List Bool} : ∀ (k : Nat) {ds : List Deed} {n : Nat}, ds.length = k → DeedsOk n ds → DrawsN ((mdeeds ds).map Deed.lim) (stepsD M B ds).2
  | 0, ds, n, h, _ => by
    rw [List.eq_nil_of_length_eq_zero h]
    trivial
  | k + 1, ds, n, h, hd => by
    have hne : ds ≠ [] := by rintro rfl; simp at h
    have hlast : ds[k]? = some (ds.getLast hne) := by
      rw [List.getLast_eq_getElem, List.getElem?_eq_getElem (by omega)]
      simp [h]
    have hok := hd.get hlast
    have hdr : DeedsOk n ds.dropLast := by
      rw [← List.dropLast_concat_getLast hne] at hd
      generalize ds.dropLast = r at *
      generalize ds.getLast hne = e at *
      exact hd.init
    have ih := stepsD_lim (M := M) (B := B) k (ds := ds.dropLast) (by rw [List.length_dropLast, h]; rfl) hdr
    rw [← List.dropLast_concat_getLast hne, stepsD_snoc, mdeeds_snoc]
    unfold stepD
    cases hm : (ds.getLast hne).marked with
    | false => exact ih
    | true =>
      rw [if_pos rfl, if_pos rfl, List.map_append]
      exact drawsN_snoc ih (Deed.nxt_lim hok hm)
theorem nats_take_onesOf {bs : List Bool} {ps : List Nat} {i p : Nat} (h : ps[i]? = some p) : onesOf bs (ps.take (i + 1)) = onesOf bs (ps.take i) + (bAt bs p).toNat := by
  unfold onesOf
  rw [take_snoc h, List.map_append, List.sum_append]
  simp
end PP

/-! PPBits: the words of a row are bits: place by place, with marks -/
namespace PP
open PySem L2
def bitI (x : Int) (p : Nat) : Bool := decide (x / 2 ^ p % 2 = 1)
def bitsAt (ws : List Int) (p : Nat) : List Bool := ws.map fun x => bitI x p
theorem bitI_zero (p : Nat) : bitI 0 p = false := by unfold bitI; simp
theorem bAt_bits {ws : List Int} {p a : Nat} : bAt (bitsAt ws p) a = bitI (ws.getD a 0) p := by
  unfold bAt bitsAt
  rw [List.getD_eq_getElem?_getD, List.getD_eq_getElem?_getD, List.getElem?_map]
  cases ws[a]? with
  | none => exact (bitI_zero p).symm
  | some x => rfl
theorem bitI_int (x : Int) (p : Nat) : ((bitI x p).toNat : Int) = x / 2 ^ p % 2 := by
  unfold bitI
  have := Int.emod_two_eq (x / 2 ^ p)
  rcases this with h | h <;> rw [h] <;> rfl
/-- x below 2^p, and its bits from there on -/
theorem low_succ (x : Int) (p : Nat) : x % 2 ^ (p + 1) = x % 2 ^ p + 2 ^ p * (x / 2 ^ p % 2) := by
  have hB : (0 : Int) < 2 ^ p := pow_pos2 p
  have h1 := Int.mul_ediv_add_emod x (2 ^ p)
  have h2 := Int.mul_ediv_add_emod (x / 2 ^ p) 2
  have hl := Int.emod_nonneg x (Int.ne_of_gt hB)
  have hl2 := Int.emod_lt_of_pos x hB
  have hb := Int.emod_two_eq (x / 2 ^ p)
  generalize hxl : x % 2 ^ p = xl at *
  generalize hxh : x / 2 ^ p = xh at *
  generalize hx2 : xh / 2 = x2 at *
  generalize hxb : xh % 2 = xb at *
  have hx : x = (xl + 2 ^ p * xb) + 2 ^ (p + 1) * x2 := by
    rw [Int.pow_succ, ← h1, ← h2]
    rw [Int.mul_add, Int.mul_assoc]
    omega
  rw [hx, Int.add_mul_emod_self_left]
  apply Int.emod_eq_of_lt
  · rcases hb with h | h <;> rw [h] <;> omega
  · rw [Int.pow_succ]
    rcases hb with h | h <;> rw [h] <;> omega
def Deed.markAt (ws : List Int) (p : Nat) : Deed → Nat
  | .shift a => match p with
    | 0 => 0
    | q + 1 => (bitI (ws.getD a 0) q).toNat
  | .minus a => (decide (ws.getD a 0 % 2 ^ p ≠ 0)).toNat
  | .add a b => (decide (2 ^ p ≤ ws.getD a 0 % 2 ^ p + ws.getD b 0 % 2 ^ p)).toNat
  | .sub a b => (decide (ws.getD a 0 % 2 ^ p < ws.getD b 0 % 2 ^ p)).toNat
  | .count m _ ps => (onesAt (ps.map fun i => ws.getD i 0) p % (m : Int)).toNat
  | _ => 0
theorem toNat_one (b : Bool) : (b.toNat == 1) = b := by cases b <;> rfl
theorem sum_bits {ws : List Int} {p : Nat} {ps : List Nat} : ((onesOf (bitsAt ws p) ps : Nat) : Int) = ((ps.map fun i => ws.getD i 0).map fun x => x / 2 ^ p % 2).sum := by
  unfold onesOf
  induction ps with
  | nil => rfl
  | cons a r ih =>
    simp only [List.map_cons, List.sum_cons, Int.natCast_add]
    rw [ih, bAt_bits, bitI_int]
theorem Deed.nxt_at {ws : List Int} {p n : Nat} : ∀ {d : Deed}, d.ok n → d.marked = true → d.nxt (bitsAt ws p) (d.markAt ws p) = d.markAt ws (p + 1)
  | .shift a, _, _ => by
    show (bAt (bitsAt ws p) a).toNat = (bitI (ws.getD a 0) p).toNat
    rw [bAt_bits]
  | .minus a, _, _ => by
    show (bAt (bitsAt ws p) a || _ == 1).toNat = _
    rw [bAt_bits]
    show (bitI (ws.getD a 0) p || (decide (ws.getD a 0 % 2 ^ p ≠ 0)).toNat == 1).toNat = (decide (ws.getD a 0 % 2 ^ (p + 1) ≠ 0)).toNat
    rw [toNat_one, low_succ]
    have hB : (0 : Int) < 2 ^ p := pow_pos2 p
    have hl := Int.emod_nonneg (ws.getD a 0) (Int.ne_of_gt hB)
    unfold bitI
    generalize ws.getD a 0 % 2 ^ p = xl at *
    congr 1
    rcases Int.emod_two_eq (ws.getD a 0 / 2 ^ p) with h | h <;> rw [h]
    · simp
    · rw [Int.mul_one, decide_eq_true rfl, Bool.true_or, decide_eq_true (by omega)]
  | .add a b, _, _ => by
    show ((bAt (bitsAt ws p) a && bAt (bitsAt ws p) b) || ((bAt (bitsAt ws p) a || bAt (bitsAt ws p) b) && _ == 1)).toNat = _
    rw [bAt_bits, bAt_bits]
    show ((bitI (ws.getD a 0) p && bitI (ws.getD b 0) p) || ((bitI (ws.getD a 0) p || bitI (ws.getD b 0) p) && (decide (2 ^ p ≤ ws.getD a 0 % 2 ^ p + ws.getD b 0 % 2 ^ p)).toNat == 1)).toNat = (decide (2 ^ (p + 1) ≤ ws.getD a 0 % 2 ^ (p + 1) + ws.getD b 0 % 2 ^ (p + 1))).toNat
    rw [toNat_one, low_succ, low_succ, Int.pow_succ]
    have hB : (0 : Int) < 2 ^ p := pow_pos2 p
    have hl := Int.emod_nonneg (ws.getD a 0) (Int.ne_of_gt hB)
    have hl2 := Int.emod_lt_of_pos (ws.getD a 0) hB
    have hm := Int.emod_nonneg (ws.getD b 0) (Int.ne_of_gt hB)
    have hm2 := Int.emod_lt_of_pos (ws.getD b 0) hB
    unfold bitI
    generalize ws.getD a 0 % 2 ^ p = xl at *
    generalize ws.getD b 0 % 2 ^ p = yl at *
    congr 1
    rcases Int.emod_two_eq (ws.getD a 0 / 2 ^ p) with h | h <;> rcases Int.emod_two_eq (ws.getD b 0 / 2 ^ p) with h2 | h2 <;> rw [h, h2]
    · rw [decide_eq_false (p := (0 : Int) = 1) (by decide), decide_eq_false (p := 2 ^ p * 2 ≤ _) (by omega)]; simp
    · rw [decide_eq_false (p := (0 : Int) = 1) (by decide), decide_eq_true (p := (1 : Int) = 1) rfl]
      simp only [Bool.false_and, Bool.false_or, Bool.true_and, Bool.or_true]
      exact decide_eq_decide.mpr (by omega)
    · rw [decide_eq_false (p := (0 : Int) = 1) (by decide), decide_eq_true (p := (1 : Int) = 1) rfl]
      simp only [Bool.and_false, Bool.false_or, Bool.true_and, Bool.true_or]
      exact decide_eq_decide.mpr (by omega)
    · rw [decide_eq_true (p := (1 : Int) = 1) rfl, decide_eq_true (p := 2 ^ p * 2 ≤ _) (by omega)]; rfl
  | .sub a b, _, _ => by
    show (((bAt (bitsAt ws p) b || _ == 1) && !bAt (bitsAt ws p) a) || (bAt (bitsAt ws p) b && _ == 1)).toNat = _
    rw [bAt_bits, bAt_bits]
    show (((bitI (ws.getD b 0) p || (decide (ws.getD a 0 % 2 ^ p < ws.getD b 0 % 2 ^ p)).toNat == 1) && !bitI (ws.getD a 0) p) || (bitI (ws.getD b 0) p && (decide (ws.getD a 0 % 2 ^ p < ws.getD b 0 % 2 ^ p)).toNat == 1)).toNat = (decide (ws.getD a 0 % 2 ^ (p + 1) < ws.getD b 0 % 2 ^ (p + 1))).toNat
    rw [toNat_one, low_succ, low_succ]
    have hB : (0 : Int) < 2 ^ p := pow_pos2 p
    have hl := Int.emod_nonneg (ws.getD a 0) (Int.ne_of_gt hB)
    have hl2 := Int.emod_lt_of_pos (ws.getD a 0) hB
    have hm := Int.emod_nonneg (ws.getD b 0) (Int.ne_of_gt hB)
    have hm2 := Int.emod_lt_of_pos (ws.getD b 0) hB
    unfold bitI
    generalize ws.getD a 0 % 2 ^ p = xl at *
    generalize ws.getD b 0 % 2 ^ p = yl at *
    congr 1
    rcases Int.emod_two_eq (ws.getD a 0 / 2 ^ p) with h | h <;> rcases Int.emod_two_eq (ws.getD b 0 / 2 ^ p) with h2 | h2 <;> rw [h, h2]
    · rw [decide_eq_false (p := (0 : Int) = 1) (by decide)]
      simp
    · rw [decide_eq_false (p := (0 : Int) = 1) (by decide), decide_eq_true (p := (1 : Int) = 1) rfl, decide_eq_true (p := xl + 2 ^ p * 0 < _) (by omega)]
      simp
    · rw [decide_eq_false (p := (0 : Int) = 1) (by decide), decide_eq_true (p := (1 : Int) = 1) rfl, decide_eq_false (p := xl + 2 ^ p * 1 < _) (by omega)]
      simp
    · rw [decide_eq_true (p := (1 : Int) = 1) rfl]
      simp only [Bool.not_true, Bool.and_false, Bool.false_or, Bool.true_and]
      exact decide_eq_decide.mpr (by omega)
  | .count m r ps, h, _ => by
    show (_ + onesOf (bitsAt ws p) ps) % m = (onesAt (ps.map fun i => ws.getD i 0) (p + 1) % (m : Int)).toNat
    have hm : (0 : Int) < m := by have := h.2.1; omega
    have e1 : ((onesAt (ps.map fun i => ws.getD i 0) p % (m : Int)).toNat : Int) = onesAt (ps.map fun i => ws.getD i 0) p % (m : Int) := Int.toNat_of_nonneg (Int.emod_nonneg _ (Int.ne_of_gt hm))
    have e2 : (((onesAt (ps.map fun i => ws.getD i 0) (p + 1) % (m : Int)).toNat : Nat) : Int) = onesAt (ps.map fun i => ws.getD i 0) (p + 1) % (m : Int) := Int.toNat_of_nonneg (Int.emod_nonneg _ (Int.ne_of_gt hm))
    apply Int.natCast_inj.mp
    rw [e2, Int.natCast_emod, Int.natCast_add]
    show (((onesAt (ps.map fun i => ws.getD i 0) p % (m : Int)).toNat : Nat) + _) % (m : Int) = (onesAt (ps.map fun i => ws.getD i 0) p + _) % (m : Int)
    rw [e1, sum_bits, Int.emod_add_emod]
/-- bits of what a deed writes -/
theorem bitI_mod {x : Int} {p w : Nat} (h : p < w) : bitI (x % 2 ^ w) p = bitI x p := by unfold bitI; rw [mod_bit h]
theorem bitI_test {x : Int} {w p : Nat} (h : InW w x) : bitI x p = x.toNat.testBit p := by
  obtain ⟨n, rfl⟩ := Int.eq_ofNat_of_zero_le h.1
  rw [Int.toNat_natCast, Nat.testBit_eq_decide_div_mod_eq]
  unfold bitI
  apply decide_eq_decide.mpr
  constructor
  · intro h
    have : (((n / 2 ^ p % 2 : Nat) : Nat) : Int) = 1 := by
      rw [Int.natCast_emod, Int.natCast_ediv, Int.natCast_pow]
      exact h
    omega
  · intro h
    have : (((n / 2 ^ p % 2 : Nat) : Nat) : Int) = 1 := by rw [h]; rfl
    rw [Int.natCast_emod, Int.natCast_ediv, Int.natCast_pow] at this
    exact this
theorem and_test {x y : Int} {p w : Nat} (hx : InW w x) (hy : InW w y) : InW w (Builtin.bitAnd x y) ∧ bitI (Builtin.bitAnd x y) p = (bitI x p && bitI y p) := by
  rw [and_pp hx.1 hy.1]
  have h : InW w ((x.toNat &&& y.toNat : Nat) : Int) := inW_nat (Nat.lt_of_le_of_lt Nat.and_le_left (toNat_lt hx))
  refine ⟨h, ?_⟩
  rw [bitI_test h, bitI_test hx, bitI_test hy, Int.toNat_natCast, Nat.testBit_and]
theorem lane_of {n w : Nat} (h : n < 2 ^ w) : n = lane w fun q => n.testBit q := by
  apply Nat.eq_of_testBit_eq
  intro q
  rw [lane_bit]
  by_cases hq : q < w
  · rw [decide_eq_true hq, Bool.true_and]
  · rw [decide_eq_false hq, Bool.false_and]
    exact Nat.testBit_lt_two_pow (Nat.lt_of_lt_of_le h (Nat.pow_le_pow_right (by decide) (by omega)))
theorem lane_bitI {w p : Nat} {f : Nat → Bool} (h : p < w) : bitI ((lane w f : Nat) : Int) p = f p := by
  rw [bitI_test (w := w) (inW_nat (lane_lt f w)), Int.toNat_natCast, lane_bit, decide_eq_true h, Bool.true_and]
theorem or_test {x y : Int} {p w : Nat} (hp : p < w) (hx : InW w x) (hy : InW w y) : bitI (Builtin.bitOr x y) p = (bitI x p || bitI y p) := by
  have ex : x = ((lane w fun q => x.toNat.testBit q : Nat) : Int) := by rw [← lane_of (toNat_lt hx), Int.toNat_of_nonneg hx.1]
  have ey : y = ((lane w fun q => y.toNat.testBit q : Nat) : Int) := by rw [← lane_of (toNat_lt hy), Int.toNat_of_nonneg hy.1]
  have h := oOr_lane (N := w) (f := fun q => x.toNat.testBit q) (g := fun q => y.toNat.testBit q)
  rw [← ex, ← ey] at h
  replace h : R.ok (PV.int (Builtin.bitOr x y)) = _ := h
  injection h with h
  injection h with h
  rw [h, lane_bitI hp, bitI_test hx, bitI_test hy]
theorem xor_test {x y : Int} {p w : Nat} (hp : p < w) (hx : InW w x) (hy : InW w y) : bitI (Builtin.bitXor x y) p = (bitI x p != bitI y p) := by
  have ex : x = ((lane w fun q => x.toNat.testBit q : Nat) : Int) := by rw [← lane_of (toNat_lt hx), Int.toNat_of_nonneg hx.1]
  have ey : y = ((lane w fun q => y.toNat.testBit q : Nat) : Int) := by rw [← lane_of (toNat_lt hy), Int.toNat_of_nonneg hy.1]
  have h := oXor_lane (N := w) (f := fun q => x.toNat.testBit q) (g := fun q => y.toNat.testBit q)
  rw [← ex, ← ey] at h
  replace h : R.ok (PV.int (Builtin.bitXor x y)) = _ := h
  injection h with h
  injection h with h
  rw [h, lane_bitI hp, bitI_test hx, bitI_test hy]
theorem ones_bit {p w : Nat} (hp : p < w) : bitI (2 ^ w - 1) p = true := by
  have e : ((2 : Int) ^ w - 1) = ((lane w fun _ => true : Nat) : Int) := by
    rw [lane_full]
    have := Nat.two_pow_pos w
    rw [Int.ofNat_sub (by omega), Int.natCast_pow]
    rfl
  rw [e, lane_bitI hp]
theorem not_bit {x : Int} {p w : Nat} (hp : p < w) (hx : InW w x) : bitI (2 ^ w - 1 - x) p = !bitI x p := by
  have ex : x = ((lane w fun q => x.toNat.testBit q : Nat) : Int) := by rw [← lane_of (toNat_lt hx), Int.toNat_of_nonneg hx.1]
  have e : ((2 : Int) ^ w - 1) = ((lane w fun _ => true : Nat) : Int) := by
    rw [lane_full]
    have := Nat.two_pow_pos w
    rw [Int.ofNat_sub (by omega), Int.natCast_pow]
    rfl
  have hs := lane_sub (fun _ => true) (fun q => x.toNat.testBit q) w
  simp only [Bool.true_and] at hs
  have e2 : (2 : Int) ^ w - 1 - x = ((lane w fun q => !x.toNat.testBit q : Nat) : Int) := by
    have ex2 := ex
    generalize lane w (fun q => x.toNat.testBit q) = z at *
    omega
  rw [e2, lane_bitI hp, bitI_test hx]
theorem add_div (x y : Int) (p : Nat) : (x + y) / 2 ^ p = x / 2 ^ p + y / 2 ^ p + (if 2 ^ p ≤ x % 2 ^ p + y % 2 ^ p then 1 else 0) := by
  have hB : (0 : Int) < 2 ^ p := pow_pos2 p
  have h1 := Int.mul_ediv_add_emod x (2 ^ p)
  have h2 := Int.mul_ediv_add_emod y (2 ^ p)
  have hl2 := Int.emod_lt_of_pos x hB
  have hm2 := Int.emod_lt_of_pos y hB
  have hl := Int.emod_nonneg x (Int.ne_of_gt hB)
  have hm := Int.emod_nonneg y (Int.ne_of_gt hB)
  generalize x % 2 ^ p = xl at *
  generalize y % 2 ^ p = yl at *
  generalize x / 2 ^ p = xh at *
  generalize y / 2 ^ p = yh at *
  have e : x + y = (xl + yl) + 2 ^ p * (xh + yh) := by rw [Int.mul_add]; omega
  rw [e, Int.add_mul_ediv_left _ _ (Int.ne_of_gt hB)]
  by_cases h : 2 ^ p ≤ xl + yl
  · rw [if_pos h]
    have : (xl + yl) / 2 ^ p = 1 := by
      rw [Int.ediv_eq_iff_of_pos hB]
      omega
    omega
  · rw [if_neg h, Int.ediv_eq_zero_of_lt (by omega) (by omega)]
    omega
theorem sub_div (x y : Int) (p : Nat) : (x - y) / 2 ^ p = x / 2 ^ p - y / 2 ^ p - (if x % 2 ^ p < y % 2 ^ p then 1 else 0) := by
  have hB : (0 : Int) < 2 ^ p := pow_pos2 p
  have h1 := Int.mul_ediv_add_emod x (2 ^ p)
  have h2 := Int.mul_ediv_add_emod y (2 ^ p)
  have hl2 := Int.emod_lt_of_pos x hB
  have hm2 := Int.emod_lt_of_pos y hB
  have hl := Int.emod_nonneg x (Int.ne_of_gt hB)
  have hm := Int.emod_nonneg y (Int.ne_of_gt hB)
  generalize x % 2 ^ p = xl at *
  generalize y % 2 ^ p = yl at *
  generalize x / 2 ^ p = xh at *
  generalize y / 2 ^ p = yh at *
  have e : x - y = (xl - yl) + 2 ^ p * (xh - yh) := by rw [Int.mul_sub]; omega
  rw [e, Int.add_mul_ediv_left _ _ (Int.ne_of_gt hB)]
  by_cases h : xl < yl
  · rw [if_pos h]
    have : (xl - yl) / 2 ^ p = -1 := by
      rw [Int.ediv_eq_iff_of_pos hB]
      omega
    omega
  · rw [if_neg h, Int.ediv_eq_zero_of_lt (by omega) (by omega)]
    omega
theorem bitI_cases (x : Int) (p : Nat) : (x / 2 ^ p % 2 = 0 ∧ bitI x p = false) ∨ (x / 2 ^ p % 2 = 1 ∧ bitI x p = true) := by
  unfold bitI
  rcases Int.emod_two_eq (x / 2 ^ p) with h | h
  · exact .inl ⟨h, by rw [h]; rfl⟩
  · exact .inr ⟨h, by rw [h]; rfl⟩
theorem bitI_of {x : Int} {p : Nat} {b : Bool} (h : x / 2 ^ p % 2 = (b.toNat : Int)) : bitI x p = b := by
  unfold bitI
  rw [h]
  cases b <;> rfl
theorem Deed.bit_at {ws : List Int} {p w : Nat} (hp : p < w) (hi : ∀ x ∈ ws, InW w x) : ∀ {d : Deed}, d.ok ws.length → d.bit (bitsAt ws p) (d.markAt ws p) = bitI (d.val w ws) p
  | .zero, _ => (bitI_zero p).symm
  | .ones, _ => (ones_bit hp).symm
  | .not a, _ => by
    show (!bAt (bitsAt ws p) a) = bitI (2 ^ w - 1 - ws.getD a 0) p
    rw [bAt_bits, not_bit hp (getD_in hi a)]
  | .and a b, _ => by
    show (bAt (bitsAt ws p) a && bAt (bitsAt ws p) b) = bitI (Builtin.bitAnd (ws.getD a 0) (ws.getD b 0)) p
    rw [bAt_bits, bAt_bits, (and_test (getD_in hi a) (getD_in hi b)).2]
  | .or a b, _ => by
    show (bAt (bitsAt ws p) a || bAt (bitsAt ws p) b) = bitI (Builtin.bitOr (ws.getD a 0) (ws.getD b 0)) p
    rw [bAt_bits, bAt_bits, or_test hp (getD_in hi a) (getD_in hi b)]
  | .xor a b, _ => by
    show (bAt (bitsAt ws p) a != bAt (bitsAt ws p) b) = bitI (Builtin.bitXor (ws.getD a 0) (ws.getD b 0)) p
    rw [bAt_bits, bAt_bits, xor_test hp (getD_in hi a) (getD_in hi b)]
  | .shift a, _ => by
    show (Deed.markAt ws p (.shift a) == 1) = bitI (2 * ws.getD a 0 % 2 ^ w) p
    rw [bitI_mod hp]
    cases p with
    | zero =>
      refine (bitI_of ?_).symm
      show 2 * ws.getD a 0 / 2 ^ 0 % 2 = 0
      rw [show ((2 : Int) ^ 0) = 1 from rfl, Int.ediv_one]
      omega
    | succ q =>
      show ((bitI (ws.getD a 0) q).toNat == 1) = _
      rw [toNat_one]
      unfold bitI
      rw [div_pow_succ, Int.mul_ediv_cancel_left _ (by decide)]
  | .minus a, _ => by
    show (bAt (bitsAt ws p) a != ((decide (ws.getD a 0 % 2 ^ p ≠ 0)).toNat == 1)) = bitI (-(ws.getD a 0) % 2 ^ w) p
    rw [bitI_mod hp, toNat_one, bAt_bits]
    refine (bitI_of ?_).symm
    have h := sub_div 0 (ws.getD a 0) p
    rw [Int.zero_sub] at h
    rw [h]
    have hB : (0 : Int) < 2 ^ p := pow_pos2 p
    have hl := Int.emod_nonneg (ws.getD a 0) (Int.ne_of_gt hB)
    rw [Int.zero_ediv, Int.zero_emod]
    rcases bitI_cases (ws.getD a 0) p with ⟨h1, h2⟩ | ⟨h1, h2⟩ <;> rw [h2] <;> by_cases h3 : ws.getD a 0 % 2 ^ p = 0
    · rw [if_neg (by omega), decide_eq_false (by omega)]; show _ = 0; omega
    · rw [if_pos (by omega), decide_eq_true (by omega)]; show _ = 1; omega
    · rw [if_neg (by omega), decide_eq_false (by omega)]; show _ = 1; omega
    · rw [if_pos (by omega), decide_eq_true (by omega)]; show _ = 0; omega
  | .add a b, _ => by
    show ((bAt (bitsAt ws p) a != bAt (bitsAt ws p) b) != ((decide (2 ^ p ≤ ws.getD a 0 % 2 ^ p + ws.getD b 0 % 2 ^ p)).toNat == 1)) = bitI ((ws.getD a 0 + ws.getD b 0) % 2 ^ w) p
    rw [bitI_mod hp, toNat_one, bAt_bits, bAt_bits]
    refine (bitI_of ?_).symm
    rw [add_div]
    by_cases h3 : 2 ^ p ≤ ws.getD a 0 % 2 ^ p + ws.getD b 0 % 2 ^ p
    · rw [if_pos h3, decide_eq_true h3]
      rcases bitI_cases (ws.getD a 0) p with ⟨h1, h2⟩ | ⟨h1, h2⟩ <;> rcases bitI_cases (ws.getD b 0) p with ⟨k1, k2⟩ | ⟨k1, k2⟩ <;> rw [h2, k2]
      · show _ = 1; omega
      · show _ = 0; omega
      · show _ = 0; omega
      · show _ = 1; omega
    · rw [if_neg h3, decide_eq_false h3]
      rcases bitI_cases (ws.getD a 0) p with ⟨h1, h2⟩ | ⟨h1, h2⟩ <;> rcases bitI_cases (ws.getD b 0) p with ⟨k1, k2⟩ | ⟨k1, k2⟩ <;> rw [h2, k2]
      · show _ = 0; omega
      · show _ = 1; omega
      · show _ = 1; omega
      · show _ = 0; omega
  | .sub a b, _ => by
    show ((bAt (bitsAt ws p) a != bAt (bitsAt ws p) b) != ((decide (ws.getD a 0 % 2 ^ p < ws.getD b 0 % 2 ^ p)).toNat == 1)) = bitI ((ws.getD a 0 - ws.getD b 0) % 2 ^ w) p
    rw [bitI_mod hp, toNat_one, bAt_bits, bAt_bits]
    refine (bitI_of ?_).symm
    rw [sub_div]
    by_cases h3 : ws.getD a 0 % 2 ^ p < ws.getD b 0 % 2 ^ p
    · rw [if_pos h3, decide_eq_true h3]
      rcases bitI_cases (ws.getD a 0) p with ⟨h1, h2⟩ | ⟨h1, h2⟩ <;> rcases bitI_cases (ws.getD b 0) p with ⟨k1, k2⟩ | ⟨k1, k2⟩ <;> rw [h2, k2]
      · show _ = 1; omega
      · show _ = 0; omega
      · show _ = 0; omega
      · show _ = 1; omega
    · rw [if_neg h3, decide_eq_false h3]
      rcases bitI_cases (ws.getD a 0) p with ⟨h1, h2⟩ | ⟨h1, h2⟩ <;> rcases bitI_cases (ws.getD b 0) p with ⟨k1, k2⟩ | ⟨k1, k2⟩ <;> rw [h2, k2]
      · show _ = 0; omega
      · show _ = 1; omega
      · show _ = 1; omega
      · show _ = 0; omega
  | .count m r ps, h => by
    show ((onesAt (ps.map fun i => ws.getD i 0) p % (m : Int)).toNat == r) = bitI (countW w m r (ps.map fun i => ws.getD i 0)) p
    have hm : (0 : Int) < m := by have := h.2.1; omega
    have e1 := Int.toNat_of_nonneg (Int.emod_nonneg (onesAt (ps.map fun i => ws.getD i 0) p) (Int.ne_of_gt hm))
    unfold bitI countW
    rw [bsum_bit (fun k _ => by split <;> omega) hp]
    generalize onesAt (ps.map fun i => ws.getD i 0) p % (m : Int) = z at *
    by_cases h : z = r
    · rw [if_pos h, h, Int.toNat_natCast]; simp
    · rw [if_neg h]
      have : ¬ z.toNat = r := by omega
      rw [beq_eq_false_iff_ne.mpr this]
      rfl
/-! ### a row's words, place by place -/
theorem rowWords_take {w : Nat} {ds : List Deed} {ws : List Int} {i : Nat} (hi : i ≤ ds.length) : (rowWords w ws ds).take (ws.length + i) = rowWords w ws (ds.take i) := by
  have e : ∀ (k : Nat) (ds : List Deed), ds.length = i + k → (rowWords w ws ds).take (ws.length + i) = rowWords w ws (ds.take i) := by
    intro k
    induction k with
    | zero => intro ds h; rw [List.take_of_length_le (by rw [rowWords_len]; omega), List.take_of_length_le (by omega)]
    | succ k ih =>
      intro ds h
      have hne : ds ≠ [] := by rintro rfl; simp at h
      rw [← List.dropLast_concat_getLast hne, rowWords_snoc, List.take_append_of_le_length (by rw [rowWords_len, List.length_dropLast]; omega), ih _ (by rw [List.length_dropLast]; omega), List.take_append_of_le_length (by rw [List.length_dropLast]; omega)]
  exact e (ds.length - i) ds (by omega)
theorem rowWords_at {w : Nat} {ds : List Deed} {ws : List Int} {i : Nat} {d : Deed} (h : ds[i]? = some d) : (rowWords w ws ds)[ws.length + i]? = some (d.val w (rowWords w ws (ds.take i))) := by
  have hi : i < ds.length := (List.getElem?_eq_some_iff.mp h).1
  have h1 := rowWords_take (w := w) (ws := ws) (show i + 1 ≤ ds.length from hi)
  rw [take_snoc h, rowWords_snoc] at h1
  have h2 : ((rowWords w ws ds).take (ws.length + (i + 1)))[ws.length + i]? = (rowWords w ws ds)[ws.length + i]? := by
    rw [List.getElem?_take, if_pos (by omega)]
  rw [← h2, h1]
  have hl : (rowWords w ws (ds.take i)).length = ws.length + i := by rw [rowWords_len, List.length_take]; omega
  rw [List.getElem?_append_right (by omega), hl, Nat.sub_self]
  rfl
def marksF (W : List Int) (p : Nat) (ds : List Deed) : List Nat := (mdeeds ds).map fun d => d.markAt W p
theorem getD_take {W : List Int} {k a : Nat} (h : a < k) : (W.take k).getD a 0 = W.getD a 0 := by
  rw [List.getD_eq_getElem?_getD, List.getD_eq_getElem?_getD, List.getElem?_take, if_pos h]
theorem markAt_take {W : List Int} {k p : Nat} : ∀ {d : Deed}, d.ok k → d.markAt (W.take k) p = d.markAt W p
  | .zero, _ | .ones, _ | .not _, _ | .and _ _, _ | .or _ _, _ | .xor _ _, _ => rfl
  | .shift a, h => by
    cases p with
    | zero => rfl
    | succ q => show (bitI _ q).toNat = (bitI _ q).toNat; rw [getD_take h]
  | .minus a, h => by show (decide (_ % _ ≠ _)).toNat = (decide (_ % _ ≠ _)).toNat; rw [getD_take h]
  | .add a b, h => by show (decide (_ ≤ _)).toNat = (decide (_ ≤ _)).toNat; rw [getD_take h.1, getD_take h.2]
  | .sub a b, h => by show (decide (_ < _)).toNat = (decide (_ < _)).toNat; rw [getD_take h.1, getD_take h.2]
  | .count m r ps, h => by
    show (onesAt _ p % _).toNat = (onesAt _ p % _).toNat
    rw [List.map_congr_left fun i hi => getD_take (h.2.2.2.2 i hi)]
theorem marksF_snoc {W : List Int} {p : Nat} {ds : List Deed} {d : Deed} : marksF W p (ds ++ [d]) = if d.marked then marksF W p ds ++ [d.markAt W p] else marksF W p ds := by
  unfold marksF
  rw [mdeeds_snoc]
  cases d.marked
  · rfl
  · simp
theorem marksF_len {W : List Int} {p : Nat} {ds : List Deed} : (marksF W p ds).length = (mdeeds ds).length := by unfold marksF; rw [List.length_map]
theorem marksF_at {W : List Int} {p i : Nat} {ds : List Deed} {d : Deed} (h : ds[i]? = some d) (hm : d.marked = true) : (marksF W p ds).getD (mdeeds (ds.take i)).length 0 = d.markAt W p := by
  unfold marksF
  rw [List.getD_eq_getElem?_getD, List.getElem?_map, mdeeds_at h hm]
  rfl
theorem steps_words {w p n : Nat} {ds : List Deed} {ws : List Int} (hp : p < w) (hd : DeedsOk ws.length ds) (hi : ∀ x ∈ ws, InW w x) : ∀ i, i ≤ ds.length → stepsD (marksF (rowWords w ws ds) p ds) (bitsAt ws p) (ds.take i) = (bitsAt ((rowWords w ws ds).take (ws.length + i)) p, marksF (rowWords w ws ds) (p + 1) (ds.take i))
  | 0, _ => by
    rw [List.take_zero, rowWords_take (Nat.zero_le _)]
    rfl
  | i + 1, h => by
    obtain ⟨d, hdd⟩ : ∃ d, ds[i]? = some d := ⟨ds[i], List.getElem?_eq_getElem h⟩
    have ih := steps_words (n := n) hp hd hi i (by omega)
    have hok := hd.get hdd
    have hWl : (rowWords w ws ds).length = ws.length + ds.length := rowWords_len
    have hWi := rowWords_in (ds := ds) hi
    have hat := rowWords_at (w := w) (ws := ws) hdd
    rw [← rowWords_take (by omega)] at hat
    rw [take_snoc hdd, stepsD_snoc, ih, ← Nat.add_assoc, take_snoc hat, marksF_snoc]
    unfold stepD
    have htl : ((rowWords w ws ds).take (ws.length + i)).length = ws.length + i := by rw [List.length_take]; omega
    have hin : ∀ x ∈ (rowWords w ws ds).take (ws.length + i), InW w x := fun x hx => hWi x (List.mem_of_mem_take hx)
    have hb := Deed.bit_at (d := d) hp hin (by rw [htl]; exact hok)
    rw [markAt_take hok] at hb
    have hbits : bitsAt ((rowWords w ws ds).take (ws.length + i) ++ [d.val w ((rowWords w ws ds).take (ws.length + i))]) p = bitsAt ((rowWords w ws ds).take (ws.length + i)) p ++ [bitI (d.val w ((rowWords w ws ds).take (ws.length + i))) p] := by
      unfold bitsAt
      rw [List.map_append]
      rfl
    cases hm : d.marked with
    | true =>
      simp only [marksF_len, marksF_at hdd hm]
      rw [hb, hbits]
      simp only [if_true]
      have hn := Deed.nxt_at (ws := (rowWords w ws ds).take (ws.length + i)) (p := p) hok hm
      rw [markAt_take hok, markAt_take hok] at hn
      rw [hn]
    | false =>
      have hz : ∀ k, d.bit (bitsAt ((rowWords w ws ds).take (ws.length + i)) p) k = bitI (d.val w ((rowWords w ws ds).take (ws.length + i))) p := fun k => by
        rw [← hb]
        cases d with
        | shift | minus | add | sub | count => cases hm
        | _ => rfl
      simp only [hz]
      rw [hbits]
      rfl
theorem step_words {w p : Nat} {ds : List Deed} {ws : List Int} (hp : p < w) (hd : DeedsOk ws.length ds) (hi : ∀ x ∈ ws, InW w x) : stepsD (marksF (rowWords w ws ds) p ds) (bitsAt ws p) ds = (bitsAt (rowWords w ws ds) p, marksF (rowWords w ws ds) (p + 1) ds) := by
  have h := steps_words (n := 0) hp hd hi ds.length (Nat.le_refl _)
  rw [List.take_of_length_le (Nat.le_refl _), List.take_of_length_le (by rw [rowWords_len]; exact Nat.le_refl _)] at h
  exact h
theorem marksF_zero {W : List Int} {ds : List Deed} : marksF W 0 ds = List.replicate (mdeeds ds).length 0 := by
  unfold marksF
  rw [List.eq_replicate_iff]
  refine ⟨by rw [List.length_map], fun b hb => ?_⟩
  obtain ⟨d, _, rfl⟩ := List.mem_map.mp hb
  have h1 : ∀ x : Int, x % 2 ^ 0 = 0 := fun x => by rw [show ((2 : Int) ^ 0) = 1 from rfl, Int.emod_one]
  cases d with
  | minus a => show (decide (_ % 2 ^ 0 ≠ (0 : Int))).toNat = 0; rw [h1]; rfl
  | add a b => show (decide (2 ^ 0 ≤ W.getD a 0 % 2 ^ 0 + W.getD b 0 % 2 ^ 0)).toNat = 0; rw [h1, h1]; rfl
  | sub a b => show (decide (W.getD a 0 % 2 ^ 0 < W.getD b 0 % 2 ^ 0)).toNat = 0; rw [h1, h1]; rfl
  | count m r ps => show ((0 : Int) % _).toNat = 0; rw [Int.zero_emod]; rfl
  | _ => rfl
theorem markAt_lim {W : List Int} {p n : Nat} : ∀ {d : Deed}, d.ok n → d.marked = true → d.markAt W p < d.lim
  | .shift a, _, _ => by
    cases p with
    | zero => exact show 0 < 2 by decide
    | succ q => show (bitI _ q).toNat < 2; cases bitI (W.getD a 0) q <;> decide
  | .minus a, _, _ => by show (decide _).toNat < 2; cases decide (W.getD a 0 % 2 ^ p ≠ 0) <;> decide
  | .add a b, _, _ => by show (decide _).toNat < 2; cases decide (2 ^ p ≤ W.getD a 0 % 2 ^ p + W.getD b 0 % 2 ^ p) <;> decide
  | .sub a b, _, _ => by show (decide _).toNat < 2; cases decide (W.getD a 0 % 2 ^ p < W.getD b 0 % 2 ^ p) <;> decide
  | .count m r ps, h, _ => by
    show (_ % (m : Int)).toNat < m
    have hm : (0 : Int) < m := by have := h.2.1; omega
    have h1 := Int.emod_lt_of_pos (onesAt (ps.map fun i => W.getD i 0) p) hm
    have h2 := Int.emod_nonneg (onesAt (ps.map fun i => W.getD i 0) p) (Int.ne_of_gt hm)
    omega
theorem marksF_ok {W : List Int} {p : Nat} : ∀ {ds : List Deed} {n : Nat}, DeedsOk n ds → DrawsN ((mdeeds ds).map Deed.lim) (marksF W p ds)
  | [], _, _ => trivial
  | d :: r, n, h => by
    unfold marksF mdeeds
    cases hm : d.marked with
    | true =>
      rw [List.filter_cons_of_pos hm]
      exact ⟨markAt_lim h.1 hm, marksF_ok h.2⟩
    | false =>
      rw [List.filter_cons_of_neg (by rw [hm]; exact Bool.false_ne_true)]
      exact marksF_ok h.2
/-- the marks behind, told from all bits -/
def afterF (bs : List Bool) (M : List Nat) (ds : List Deed) : List Nat := ds.foldl (fun A d => if d.marked then A ++ [d.nxt bs (M.getD A.length 0)] else A) []
theorem afterF_snoc {bs : List Bool} {M : List Nat} {ds : List Deed} {d : Deed} : afterF bs M (ds ++ [d]) = if d.marked then afterF bs M ds ++ [d.nxt bs (M.getD (afterF bs M ds).length 0)] else afterF bs M ds := by
  unfold afterF
  rw [List.foldl_append]
  rfl
theorem after_words {W : List Int} {p n : Nat} {ds : List Deed} (hd : DeedsOk n ds) : ∀ i, i ≤ ds.length → afterF (bitsAt W p) (marksF W p ds) (ds.take i) = marksF W (p + 1) (ds.take i)
  | 0, _ => rfl
  | i + 1, h => by
    obtain ⟨d, hdd⟩ : ∃ d, ds[i]? = some d := ⟨ds[i], List.getElem?_eq_getElem h⟩
    rw [take_snoc hdd, afterF_snoc, after_words hd i (by omega), marksF_snoc]
    cases hm : d.marked with
    | true =>
      rw [marksF_len, marksF_at hdd hm, Deed.nxt_at (hd.get hdd) hm]
    | false => rfl
end PP

/-! PPDeed: deeds compared. -/
namespace PP
open PySem L2
noncomputable instance : DecidableEq Deed := fun a b => Classical.propDecidable (a = b)
theorem natl_inj : ∀ {a b : List Nat}, (a.map fun (i : Nat) => PV.int (i : Int)) = (b.map fun (i : Nat) => PV.int (i : Int)) → a = b
  | [], [], _ => rfl
  | [], _ :: _, h => by cases h
  | _ :: _, [], h => by cases h
  | x :: xs, y :: ys, h => by
    have h1 := List.cons.inj (show PV.int (x : Int) :: (xs.map fun (i : Nat) => PV.int (i : Int)) = PV.int (y : Int) :: (ys.map fun (i : Nat) => PV.int (i : Int)) from h)
    have h2 : (x : Int) = (y : Int) := by injection h1.1
    rw [Int.natCast_inj.mp h2, natl_inj h1.2]
theorem Deed.pv_inj {a b : Deed} (h : a.pv = b.pv) : a = b := by
  cases a <;> cases b <;> simp only [Deed.pv, PV.tup.injEq, List.cons.injEq, PV.str.injEq, PV.int.injEq, SN, false_and, and_false, and_true, true_and, Int.natCast_inj, reduceCtorEq] at h <;> first
    | rfl
    | (exact h.elim)
    | (rw [h])
    | (rw [h.1, h.2])
    | (rw [h.1, h.2.1, natl_inj h.2.2])
theorem pvs_inj : ∀ {a b : List Deed}, a.map Deed.pv = b.map Deed.pv → a = b
  | [], [], _ => rfl
  | [], _ :: _, h => by cases h
  | _ :: _, [], h => by cases h
  | x :: xs, y :: ys, h => by
    have h1 := List.cons.inj (show x.pv :: xs.map Deed.pv = y.pv :: ys.map Deed.pv from h)
    rw [Deed.pv_inj h1.1, pvs_inj h1.2]
theorem cd_list {xs : List PV} {n : Nat} (h : ∀ x ∈ xs, Cd n x) : Cd (n + 1) (.tup xs) ∧ Cd (n + 1) (.lst xs) := ⟨Cd.tup h, Cd.lst h⟩
theorem Deed.cd (d : Deed) : Cd 3 d.pv := by
  have i : ∀ k : Nat, Cd 2 (.int (k : Int)) := fun k => (cd_int _).mono (by decide)
  cases d with
  | count p r ps =>
    refine (Cd.tup (n := 2) fun x hx => ?_)
    simp only [List.mem_cons, List.not_mem_nil, or_false] at hx
    rcases hx with rfl | rfl | rfl | rfl
    · exact (cd_str (by decide +kernel)).mono (by decide)
    · exact i _
    · exact i _
    · exact (Cd.tup (n := 0) fun x hx => by obtain ⟨k, _, rfl⟩ := List.mem_map.mp hx; exact cd_int _).mono (by decide)
  | zero | ones =>
    refine (Cd.tup (n := 2) fun x hx => ?_)
    simp only [List.mem_cons, List.not_mem_nil, or_false] at hx
    subst hx
    exact (cd_str (by decide +kernel)).mono (by decide)
  | not a | shift a | minus a =>
    refine (Cd.tup (n := 2) fun x hx => ?_)
    simp only [List.mem_cons, List.not_mem_nil, or_false] at hx
    rcases hx with rfl | rfl
    · exact (cd_str (by decide +kernel)).mono (by decide)
    · exact i _
  | and a b | or a b | xor a b | add a b | sub a b =>
    refine (Cd.tup (n := 2) fun x hx => ?_)
    simp only [List.mem_cons, List.not_mem_nil, or_false] at hx
    rcases hx with rfl | rfl | rfl
    · exact (cd_str (by decide +kernel)).mono (by decide)
    · exact i _
    · exact i _
open Classical in
theorem deed_eq (a b : Deed) : oEq a.pv b.pv = .ok (.bl (decide (a = b))) ∧ oNe a.pv b.pv = .ok (.bl (!decide (a = b))) := by
  have h := a.cd.dec b.cd (by decide)
  have e : (decide (a.pv = b.pv)) = decide (a = b) := by
    rw [decide_eq_decide]
    exact ⟨Deed.pv_inj, fun h => by rw [h]⟩
  rw [h.1, h.2, e]
  exact ⟨rfl, rfl⟩
open Classical in
theorem deeds_eq (a b : List Deed) : oEq (.tup (a.map Deed.pv)) (.tup (b.map Deed.pv)) = .ok (.bl (decide (a = b))) := by
  have ca : ∀ a : List Deed, Cd 4 (.tup (a.map Deed.pv)) := fun a => Cd.tup fun x hx => by obtain ⟨d, _, rfl⟩ := List.mem_map.mp hx; exact d.cd
  have h := (ca a).dec (ca b) (by decide)
  rw [h.1]
  congr 2
  rw [decide_eq_decide]
  exact ⟨fun h => pvs_inj (by injection h), fun h => by rw [h]⟩
theorem lfrees_of : ∀ {xs : List PV}, (∀ x ∈ xs, lfree x = true) → lfrees xs = true
  | [], _ => by unfold lfrees; rfl
  | x :: r, h => by
    unfold lfrees
    rw [h x List.mem_cons_self, lfrees_of fun y hy => h y (List.mem_cons_of_mem _ hy)]
    rfl
theorem Deed.lfree (d : Deed) : PP.lfree d.pv = true := by
  have s : ∀ x : Str, PP.lfree (.str x) = true := fun x => by unfold PP.lfree; rfl
  have i : ∀ x : Int, PP.lfree (.int x) = true := fun x => by unfold PP.lfree; rfl
  cases d with
  | count p r ps =>
    unfold Deed.pv PP.lfree
    exact lfrees_of fun x hx => by
      simp only [List.mem_cons, List.not_mem_nil, or_false] at hx
      rcases hx with rfl | rfl | rfl | rfl
      · exact s _
      · exact i _
      · exact i _
      · unfold PP.lfree
        exact lfrees_of fun x hx => by obtain ⟨k, _, rfl⟩ := List.mem_map.mp hx; exact i _
  | _ =>
    unfold Deed.pv PP.lfree
    exact lfrees_of fun x hx => by
      simp only [List.mem_cons, List.not_mem_nil, or_false] at hx
      rcases hx with rfl | rfl | rfl <;> first | exact s _ | exact i _
theorem lfree_deeds (ds : List Deed) : PP.lfree (.tup (ds.map Deed.pv)) = true := by
  unfold PP.lfree
  exact lfrees_of fun x hx => by obtain ⟨d, _, rfl⟩ := List.mem_map.mp hx; exact d.lfree
theorem ints_get {ws : List Int} {a : Nat} (h : a < ws.length) : ws[a]? = some (ws.getD a 0) := by
  rw [List.getD_eq_getElem?_getD, List.getElem?_eq_getElem h]; rfl
theorem DeedsOk.of : ∀ {n : Nat} {ds : List Deed}, (∀ (i : Nat) (d : Deed), ds[i]? = some d → d.ok (n + i)) → DeedsOk n ds
  | _, [], _ => trivial
  | n, d :: r, h => ⟨h 0 d rfl, DeedsOk.of fun i e he => by
    have := h (i + 1) e (by rw [List.getElem?_cons_succ]; exact he)
    rwa [show n + (i + 1) = n + 1 + i by omega] at this⟩
theorem DeedsOk.app {n : Nat} {a b : List Deed} (h1 : DeedsOk n a) (h2 : DeedsOk (n + a.length) b) : DeedsOk n (a ++ b) := DeedsOk.of fun i d hd => by
  by_cases hi : i < a.length
  · rw [List.getElem?_append_left hi] at hd; exact h1.get hd
  · rw [List.getElem?_append_right (by omega)] at hd
    have := h2.get hd
    rwa [show n + a.length + (i - a.length) = n + i by omega] at this
theorem DeedsOk.tk {n : Nat} {a : List Deed} (h : DeedsOk n a) (k : Nat) : DeedsOk n (a.take k) := DeedsOk.of fun i d hd => by
  rw [List.getElem?_take] at hd
  split at hd
  · exact h.get hd
  · cases hd
theorem DeedsOk.dr {n : Nat} {a : List Deed} (h : DeedsOk n a) (k : Nat) : DeedsOk (n + k) (a.drop k) := DeedsOk.of fun i d hd => by
  rw [List.getElem?_drop] at hd
  have := h.get hd
  rwa [← Nat.add_assoc] at this
theorem Deed.ok_mono {d : Deed} {a b : Nat} (h : d.ok a) (hab : a ≤ b) : d.ok b := by
  cases d with
  | count p r ps => exact ⟨h.1, h.2.1, h.2.2.1, h.2.2.2.1, fun i hi => Nat.lt_of_lt_of_le (h.2.2.2.2 i hi) hab⟩
  | zero | ones => trivial
  | not a | shift a | minus a => exact Nat.lt_of_lt_of_le h hab
  | and a b | or a b | xor a b | add a b | sub a b => exact ⟨Nat.lt_of_lt_of_le h.1 hab, Nat.lt_of_lt_of_le h.2 hab⟩
def Deed.len : Deed → Nat
  | .zero | .ones => 1
  | .not _ | .shift _ | .minus _ => 2
  | .count _ _ _ => 4
  | _ => 3
theorem deed_len (d : Deed) : oLen d.pv = .ok (.int (d.len : Nat)) := by cases d <;> rfl
theorem deeds_at {ds : List Deed} {i : Nat} (h : i < ds.length) : ds[i]? = some (ds.getD i .zero) := by
  rw [List.getD_eq_getElem?_getD, List.getElem?_eq_getElem h]; rfl
def Good (n o : Nat) (ds es : List Deed) : Prop := DeedsOk n es ∧ es ≠ ds ∧ o < n + es.length
theorem good_set {n o i : Nat} {ds : List Deed} {d x : Deed} (h : DeedsOk n ds) (ho : o < n + ds.length) (hd : ds[i]? = some d) (hx : x.ok (n + i)) (hne : x ≠ d) : Good n o ds (ds.take i ++ x :: ds.drop (i + 1)) := by
  have hi := (List.getElem?_eq_some_iff.mp hd).1
  have hl : (ds.take i).length = i := by rw [List.length_take]; omega
  refine ⟨(h.tk i).app ⟨by rw [hl]; exact hx, by rw [hl]; exact h.dr (i + 1)⟩, fun e => hne ?_, by rw [List.length_append, hl, List.length_cons, List.length_drop]; omega⟩
  have := congrArg (fun l : List Deed => l[i]?) e
  simp only [hd] at this
  rw [List.getElem?_append_right (by omega), hl, Nat.sub_self] at this
  exact Option.some.inj this
theorem good_swap {n o i : Nat} {ds : List Deed} {a b : Deed} (h : DeedsOk n ds) (ho : o < n + ds.length) (ha : ds[i]? = some a) (hb : ds[i + 1]? = some b) (hx : b.ok (n + i)) (hne : a ≠ b) : Good n o ds (ds.take i ++ b :: a :: ds.drop (i + 2)) := by
  have hi := (List.getElem?_eq_some_iff.mp hb).1
  have hl : (ds.take i).length = i := by rw [List.length_take]; omega
  refine ⟨(h.tk i).app ⟨by rw [hl]; exact hx, by rw [hl]; exact Deed.ok_mono (h.get ha) (by omega), by rw [hl]; exact h.dr (i + 2)⟩, fun e => hne ?_, by rw [List.length_append, hl, List.length_cons, List.length_cons, List.length_drop]; omega⟩
  have := congrArg (fun l : List Deed => l[i]?) e
  simp only [ha] at this
  rw [List.getElem?_append_right (by omega), hl, Nat.sub_self] at this
  exact (Option.some.inj this).symm
theorem good_cut {n o : Nat} {ds : List Deed} (h : DeedsOk n ds) (h0 : 0 < ds.length) (ho : o < n + ds.length - 1) : Good n o ds ds.dropLast := by
  refine ⟨by rw [List.dropLast_eq_take]; exact h.tk _, fun e => ?_, by rw [List.length_dropLast]; omega⟩
  have := congrArg List.length e
  rw [List.length_dropLast] at this
  omega
def Deed.pair : Deed → Bool
  | .and a b | .or a b | .xor a b | .add a b | .sub a b => !decide (a = b)
  | _ => false
def Deed.args : Deed → List Nat
  | .not a | .shift a | .minus a => [a]
  | .and a b | .or a b | .xor a b | .add a b | .sub a b => [a, b]
  | _ => []
theorem maxI_args {k : Nat} {l : List Nat} (h : maxI 0 (l.map fun (i : Nat) => (i : Int)) < (k : Int)) : ∀ i ∈ l, i < k := fun i hi => by
  have := (maxI_spec (l.map fun (i : Nat) => (i : Int)) 0).2 (i : Int) (List.mem_cons_of_mem _ (List.mem_map.mpr ⟨i, hi, rfl⟩))
  omega
theorem Deed.ok_args {d : Deed} {k : Nat} (hc : ∀ p r ps, d ≠ .count p r ps) (h : ∀ i ∈ d.args, i < k) : d.ok k := by
  cases d with
  | count p r ps => exact absurd rfl (hc p r ps)
  | zero | ones => trivial
  | not a | shift a | minus a => exact h a (by simp [Deed.args])
  | and a b | or a b | xor a b | add a b | sub a b => exact ⟨h a (by simp [Deed.args]), h b (by simp [Deed.args])⟩
theorem getD_memN {l : List Nat} {i : Nat} (h : i < l.length) : l.getD i 0 ∈ l := by
  rw [List.getD_eq_getElem?_getD, List.getElem?_eq_getElem h]; exact List.getElem_mem _
def listsP (dss : List (List Deed)) : List PV := dss.map fun es => .lst (es.map Deed.pv)
theorem listsP_snoc (dss : List (List Deed)) (es : List Deed) : listsP dss ++ [.lst (es.map Deed.pv)] = listsP (dss ++ [es]) := by unfold listsP; rw [List.map_append]; rfl
theorem listsP_len (dss : List (List Deed)) : (listsP dss).length = dss.length := List.length_map _
theorem mod_ne {x k z : Nat} (hx : x < k) (hk : 1 < k) : (x + 1 + z % (k - 1)) % k ≠ x ∧ (x + 1 + z % (k - 1)) % k < k := by
  have hz : z % (k - 1) < k - 1 := Nat.mod_lt _ (by omega)
  refine ⟨?_, Nat.mod_lt _ (by omega)⟩
  generalize z % (k - 1) = y at *
  by_cases h : x + 1 + y < k
  · rw [Nat.mod_eq_of_lt h]; omega
  · rw [Nat.mod_eq_sub_mod (by omega), Nat.mod_eq_of_lt (by omega)]; omega
end PP

namespace PPK10
open PySem L2 PP
abbrev T (m : Nat) : Tab := tab step m
def isI : PV → Bool | .int _ => true | _ => false
def isB : PV → Bool | .bl _ => true | _ => false
def isTp : PV → Bool | .tup _ => true | _ => false
def isLs : PV → Bool | .lst _ => true | _ => false
def isS : PV → Bool | .str _ => true | _ => false
def isC (n : Nat) : PV → Bool | .obj c _ => decide (c = n) | _ => false
def fine : PV → Bool
  | .non | .bl _ | .int _ | .str _ | .tup _ | .lst _ => true
  | .obj c _ => decide (c < 1)
  | _ => false
theorem isi_tup {d : PV} (h : fine d = true) : oIsi isiT [.tup] d = .ok (.bl (isTp d)) := by
  cases d with
  | obj c fs =>
    have hc : c < 1 := of_decide_eq_true h
    match c, hc with
    | 0, _ => rfl
  | _ => first | rfl | cases h
theorem isi_str {d : PV} (h : fine d = true) : oIsi isiT [.str] d = .ok (.bl (isS d)) := by
  cases d with
  | obj c fs =>
    have hc : c < 1 := of_decide_eq_true h
    match c, hc with
    | 0, _ => rfl
  | _ => first | rfl | cases h
theorem isi_int {d : PV} (h : fine d = true) : oIsi isiT [.int] d = .ok (.bl (isI d || isB d)) := by
  cases d with
  | obj c fs =>
    have hc : c < 1 := of_decide_eq_true h
    match c, hc with
    | 0, _ => rfl
  | _ => first | rfl | cases h
theorem isi_bl {d : PV} (h : fine d = true) : oIsi isiT [.bl] d = .ok (.bl (isB d)) := by
  cases d with
  | obj c fs =>
    have hc : c < 1 := of_decide_eq_true h
    match c, hc with
    | 0, _ => rfl
  | _ => first | rfl | cases h
theorem isi_seq {d : PV} (h : fine d = true) : oIsi isiT [.lst, .tup] d = .ok (.bl (isLs d || isTp d)) := by
  cases d with
  | obj c fs =>
    have hc : c < 1 := of_decide_eq_true h
    match c, hc with
    | 0, _ => rfl
  | _ => first | rfl | cases h
theorem isi_cls0 {d : PV} (h : fine d = true) : oIsi isiT [(.cls 0)] d = .ok (.bl (isC 0 d)) := by
  cases d with
  | obj c fs =>
    have hc : c < 1 := of_decide_eq_true h
    match c, hc with
    | 0, _ => rfl
  | _ => first | rfl | cases h
theorem ISI : (∀ (i : Int), oIsi isiT [.tup] (.int i) = .ok (.bl false)) ∧
  (∀ (i : Bool), oIsi isiT [.tup] (.bl i) = .ok (.bl false)) ∧
  (∀ (i : Str), oIsi isiT [.tup] (.str i) = .ok (.bl false)) ∧
  (∀ (i : List PV), oIsi isiT [.tup] (.tup i) = .ok (.bl true)) ∧
  (∀ (i : List PV), oIsi isiT [.tup] (.lst i) = .ok (.bl false)) ∧
  (oIsi isiT [.tup] (.non) = .ok (.bl false)) ∧
  (∀ (i : List PV), oIsi isiT [.tup] (.obj 0 i) = .ok (.bl false)) ∧
  (∀ (i : Int), oIsi isiT [.str] (.int i) = .ok (.bl false)) ∧
  (∀ (i : Bool), oIsi isiT [.str] (.bl i) = .ok (.bl false)) ∧
  (∀ (i : Str), oIsi isiT [.str] (.str i) = .ok (.bl true)) ∧
  (∀ (i : List PV), oIsi isiT [.str] (.tup i) = .ok (.bl false)) ∧
  (∀ (i : List PV), oIsi isiT [.str] (.lst i) = .ok (.bl false)) ∧
  (oIsi isiT [.str] (.non) = .ok (.bl false)) ∧
  (∀ (i : List PV), oIsi isiT [.str] (.obj 0 i) = .ok (.bl false)) ∧
  (∀ (i : Int), oIsi isiT [.int] (.int i) = .ok (.bl true)) ∧
  (∀ (i : Bool), oIsi isiT [.int] (.bl i) = .ok (.bl true)) ∧
  (∀ (i : Str), oIsi isiT [.int] (.str i) = .ok (.bl false)) ∧
  (∀ (i : List PV), oIsi isiT [.int] (.tup i) = .ok (.bl false)) ∧
  (∀ (i : List PV), oIsi isiT [.int] (.lst i) = .ok (.bl false)) ∧
  (oIsi isiT [.int] (.non) = .ok (.bl false)) ∧
  (∀ (i : List PV), oIsi isiT [.int] (.obj 0 i) = .ok (.bl false)) ∧
  (∀ (i : Int), oIsi isiT [.bl] (.int i) = .ok (.bl false)) ∧
  (∀ (i : Bool), oIsi isiT [.bl] (.bl i) = .ok (.bl true)) ∧
  (∀ (i : Str), oIsi isiT [.bl] (.str i) = .ok (.bl false)) ∧
  (∀ (i : List PV), oIsi isiT [.bl] (.tup i) = .ok (.bl false)) ∧
  (∀ (i : List PV), oIsi isiT [.bl] (.lst i) = .ok (.bl false)) ∧
  (oIsi isiT [.bl] (.non) = .ok (.bl false)) ∧
  (∀ (i : List PV), oIsi isiT [.bl] (.obj 0 i) = .ok (.bl false)) ∧
  (∀ (i : Int), oIsi isiT [.lst, .tup] (.int i) = .ok (.bl false)) ∧
  (∀ (i : Bool), oIsi isiT [.lst, .tup] (.bl i) = .ok (.bl false)) ∧
  (∀ (i : Str), oIsi isiT [.lst, .tup] (.str i) = .ok (.bl false)) ∧
  (∀ (i : List PV), oIsi isiT [.lst, .tup] (.tup i) = .ok (.bl true)) ∧
  (∀ (i : List PV), oIsi isiT [.lst, .tup] (.lst i) = .ok (.bl true)) ∧
  (oIsi isiT [.lst, .tup] (.non) = .ok (.bl false)) ∧
  (∀ (i : List PV), oIsi isiT [.lst, .tup] (.obj 0 i) = .ok (.bl false)) ∧
  (∀ (i : Int), oIsi isiT [(.cls 0)] (.int i) = .ok (.bl false)) ∧
  (∀ (i : Bool), oIsi isiT [(.cls 0)] (.bl i) = .ok (.bl false)) ∧
  (∀ (i : Str), oIsi isiT [(.cls 0)] (.str i) = .ok (.bl false)) ∧
  (∀ (i : List PV), oIsi isiT [(.cls 0)] (.tup i) = .ok (.bl false)) ∧
  (∀ (i : List PV), oIsi isiT [(.cls 0)] (.lst i) = .ok (.bl false)) ∧
  (oIsi isiT [(.cls 0)] (.non) = .ok (.bl false)) ∧
  (∀ (i : List PV), oIsi isiT [(.cls 0)] (.obj 0 i) = .ok (.bl true)) :=
  ⟨fun _ => rfl, fun _ => rfl, fun _ => rfl, fun _ => rfl, fun _ => rfl, rfl, fun _ => rfl, fun _ => rfl, fun _ => rfl, fun _ => rfl, fun _ => rfl, fun _ => rfl, rfl, fun _ => rfl, fun _ => rfl, fun _ => rfl, fun _ => rfl, fun _ => rfl, fun _ => rfl, rfl, fun _ => rfl, fun _ => rfl, fun _ => rfl, fun _ => rfl, fun _ => rfl, fun _ => rfl, rfl, fun _ => rfl, fun _ => rfl, fun _ => rfl, fun _ => rfl, fun _ => rfl, fun _ => rfl, rfl, fun _ => rfl, fun _ => rfl, fun _ => rfl, fun _ => rfl, fun _ => rfl, fun _ => rfl, rfl, fun _ => rfl⟩
theorem T0 (m : Nat) (ds : List PV) : T (m + 1) 0 ds = fnDen 1 1 (s0 (T m)) ds := rfl
theorem T1 (m : Nat) (ds : List PV) : T (m + 1) 1 ds = fnDen 1 13 (s1 (T m)) ds := rfl
theorem T2 (m : Nat) (ds : List PV) : T (m + 1) 2 ds = fnDen 2 5 (s2 (T m)) ds := rfl
theorem T3 (m : Nat) (ds : List PV) : T (m + 1) 3 ds = fnDen 4 7 (s3 (T m)) ds := rfl
theorem T4 (m : Nat) (ds : List PV) : T (m + 1) 4 ds = iniDen 0 3 4 7 (s4 (T m)) ds := rfl
theorem T5 (m : Nat) (ds : List PV) : T (m + 1) 5 ds = fnDen 2 2 (s5 (T m)) ds := rfl
theorem T6 (m : Nat) (ds : List PV) : T (m + 1) 6 ds = fnDen 2 5 (s6 (T m)) ds := rfl
theorem T7 (m : Nat) (ds : List PV) : T (m + 1) 7 ds = fnDen 5 7 (s7 (T m)) ds := rfl
theorem T8 (m : Nat) (ds : List PV) : T (m + 1) 8 ds = fnDen 2 4 (s8 (T m)) ds := rfl
theorem T9 (m : Nat) (ds : List PV) : T (m + 1) 9 ds = fnDen 2 2 (s9 (T m)) ds := rfl
theorem T10 (m : Nat) (ds : List PV) : T (m + 1) 10 ds = fnDen 5 10 (s10 (T m)) ds := rfl
theorem T11 (m : Nat) (ds : List PV) : T (m + 1) 11 ds = fnDen 2 4 (s11 (T m)) ds := rfl
theorem T12 (m : Nat) (ds : List PV) : T (m + 1) 12 ds = fnDen 2 7 (s12 (T m)) ds := rfl
theorem T13 (m : Nat) (ds : List PV) : T (m + 1) 13 ds = fnDen 1 1 (s13 (T m)) ds := rfl
theorem T14 (m : Nat) (ds : List PV) : T (m + 1) 14 ds = fnDen 1 1 (s14 (T m)) ds := rfl
theorem T15 (m : Nat) (ds : List PV) : T (m + 1) 15 ds = fnDen 2 2 (s15 (T m)) ds := rfl
theorem T16 (m : Nat) (ds : List PV) : T (m + 1) 16 ds = fnDen 2 2 (s16 (T m)) ds := rfl
theorem T17 (m : Nat) (ds : List PV) : T (m + 1) 17 ds = fnDen 3 5 (s17 (T m)) ds := rfl
theorem T18 (m : Nat) (ds : List PV) : T (m + 1) 18 ds = fnDen 3 3 (s18 (T m)) ds := rfl
theorem T19 (m : Nat) (ds : List PV) : T (m + 1) 19 ds = fnDen 2 3 (s19 (T m)) ds := rfl
theorem T20 (m : Nat) (ds : List PV) : T (m + 1) 20 ds = fnDen 3 5 (s20 (T m)) ds := rfl
theorem T21 (m : Nat) (ds : List PV) : T (m + 1) 21 ds = fnDen 1 1 (s21 (T m)) ds := rfl
theorem T22 (m : Nat) (ds : List PV) : T (m + 1) 22 ds = fnDen 3 11 (s22 (T m)) ds := rfl
theorem T23 (m : Nat) (ds : List PV) : T (m + 1) 23 ds = fnDen 2 2 (s23 (T m)) ds := rfl
theorem T24 (m : Nat) (ds : List PV) : T (m + 1) 24 ds = fnDen 1 1 (s24 (T m)) ds := rfl
theorem T25 (m : Nat) (ds : List PV) : T (m + 1) 25 ds = fnDen 2 3 (s25 (T m)) ds := rfl
theorem T26 (m : Nat) (ds : List PV) : T (m + 1) 26 ds = fnDen 2 5 (s26 (T m)) ds := rfl
theorem T27 (m : Nat) (ds : List PV) : T (m + 1) 27 ds = fnDen 3 6 (s27 (T m)) ds := rfl
theorem T28 (m : Nat) (ds : List PV) : T (m + 1) 28 ds = fnDen 1 1 (s28 (T m)) ds := rfl
theorem T29 (m : Nat) (ds : List PV) : T (m + 1) 29 ds = fnDen 4 6 (s29 (T m)) ds := rfl
theorem T30 (m : Nat) (ds : List PV) : T (m + 1) 30 ds = fnDen 3 8 (s30 (T m)) ds := rfl
theorem T31 (m : Nat) (ds : List PV) : T (m + 1) 31 ds = fnDen 3 7 (s31 (T m)) ds := rfl
theorem T32 (m : Nat) (ds : List PV) : T (m + 1) 32 ds = fnDen 2 2 (s32 (T m)) ds := rfl
theorem T33 (m : Nat) (ds : List PV) : T (m + 1) 33 ds = fnDen 4 8 (s33 (T m)) ds := rfl
theorem pos_of {m c : Nat} (h : c + 1 ≤ m) : ∃ k, m = k + 1 ∧ c ≤ k := ⟨m - 1, by omega, by omega⟩
/-- is_integer -/
theorem f_is_integer {m : Nat} (hm : 1 ≤ m) {d : PV} (h : fine d = true) : T m 24 [d] = .ok (.bl (isI d)) := by
  obtain ⟨m, rfl, hk⟩ := pos_of hm
  rw [T24]
  refine fnDen_ok rfl ?_
  show s24 (T m) [.fr d] = _
  refine ret_ok ?_
  have h1 : dUn (oIsi isiT [.int]) (dVar 0) [.fr d] = .ok (.bl (isI d || isB d)) := isi_int h
  have h2 : dUn oNot (dUn (oIsi isiT [.bl]) (dVar 0)) [.fr d] = .ok (.bl (!isB d)) := by
    show ((oIsi isiT [.bl] d).bind oNot) = _
    rw [isi_bl h]; rfl
  unfold dAndV
  rw [h1, bind_ok]
  cases d <;> first | exact h2 | rfl | cases h
/-- is_below -/
def below (d : PV) (n : Int) : Bool := match d with
  | .int i => decide (0 ≤ i) && decide (i < n)
  | _ => false
theorem f_is_below {m : Nat} (hm : 2 ≤ m) {d : PV} (h : fine d = true) (n : Int) : T m 15 [d, .int n] = .ok (.bl (below d n)) := by
  obtain ⟨m, rfl, hk⟩ := pos_of hm
  rw [T15]
  refine fnDen_ok rfl ?_
  refine ret_ok ?_
  have h1 : dCall (T m) 24 (dCons (dVar 0) dNil) [.fr d, .fr (.int n)] = .ok (.bl (isI d)) := f_is_integer hk h
  show dAndV _ _ [.fr d, .fr (.int n)] = _
  unfold dAndV
  rw [h1, bind_ok]
  cases d with
  | int i =>
    show dChain oLe oLt (dC (.int 0)) (dVar 0) (dVar 1) [.fr (.int i), .fr (.int n)] = _
    by_cases h0 : 0 ≤ i
    · simp [h0, below, dChain, dVar]
    · simp [h0, below, dChain, dVar]
  | _ => rfl
/-- _law_mixed -/
def once (c k : Int) : Int := (c * 48271 + k * 1103515245 + 12345).fmod 2147483647
def twice (c k : Int) : Int := (once c k * once c k + 69621).fmod 2147483563
def mixed (c k : Int) : Int := ((twice c k * ((twice c k).fmod 65521 + 3)).fmod 1000000007).fdiv 8
theorem once_b (c k : Int) : 0 ≤ once c k ∧ once c k < 2147483647 := fmod_nn (by decide)
theorem twice_b (c k : Int) : 0 ≤ twice c k ∧ twice c k < 2147483563 := fmod_nn (by decide)
theorem f__law_mixed {m : Nat} (hm : 1 ≤ m) (c k : Int) : T m 11 [.int c, .int k] = .ok (.int (mixed c k)) := by
  obtain ⟨m, rfl, hk⟩ := pos_of hm
  rw [T11]
  refine fnDen_ok rfl ?_
  show s11 (T m) [.fr (.int c), .fr (.int k), .no, .no] = _
  have h1 := once_b c k
  have h2 := twice_b c k
  refine run_seq (asg_ok (d := .int (once c k)) ?_) ?_
  · simp [oMul_ok (mulC_r (i := c) (j := 48271) (by decide) (by decide)), oMul_ok (mulC_r (i := k) (j := 1103515245) (by decide) (by decide)), once, oMod_ok (show (2147483647 : Int) ≠ 0 by decide)]
  · refine run_seq (asg_ok (d := .int (twice c k)) ?_) ?_
    · simp [oMul_ok (mulC_r (i := once c k) (j := once c k) (by omega) (by omega)), twice, oMod_ok (show (2147483563 : Int) ≠ 0 by decide)]
    · refine ret_ok ?_
      simp [oMul_ok (mulC_l (i := twice c k) (j := (twice c k).fmod 65521 + 3) (by omega) (by omega)), mixed, oMod_ok (show (65521 : Int) ≠ 0 by decide), oMod_ok (show (1000000007 : Int) ≠ 0 by decide), oFdiv_ok (show (8 : Int) ≠ 0 by decide) (by decide)]
/-- _law_cell: an int, whichever -/
theorem getI {ns : List Int} {i : Int} (h0 : 0 ≤ i) (h : i < ns.length) : ∃ n, atI (ns.map PV.int) i = some (.int n) := by
  obtain ⟨x, h1, h2⟩ := atI_in (xs := ns.map PV.int) h0 (by simpa using h)
  rw [List.getElem?_map] at h2
  cases hx : ns[i.toNat]? with
  | none => rw [hx] at h2; cases h2
  | some n => rw [hx] at h2; cases h2; exact ⟨n, h1⟩
theorem f__law_cell {m : Nat} (hm : 1 ≤ m) (ns : List Int) (k : Int) (h0 : 0 ≤ k) : ∃ c, T m 5 [.scr (ns.map PV.int), .int k] = .ok (.int c) := by
  obtain ⟨m, rfl, hk⟩ := pos_of hm
  rw [T5]
  suffices h : ∃ c, s5 (T m) [.fr (.scr (ns.map PV.int)), .fr (.int k)] = .rt (.int c) from h.imp fun c hc => fnDen_ok rfl hc
  by_cases h1 : k < ns.length
  · obtain ⟨n, hn⟩ := getI h0 h1
    refine ⟨n, seq_rt ?_⟩
    rw [if_T (by simp [h1])]
    exact ret_ok (by simp [hn])
  · by_cases h2 : 0 < ns.length
    · have hb := fmod_nn (a := k) (b := (ns.length : Int)) (by omega)
      obtain ⟨n, hn⟩ := getI hb.1 hb.2
      refine ⟨n.fmod 100003 + 7919 * k, run_seq (ρ1 := [.fr (.scr (ns.map PV.int)), .fr (.int k)]) ?_ (seq_rt ?_)⟩
      · rw [if_F (by simp [h1])]; rfl
      · rw [if_T (by simpa using h2)]
        refine ret_ok ?_
        have hz : ¬ ns = [] := fun z => by rw [z] at h2; simp at h2
        simp [hn, oMod_ok (show ((ns.length : Nat) : Int) ≠ 0 by omega), oMod_ok (show (100003 : Int) ≠ 0 by decide), oMul_ok (mulC_l (i := 7919) (j := k) (by decide) (by decide))]
    · refine ⟨7919 * k + 5, run_seq (ρ1 := [.fr (.scr (ns.map PV.int)), .fr (.int k)]) ?_ (run_seq (ρ1 := [.fr (.scr (ns.map PV.int)), .fr (.int k)]) ?_ (ret_ok ?_))⟩
      · rw [if_F (by simp [h1])]; rfl
      · rw [if_F (by simpa using h2)]; rfl
      · simp [oMul_ok (mulC_l (i := 7919) (j := k) (by decide) (by decide))]
/-- _law_draws: as many as asked, each below its size -/
def Draws (ss ds : List Int) : Prop := ds.length = ss.length ∧ ∀ (j : Nat) (a b : Int), ds[j]? = some a → ss[j]? = some b → 0 ≤ a ∧ a < b
theorem Draws.snoc {ss ds : List Int} {i : Nat} {a b : Int} (h : Draws (ss.take i) ds) (hb : ss[i]? = some b) (h0 : 0 ≤ a) (h1 : a < b) : Draws (ss.take (i + 1)) (ds ++ [a]) := by
  have hi := (List.getElem?_eq_some_iff.mp hb).1
  have hl : ds.length = i := by rw [h.1, List.length_take]; omega
  refine ⟨by rw [List.length_append, hl, List.length_take]; simp; omega, fun j x y hx hy => ?_⟩
  rw [List.getElem?_take] at hy
  split at hy
  · rename_i hj
    by_cases hji : j < i
    · rw [List.getElem?_append_left (by omega)] at hx
      exact h.2 j x y hx (by rw [List.getElem?_take, if_pos hji]; exact hy)
    · have : j = i := by omega
      subst this
      rw [List.getElem?_append_right (by omega), hl] at hx
      simp at hx
      subst hx
      rw [hb] at hy
      cases hy
      exact ⟨h0, h1⟩
  · cases hy
theorem intsAt {ss : List Int} {i : Nat} {b : Int} (h : ss[i]? = some b) : atI (ss.map PV.int) (i : Int) = some (.int b) := by
  rw [atI_nat (by have := (List.getElem?_eq_some_iff.mp h).1; simpa using this), List.getElem?_map, h]
  rfl
theorem f__law_draws {m : Nat} (hm : 2 ≤ m) (c : Int) (ss : List Int) (hs : ∀ b ∈ ss, 0 < b ∧ b < 1073741824) (hl : ss.length ≤ 1000000) : ∃ ds, T m 2 [.int c, .lst (ss.map PV.int)] = .ok (.lst (ds.map PV.int)) ∧ Draws ss ds := by
  obtain ⟨m, rfl, hk⟩ := pos_of hm
  rw [T2]
  suffices h : ∃ ds, s2 (T m) [.fr (.int c), .fr (.lst (ss.map PV.int)), .no, .no, .no] = .rt (.lst (ds.map PV.int)) ∧ Draws ss ds from h.imp fun ds hd => ⟨fnDen_ok rfl hd.1, hd.2⟩
  unfold s2
  rw [seq_nx (asgO_ok (d := .lst []) (by simp [dLst]))]
  rw [seq_nx (asg_ok (d := .int c) rfl)]
  have inv := forL_inv (g := gNm 4) (s := (sIf (dAndT (dTst (dBin oGe (dVar 0) (dBin oPow (dC (.int 10)) (dC (.int 18))))) (dAndT (dTst (dBin oLt (dVar 4) (dC (.int 60)))) (dTst (dBin oGt (dVar 3) (dC (.int 0)))))) (sSeq (sApp 2 (dBin oMod (dFn (f1 oInt) (dCons (dVar 3) dNil)) (dBin oIx (dVar 1) (dVar 4))))
  (sAsg 3 (dBin oFdiv (dVar 3) (dBin oIx (dVar 1) (dVar 4))))) (sApp 2 (dBin oMod (dCall (T m) 11 (dCons (dVar 0) (dCons (dVar 4) dNil))) (dBin oIx (dVar 1) (dVar 4))))))
    (fun i ρ => ∃ ds l w, ρ = [.fr (.int c), .fr (.lst (ss.map PV.int)), .ow (.lst (ds.map PV.int)), .fr (.int l), w] ∧ Draws (ss.take i) ds) (rngP 0 ss.length) 0 [.fr (.int c), .fr (.lst (ss.map PV.int)), .ow (.lst []), .fr (.int c), .no]
    ⟨[], c, .no, rfl, rfl, fun j a b h => by simp at h⟩ fun i d ρ hd ⟨ds, l, w, e, hD⟩ => by
      subst e
      have hi : i < ss.length := by have := (List.getElem?_eq_some_iff.mp hd).1; rwa [rngP_length] at this
      rw [rngP_get hi] at hd
      cases hd
      rw [Nat.zero_add] at hD ⊢
      rw [Int.zero_add]
      obtain ⟨b, hb⟩ : ∃ b, ss[i]? = some b := ⟨ss[i], List.getElem?_eq_getElem hi⟩
      obtain ⟨b0, b1⟩ := hs b (List.mem_of_getElem? hb)
      have hat := intsAt hb
      have hdl : ds.length < cap := by
        have : ds.length = (ss.take i).length := hD.1
        rw [List.length_take] at this
        have hc : cap = 16777216 := rfl
        omega
      refine ⟨[.fr (.int c), .fr (.lst (ss.map PV.int)), .ow (.lst (ds.map PV.int)), .fr (.int l), .fr (.int (i : Int))], ?_⟩
      have hbne : ¬ b = 0 := by omega
      have hbna : b.natAbs < 1073741824 := by omega
      by_cases hc : (1000000000000000000 : Int) ≤ c ∧ ((i : Int) < 60 ∧ 0 < l)
      · refine ⟨[.fr (.int c), .fr (.lst (ss.map PV.int)), .ow (.lst ((ds ++ [l.fmod b]).map PV.int)), .fr (.int (l.fdiv b)), .fr (.int (i : Int))], rfl, .inl ?_, _, _, _, rfl, hD.snoc hb (fmod_nn b0).1 (fmod_nn b0).2⟩
        rw [if_T (by simp [hc.1, hc.2.1, hc.2.2])]
        rw [seq_nx (ρ1 := [.fr (.int c), .fr (.lst (ss.map PV.int)), .ow (.lst ((ds ++ [l.fmod b]).map PV.int)), .fr (.int l), .fr (.int (i : Int))]) (by simp [sApp, hat, oMod_ok hbne, hdl])]
        exact asg_ok (by simp [hat, oFdiv_ok hbne hbna])
      · refine ⟨[.fr (.int c), .fr (.lst (ss.map PV.int)), .ow (.lst ((ds ++ [(mixed c i).fmod b]).map PV.int)), .fr (.int l), .fr (.int (i : Int))], rfl, .inl ?_, _, _, _, rfl, hD.snoc hb (fmod_nn b0).1 (fmod_nn b0).2⟩
        have ht : (dAndT (dTst (dBin oGe (dVar 0) (dBin oPow (dC (.int 10)) (dC (.int 18))))) (dAndT (dTst (dBin oLt (dVar 4) (dC (.int 60)))) (dTst (dBin oGt (dVar 3) (dC (.int 0)))))) [.fr (.int c), .fr (.lst (ss.map PV.int)), .ow (.lst (ds.map PV.int)), .fr (.int l), .fr (.int (i : Int))] = .ok false := by
          by_cases h1 : (1000000000000000000 : Int) ≤ c
          · by_cases h2 : (i : Int) < 60
            · have h3 : ¬ 0 < l := fun z => hc ⟨h1, h2, z⟩
              simp [h1, h2, h3]
            · simp [h1, h2]
          · simp [h1]
        rw [if_F ht]
        simp [sApp, hat, oMod_ok hbne, hdl, dCall, f__law_mixed hk]
  obtain ⟨ρ', h1, ds, l, w, rfl, hD⟩ := inv
  refine ⟨ds, ?_, by rw [rngP_length, Nat.zero_add, List.take_length] at hD; exact hD⟩
  refine (seq_nx (ρ1 := [.fr (.int c), .fr (.lst (ss.map PV.int)), .ow (.lst (ds.map PV.int)), .fr (.int l), w]) ?_).trans ?_
  · refine (for_ok (ds := rngP 0 ss.length) ?_).trans h1
    exact (dRng1_ok (j := (ss.length : Int)) (by simp) (by omega) (by omega)).trans (by rw [Int.toNat_natCast])
  · unfold sFrz
    exact ret_ok (by simp)
/-- is_number, is_inputs, is_word of ints -/
theorem f_is_number {m : Nat} (hm : 2 ≤ m) (i : Int) : T m 28 [.int i] = .ok (.bl (decide (0 ≤ i))) := by
  obtain ⟨m, rfl, hk⟩ := pos_of hm
  rw [T28]
  refine fnDen_ok rfl (ret_ok ?_)
  have h1 : dCall (T m) 24 (dCons (dVar 0) dNil) [.fr (.int i)] = .ok (.bl true) := f_is_integer hk rfl
  show dAndV _ _ [.fr (.int i)] = _
  unfold dAndV
  rw [h1, bind_ok]
  simp
theorem f_is_inputs {m : Nat} (hm : 2 ≤ m) {i : Int} (h : 1 ≤ i ∧ i ≤ 3) : T m 14 [.int i] = .ok (.bl true) := by
  obtain ⟨m, rfl, hk⟩ := pos_of hm
  rw [T14]
  refine fnDen_ok rfl (ret_ok ?_)
  have h1 : dCall (T m) 24 (dCons (dVar 0) dNil) [.fr (.int i)] = .ok (.bl true) := f_is_integer hk rfl
  show dAndV _ _ [.fr (.int i)] = _
  unfold dAndV
  rw [h1, bind_ok]
  simp [dChain, h.1, h.2]
theorem f_is_word {m : Nat} (hm : 3 ≤ m) {i : Int} {w : Nat} (h0 : 0 ≤ i) (h : i < 2 ^ w) : T m 32 [.int i, .int (w : Nat)] = .ok (.bl true) := by
  obtain ⟨m, rfl, hk⟩ := pos_of hm
  rw [T32]
  refine fnDen_ok rfl (ret_ok ?_)
  have h1 : dCall (T m) 28 (dCons (dVar 0) dNil) [.fr (.int i), .fr (.int (w : Nat))] = .ok (.bl true) := by
    have := f_is_number hk i
    rwa [decide_eq_true h0] at this
  show dAndV _ _ [.fr (.int i), .fr (.int (w : Nat))] = _
  unfold dAndV
  rw [h1, bind_ok]
  have hb : Builtin.Int.intBits i ≤ w := PySem.intBits_le_iff.mpr (by
    have : (i.natAbs : Int) < ((2 ^ w : Nat) : Int) := by rw [Int.natCast_pow]; show (i.natAbs : Int) < 2 ^ w; omega
    exact Int.ofNat_lt.mp this)
  show ((dUn oBits (dVar 0) [.fr (.int i), .fr (.int (w : Nat))]).bind _) = _
  show oLe (.int (Builtin.Int.intBits i : Nat)) (.int (w : Nat)) = _
  rw [oLe_int, decide_eq_true (by omega)]
/-- as_tuple -/
theorem f_as_tuple {m : Nat} (hm : 1 ≤ m) (d : PV) (xs : List PV) (h : d = .tup xs ∨ d = .lst xs) : T m 13 [d] = .ok (.tup xs) := by
  obtain ⟨m, rfl, hk⟩ := pos_of hm
  rw [T13]
  refine fnDen_ok rfl (seq_rt ?_)
  rcases h with rfl | rfl
  · rw [if_T (by rfl)]; exact ret_ok rfl
  · rw [if_T (by rfl)]; exact ret_ok rfl
theorem wipe1 {x0 x1 x2 x3 x4 x5 : PP.Slot} : wipeE [x0, x1, x2, x3, x4, x5] [5] = [x0, x1, x2, x3, x4, .no] := rfl
/-- are_words, of right words -/
def WOk (ws : List Int) (w : Nat) : Prop := (1 ≤ ws.length ∧ ws.length ≤ 3) ∧ w ≤ 64 ∧ ∀ x ∈ ws, 0 ≤ x ∧ x < 2 ^ w
theorem f_are_words {m : Nat} (hm : 4 ≤ m) {ws : List Int} {w : Nat} (hw : WOk ws w) (d : PV) (h : d = .tup (ws.map PV.int) ∨ d = .lst (ws.map PV.int)) : T m 29 [d, .int (w : Nat), .int 1, .int 3] = .ok (.bl true) := by
  obtain ⟨m, rfl, hk⟩ := pos_of hm
  rw [T29]
  refine fnDen_ok rfl ?_
  show s29 (T m) [.fr d, .fr (.int (w : Nat)), .fr (.int 1), .fr (.int 3), .no, .no] = _
  unfold s29
  rw [seq_nx (asg_ok (d := .tup (ws.map PV.int)) (by simp [dCall, f_as_tuple (show 1 ≤ m by omega) d _ h]))]
  have h1 : (1 : Int) ≤ (ws.length : Int) := by have := hw.1.1; omega
  have h3 : (ws.length : Int) ≤ 3 := by have := hw.1.2; omega
  rw [seq_nx (ρ1 := [.fr d, .fr (.int (w : Nat)), .fr (.int 1), .fr (.int 3), .fr (.tup (ws.map PV.int)), .no]) (by
    rw [if_F (by simp [oIs, isP, dChain, h1, h3])]; rfl)]
  refine ret_ok ?_
  have hl : lcL (gNm 5) dYes (dCall (T m) 32 (dCons (dVar 5) (dCons (dVar 1) dNil))) (wipeE [.fr d, .fr (.int (w : Nat)), .fr (.int 1), .fr (.int 3), .fr (.tup (ws.map PV.int)), .no] [5]) (ws.map PV.int) = .ok ((ws.map PV.int).map fun _ => .bl true) := by
    refine lcL_map (fun _ => .bl true) _ fun x hx => ?_
    obtain ⟨n, hn, rfl⟩ := List.mem_map.mp hx
    obtain ⟨n0, n1⟩ := hw.2.2 n hn
    exact ⟨_, rfl, rfl, f_is_word (by omega) n0 n1⟩
  have hd : dLc (dIt (dVar 4)) (gNm 5) dYes (dCall (T m) 32 (dCons (dVar 5) (dCons (dVar 1) dNil))) [5] [.fr d, .fr (.int (w : Nat)), .fr (.int 1), .fr (.int 3), .fr (.tup (ws.map PV.int)), .no] = .ok (.lst ((ws.map fun _ => true).map PV.bl)) := by
    refine dLc_ok (ds := ws.map PV.int) rfl (by have hc : cap = 16777216 := rfl; rw [List.length_map]; omega) ?_
    rw [hl, List.map_map, List.map_map]
    rfl
  have : (ws.map fun _ => true).all id = true := by rw [List.all_map]; simp
  simp only [dFn, dCons]
  rw [hd]
  simp only [bind_ok, dNil_eq, f1_eq, oAll_bls, this]
/-- letters -/
def bitOf (ws : List Int) (p : Nat) (k : Nat) : Int := ws.getD k 0 / 2 ^ p % 2
def letterOf (ws : List Int) (p : Nat) : Int := bsum (bitOf ws p) ws.length
def lettersOf (ws : List Int) (w : Nat) : List Int := (List.range w).map (letterOf ws)
theorem getD_of {ws : List Int} {i : Nat} (h : i < ws.length) : atI (ws.map PV.int) ((i : Nat) : Int) = some (.int (ws.getD i 0)) := by
  have e : ws[i]? = some (ws.getD i 0) := by
    rw [List.getD_eq_getElem?_getD, List.getElem?_eq_getElem h]; rfl
  exact intsAt e
theorem rng_map (n : Nat) : rngP 0 n = (List.range n).map fun (i : Nat) => PV.int (i : Int) := by
  unfold rngP
  apply List.map_congr_left
  intro i _
  rw [Int.zero_add]
theorem shr_bit {x : Int} {p : Nat} : oShr (.int x) (.int (p : Nat)) = .ok (.int (x / 2 ^ p)) := by
  rw [oShr_ok (Int.natCast_nonneg p), Int.toNat_natCast]
theorem shl_bitN {b : Int} {k : Nat} (h : 0 ≤ b ∧ b ≤ 1) (hk : k ≤ 1000000) : oShl (.int b) (.int (k : Nat)) = .ok (.int (b * 2 ^ k)) := by
  rw [oShl_bit h.1 h.2 (Int.natCast_nonneg k) (by omega), Int.toNat_natCast]
/-- things of a depth -/
def okd : Nat → PV → Bool
  | 0, _ => false
  | n + 1, .tup xs => xs.all (okd n) && decide (xs.length ≤ 1000)
  | n + 1, .lst xs => xs.all (okd n) && decide (xs.length ≤ 1000)
  | _ + 1, .obj c _ => fine (.obj c [])
  | _ + 1, .str x => PyData.strOk x
  | _ + 1, .non => true
  | _ + 1, .bl _ => true
  | _ + 1, .int _ => true
  | _ + 1, _ => false
theorem okd_fine : ∀ {n : Nat} {d : PV}, okd n d = true → fine d = true
  | 0, _, h => by cases h
  | n + 1, d, h => by cases d <;> first | rfl | exact h | cases h
theorem okd_tup {n : Nat} {xs : List PV} (h : okd (n + 1) (.tup xs) = true) : (∀ x ∈ xs, okd n x = true) ∧ xs.length ≤ 1000 := by
  have h : (xs.all (okd n) && decide (xs.length ≤ 1000)) = true := h
  rw [Bool.and_eq_true] at h
  exact ⟨fun x hx => List.all_eq_true.mp h.1 x hx, of_decide_eq_true h.2⟩
theorem okd_lst {n : Nat} {xs : List PV} (h : okd (n + 1) (.lst xs) = true) : (∀ x ∈ xs, okd n x = true) ∧ xs.length ≤ 1000 := by
  have h : (xs.all (okd n) && decide (xs.length ≤ 1000)) = true := h
  rw [Bool.and_eq_true] at h
  exact ⟨fun x hx => List.all_eq_true.mp h.1 x hx, of_decide_eq_true h.2⟩
theorem okd_ints {n : Nat} {ns : List Int} (hl : ns.length ≤ 1000) : okd (n + 2) (.lst (ns.map PV.int)) = true ∧ okd (n + 2) (.tup (ns.map PV.int)) = true := by
  have h : ((ns.map PV.int).all (okd (n + 1)) && decide ((ns.map PV.int).length ≤ 1000)) = true := by
    rw [Bool.and_eq_true]
    refine ⟨List.all_eq_true.mpr fun x hx => ?_, decide_eq_true (by rw [List.length_map]; exact hl)⟩
    obtain ⟨i, _, rfl⟩ := List.mem_map.mp hx
    rfl
  exact ⟨h, h⟩
def readB (d : PV) (n : Int) : Bool := match d with
  | .tup xs => xs.all fun x => below x n
  | _ => false
theorem shl_one {n : Nat} (h : n ≤ 1000) : oShl (.int 1) (.int (n : Nat)) = .ok (.int (2 ^ n)) := by
  have := shl_bitN (b := 1) (k := n) ⟨by decide, by decide⟩ (by omega)
  rwa [Int.one_mul] at this
theorem letter_b (ws : List Int) (p : Nat) : 0 ≤ letterOf ws p ∧ letterOf ws p < 2 ^ ws.length := bsum_bound fun k _ => bit_b _ _
theorem letters_len (ws : List Int) (w : Nat) : (lettersOf ws w).length = w := by simp [lettersOf]
theorem read_letters {ws : List Int} {w n : Nat} (h : ws.length ≤ n) : readB (.tup ((lettersOf ws w).map PV.int)) (2 ^ n) = true := by
  show ((lettersOf ws w).map PV.int).all _ = true
  rw [List.all_map, List.all_eq_true]
  intro x hx
  obtain ⟨p, _, rfl⟩ := List.mem_map.mp hx
  have hb := letter_b ws p
  have hp : (2 : Int) ^ ws.length ≤ 2 ^ n := by
    obtain ⟨k, rfl⟩ := Nat.le.dest h
    rw [Int.pow_add]
    have h1 : (0 : Int) < 2 ^ ws.length := Int.pow_pos (by decide)
    have h2 : (0 : Int) < 2 ^ k := Int.pow_pos (by decide)
    have : (2 : Int) ^ ws.length * 1 ≤ 2 ^ ws.length * 2 ^ k := Int.mul_le_mul_of_nonneg_left (by omega) (by omega)
    omega
  show (decide (0 ≤ letterOf ws p) && decide (letterOf ws p < 2 ^ n)) = true
  rw [decide_eq_true hb.1, decide_eq_true (by omega)]
  rfl
/-- a word out of its letters -/
theorem word_back {ws : List Int} {w : Nat} (hw : WOk ws w) {i : Nat} (hi : i < ws.length) : bsum (fun p => letterOf ws p / 2 ^ i % 2) w = ws.getD i 0 := by
  have hx : 0 ≤ ws.getD i 0 ∧ ws.getD i 0 < 2 ^ w := hw.2.2 _ (by
    rw [List.getD_eq_getElem?_getD, List.getElem?_eq_getElem hi]
    exact List.getElem_mem hi)
  rw [← bsum_bits hx.1 hx.2]
  exact bsum_congr fun p _ => bsum_bit (f := bitOf ws p) (fun k _ => bit_b _ _) hi
/-- _law_word -/
theorem f__law_word {m : Nat} (hm : 2 ≤ m) (c : Int) {w : Nat} (hw : w ≤ 1000) : ∃ x, T m 6 [.int c, .int (w : Nat)] = .ok (.int x) ∧ 0 ≤ x ∧ x < 2 ^ w := by
  obtain ⟨m, rfl, hk⟩ := pos_of hm
  rw [T6]
  have hp : (0 : Int) < 2 ^ w := Int.pow_pos (by decide)
  have e0 := shl_one hw
  suffices h : ∃ z : Int, s6 (T m) [.fr (.int c), .fr (.int (w : Nat)), .no, .no, .no] = .rt (.int (z.fmod (2 ^ w))) from
    let ⟨z, hz⟩ := h; ⟨_, fnDen_ok rfl hz, (fmod_nn hp).1, (fmod_nn hp).2⟩
  unfold s6
  by_cases hc : (1000000000000000000 : Int) ≤ c
  · refine ⟨c, seq_rt ?_⟩
    rw [if_T (by simp [hc])]
    exact ret_ok (by simp [e0, oMod_ok (Int.ne_of_gt hp)])
  · rw [seq_nx (ρ1 := [.fr (.int c), .fr (.int (w : Nat)), .no, .no, .no]) (by rw [if_F (by simp [hc])]; rfl)]
    rw [seq_nx (asg_ok (d := .int 0) rfl)]
    have inv := forL_inv (g := gNm 3) (s := (sAsg 2 (dBin oAdd (dBin oMul (dVar 2) (dC (.int 67108864))) (dBin oMod (dCall (T m) 11 (dCons (dVar 0) (dCons (dVar 3) dNil))) (dC (.int 67108864))))))
      (fun i ρ => ∃ z x, ρ = [.fr (.int c), .fr (.int (w : Nat)), .fr (.int z), x, .no]) (rngP 0 3) 0 [.fr (.int c), .fr (.int (w : Nat)), .fr (.int 0), .no, .no]
      ⟨0, .no, rfl⟩ fun i x ρ hd ⟨z, x0, e⟩ => by
        subst e
        have hi : i < 3 := by have := (List.getElem?_eq_some_iff.mp hd).1; rwa [rngP_length] at this
        rw [rngP_get hi] at hd
        cases hd
        refine ⟨[.fr (.int c), .fr (.int (w : Nat)), .fr (.int z), .fr (.int (0 + (i : Nat))), .no], _, rfl, .inl (asg_ok (d := .int (z * 67108864 + (mixed c (0 + (i : Nat))).fmod 67108864)) ?_), _, _, rfl⟩
        have := f__law_mixed hk c (0 + (i : Nat))
        simp [oMul_ok (mulC_r (i := z) (j := 67108864) (by decide) (by decide)), dCall, oMod_ok (show (67108864 : Int) ≠ 0 by decide)]
        rw [Int.zero_add] at this
        rw [this]
        simp [oMod_ok (show (67108864 : Int) ≠ 0 by decide)]
    obtain ⟨ρ', h4, z, x, rfl⟩ := inv
    refine Exists.imp (fun y hy => (seq_nx ((for_ok (ds := rngP 0 3) ((dRng1_ok (j := 3) rfl (by decide) (by decide)))).trans h4)).trans hy) ?_
    have h3 := f__law_mixed hk c 3
    have h4 := f__law_mixed hk c 4
    rw [seq_nx (asg_ok (d := .int ((mixed c 3).fmod 6)) (by simp [dCall, h3, oMod_ok (show (6 : Int) ≠ 0 by decide)]))]
    generalize hch : (mixed c 3).fmod 6 = ch
    have fin : ∀ z : Int, sRet (dBin oMod (dFn (f1 oInt) (dCons (dVar 2) dNil)) (dBin oShl (dC (.int 1)) (dVar 1))) [.fr (.int c), .fr (.int (w : Nat)), .fr (.int z), x, .fr (.int ch)] = .rt (.int (z.fmod (2 ^ w))) := fun z => ret_ok (by simp [e0, oMod_ok (Int.ne_of_gt hp)])
    show ∃ y : Int, sSeq _ _ [.fr (.int c), .fr (.int (w : Nat)), .fr (.int z), x, .fr (.int ch)] = _
    have st1 : ∃ z1, (sIf (dTst (dBin oEq (dVar 4) (dC (.int 0)))) (sAsg 2 (dC (.int 0))) sNx) [.fr (.int c), .fr (.int (w : Nat)), .fr (.int z), x, .fr (.int ch)] = .nx [.fr (.int c), .fr (.int (w : Nat)), .fr (.int z1), x, .fr (.int ch)] := by
      by_cases h : ch = 0
      · exact ⟨0, by rw [if_T (by simp [h])]; rfl⟩
      · exact ⟨z, by rw [if_F (by simp [h])]; rfl⟩
    obtain ⟨z1, st1⟩ := st1
    rw [seq_nx st1]
    have s64 : oShl (.int 1) (.int 64) = .ok (.int (2 ^ 64)) := shl_one (n := 64) (by decide)
    have st2 : ∃ z2, (sIf (dTst (dBin oEq (dVar 4) (dC (.int 1)))) (sAsg 2 (dBin oSub (dBin oShl (dC (.int 1)) (dC (.int 64))) (dC (.int 1)))) sNx) [.fr (.int c), .fr (.int (w : Nat)), .fr (.int z1), x, .fr (.int ch)] = .nx [.fr (.int c), .fr (.int (w : Nat)), .fr (.int z2), x, .fr (.int ch)] := by
      by_cases h : ch = 1
      · exact ⟨2 ^ 64 - 1, by rw [if_T (by simp [h])]; exact asg_ok (by simp [s64])⟩
      · exact ⟨z1, by rw [if_F (by simp [h])]; rfl⟩
    obtain ⟨z2, st2⟩ := st2
    rw [seq_nx st2]
    have hb := fmod_nn (a := mixed c 4) (b := 64) (by decide)
    have st3 : ∃ z3, (sIf (dTst (dBin oEq (dVar 4) (dC (.int 2)))) (sAsg 2 (dBin oShl (dC (.int 1)) (dBin oMod (dCall (T m) 11 (dCons (dVar 0) (dCons (dC (.int 4)) dNil))) (dC (.int 64))))) sNx) [.fr (.int c), .fr (.int (w : Nat)), .fr (.int z2), x, .fr (.int ch)] = .nx [.fr (.int c), .fr (.int (w : Nat)), .fr (.int z3), x, .fr (.int ch)] := by
      by_cases h : ch = 2
      · refine ⟨1 * 2 ^ ((mixed c 4).fmod 64).toNat, by rw [if_T (by simp [h])]; exact asg_ok (by simp [dCall, h4, oMod_ok (show (64 : Int) ≠ 0 by decide), oShl_ok (i := 1) hb.1 (by decide) (by omega)])⟩
      · exact ⟨z2, by rw [if_F (by simp [h])]; rfl⟩
    obtain ⟨z3, st3⟩ := st3
    rw [seq_nx st3]
    exact ⟨z3, fin z3⟩
theorem f_are_values {m : Nat} (hm : 3 ≤ m) (ps : List Nat) {n : Nat} (h : ∀ i ∈ ps, i < n) (hl : ps.length ≤ 1000) : T m 25 [.tup (ps.map fun (i : Nat) => .int (i : Int)), .int (n : Nat)] = .ok (.bl true) := by
  obtain ⟨m, rfl, hk⟩ := pos_of hm
  rw [T25]
  refine fnDen_ok rfl (ret_ok ?_)
  have hlc : dLc (dIt (dVar 0)) (gNm 2) dYes (dCall (T m) 15 (dCons (dVar 2) (dCons (dVar 1) dNil))) [2] [.fr (.tup (ps.map fun (i : Nat) => .int (i : Int))), .fr (.int (n : Nat)), .no] = .ok (.lst ((ps.map fun _ => true).map PV.bl)) := by
    refine dLc_ok (ds := ps.map fun (i : Nat) => .int (i : Int)) rfl (by have hc : cap = 16777216 := rfl; rw [List.length_map]; omega) ?_
    rw [lcL_map (fun _ => .bl true) _ fun x hx => ?_]
    · rw [List.map_map, List.map_map]; rfl
    · obtain ⟨i, hi, rfl⟩ := List.mem_map.mp hx
      refine ⟨_, rfl, rfl, ?_⟩
      have := f_is_below hk (d := .int (i : Int)) rfl (n : Nat)
      have hb : below (.int (i : Int)) (n : Nat) = true := by
        have := h i hi
        simp [below]
        omega
      rw [hb] at this
      exact this
  show dFn (f1 oAll) (dCons _ dNil) [.fr (.tup (ps.map fun (i : Nat) => .int (i : Int))), .fr (.int (n : Nat)), .no] = _
  have : (ps.map fun _ => true).all id = true := by rw [List.all_map]; simp
  simp only [dFn, dCons]
  rw [hlc]
  simp only [bind_ok, dNil_eq, f1_eq, oAll_bls, this]
theorem f_is_count_deed {m : Nat} (hm : 4 ≤ m) {p r : Nat} {ps : List Nat} {n : Nat} (h : (Deed.count p r ps).ok n) : T m 26 [(Deed.count p r ps).pv, .int (n : Nat)] = .ok (.bl true) := by
  obtain ⟨m, rfl, hk⟩ := pos_of hm
  rw [T26]
  refine fnDen_ok rfl ?_
  obtain ⟨hp, hr, h1, h4, hi⟩ := h
  show s26 (T m) [.fr (.tup [.str "count", .int (p : Nat), .int (r : Nat), .tup (ps.map fun (i : Nat) => .int (i : Int))]), .fr (.int (n : Nat)), .no, .no, .no] = _
  unfold s26
  refine run_seq (ρ1 := [.fr (.tup [.str "count", .int (p : Nat), .int (r : Nat), .tup (ps.map fun (i : Nat) => .int (i : Int))]), .fr (.int (n : Nat)), .no, .no, .no]) (by rfl) ?_
  refine run_seq (ρ1 := [.fr (.tup [.str "count", .int (p : Nat), .int (r : Nat), .tup (ps.map fun (i : Nat) => .int (i : Int))]), .fr (.int (n : Nat)), .fr (.int (p : Nat)), .fr (.int (r : Nat)), .fr (.tup (ps.map fun (i : Nat) => .int (i : Int)))]) (by rfl) ?_
  have e1 := f_is_integer (m := m) (by omega) (d := .int (p : Nat)) rfl
  have e2 := f_is_below (m := m) (by omega) (d := .int (r : Nat)) rfl (p : Nat)
  have hb : below (.int (r : Nat)) (p : Nat) = true := by
    simp [below]
    omega
  rw [hb] at e2
  have e3 := f_are_values hk ps hi (by omega)
  have e4 : dTup (dCons (dC (.int 2)) (dCons (dC (.int 3)) (dCons (dC (.int 5)) dNil))) [.fr (.tup [.str "count", .int (p : Nat), .int (r : Nat), .tup (ps.map fun (i : Nat) => .int (i : Int))]), .fr (.int (n : Nat)), .fr (.int (p : Nat)), .fr (.int (r : Nat)), .fr (.tup (ps.map fun (i : Nat) => .int (i : Int)))] = .ok (.tup [.int 2, .int 3, .int 5]) := rfl
  have e5 : oNotIn (.int (p : Nat)) (.tup [.int 2, .int 3, .int 5]) = .ok (.bl false) := by
    rcases hp with rfl | rfl | rfl <;> rfl
  have e1' : T m 24 [.int (p : Nat)] = .ok (.bl true) := e1
  rw [seq_nx (ρ1 := [.fr (.tup [.str "count", .int (p : Nat), .int (r : Nat), .tup (ps.map fun (i : Nat) => .int (i : Int))]), .fr (.int (n : Nat)), .fr (.int (p : Nat)), .fr (.int (r : Nat)), .fr (.tup (ps.map fun (i : Nat) => .int (i : Int)))]) (by rw [if_F (by simp [e1', e2, e4, e5])]; rfl)]
  refine ret_ok ?_
  have t1 : oIsi isiT [.tup] (.tup (ps.map fun (i : Nat) => .int (i : Int))) = .ok (.bl true) := rfl
  have c1 : (1 : Int) ≤ (ps.length : Int) := by omega
  have c2 : (ps.length : Int) ≤ 4 := by omega
  simp [dAndV, t1, dChain, c1, c2, e3]
theorem f_is_deed {m : Nat} (hm : 5 ≤ m) {d : Deed} {n : Nat} (h : d.ok n) : T m 16 [d.pv, .int (n : Nat)] = .ok (.bl true) := by
  obtain ⟨m, rfl, hk⟩ := pos_of hm
  rw [T16]
  refine fnDen_ok rfl ?_
  show s16 (T m) [.fr d.pv, .fr (.int (n : Nat))] = _
  unfold s16
  have v0 := f_are_values (m := m) (by omega) [] (n := n) (fun i hi => by simp at hi) (by simp)
  have v1 : ∀ a, a < n → T m 25 [.tup [.int (a : Nat)], .int (n : Nat)] = .ok (.bl true) := fun a ha => f_are_values (m := m) (by omega) [a] (fun i hi => by rw [List.mem_singleton.mp hi]; exact ha) (by simp)
  have v2 : ∀ a b, a < n → b < n → T m 25 [.tup [.int (a : Nat), .int (b : Nat)], .int (n : Nat)] = .ok (.bl true) := fun a b ha hb => f_are_values (m := m) (by omega) [a, b] (fun i hi => by
    rcases List.mem_cons.mp hi with rfl | hi
    · exact ha
    · rw [List.mem_singleton.mp hi]; exact hb) (by simp)
  cases d with
  | count p r ps =>
    refine run_seq (ρ1 := [.fr (Deed.count p r ps).pv, .fr (.int (n : Nat))]) (by rfl) ?_
    refine seq_rt ?_
    rw [if_T rfl]
    exact ret_ok (f_is_count_deed hk h)
  | zero =>
    refine run_seq (ρ1 := [.fr Deed.zero.pv, .fr (.int (n : Nat))]) (by rfl) ?_
    refine run_seq (ρ1 := [.fr Deed.zero.pv, .fr (.int (n : Nat))]) (by rfl) ?_
    refine run_seq (ρ1 := [.fr Deed.zero.pv, .fr (.int (n : Nat))]) (by rfl) ?_
    exact ret_ok v0
  | ones =>
    refine run_seq (ρ1 := [.fr Deed.ones.pv, .fr (.int (n : Nat))]) (by rfl) ?_
    refine run_seq (ρ1 := [.fr Deed.ones.pv, .fr (.int (n : Nat))]) (by rfl) ?_
    refine run_seq (ρ1 := [.fr Deed.ones.pv, .fr (.int (n : Nat))]) (by rfl) ?_
    exact ret_ok v0
  | not a =>
    refine run_seq (ρ1 := [.fr (Deed.not a).pv, .fr (.int (n : Nat))]) (by rfl) ?_
    refine run_seq (ρ1 := [.fr (Deed.not a).pv, .fr (.int (n : Nat))]) (by rfl) ?_
    refine run_seq (ρ1 := [.fr (Deed.not a).pv, .fr (.int (n : Nat))]) (by rfl) ?_
    exact ret_ok (v1 a h)
  | shift a =>
    refine run_seq (ρ1 := [.fr (Deed.shift a).pv, .fr (.int (n : Nat))]) (by rfl) ?_
    refine run_seq (ρ1 := [.fr (Deed.shift a).pv, .fr (.int (n : Nat))]) (by rfl) ?_
    refine run_seq (ρ1 := [.fr (Deed.shift a).pv, .fr (.int (n : Nat))]) (by rfl) ?_
    exact ret_ok (v1 a h)
  | minus a =>
    refine run_seq (ρ1 := [.fr (Deed.minus a).pv, .fr (.int (n : Nat))]) (by rfl) ?_
    refine run_seq (ρ1 := [.fr (Deed.minus a).pv, .fr (.int (n : Nat))]) (by rfl) ?_
    refine run_seq (ρ1 := [.fr (Deed.minus a).pv, .fr (.int (n : Nat))]) (by rfl) ?_
    exact ret_ok (v1 a h)
  | and a b =>
    refine run_seq (ρ1 := [.fr (Deed.and a b).pv, .fr (.int (n : Nat))]) (by rfl) ?_
    refine run_seq (ρ1 := [.fr (Deed.and a b).pv, .fr (.int (n : Nat))]) (by rfl) ?_
    refine run_seq (ρ1 := [.fr (Deed.and a b).pv, .fr (.int (n : Nat))]) (by rfl) ?_
    exact ret_ok (v2 a b h.1 h.2)
  | or a b =>
    refine run_seq (ρ1 := [.fr (Deed.or a b).pv, .fr (.int (n : Nat))]) (by rfl) ?_
    refine run_seq (ρ1 := [.fr (Deed.or a b).pv, .fr (.int (n : Nat))]) (by rfl) ?_
    refine run_seq (ρ1 := [.fr (Deed.or a b).pv, .fr (.int (n : Nat))]) (by rfl) ?_
    exact ret_ok (v2 a b h.1 h.2)
  | xor a b =>
    refine run_seq (ρ1 := [.fr (Deed.xor a b).pv, .fr (.int (n : Nat))]) (by rfl) ?_
    refine run_seq (ρ1 := [.fr (Deed.xor a b).pv, .fr (.int (n : Nat))]) (by rfl) ?_
    refine run_seq (ρ1 := [.fr (Deed.xor a b).pv, .fr (.int (n : Nat))]) (by rfl) ?_
    exact ret_ok (v2 a b h.1 h.2)
  | add a b =>
    refine run_seq (ρ1 := [.fr (Deed.add a b).pv, .fr (.int (n : Nat))]) (by rfl) ?_
    refine run_seq (ρ1 := [.fr (Deed.add a b).pv, .fr (.int (n : Nat))]) (by rfl) ?_
    refine run_seq (ρ1 := [.fr (Deed.add a b).pv, .fr (.int (n : Nat))]) (by rfl) ?_
    exact ret_ok (v2 a b h.1 h.2)
  | sub a b =>
    refine run_seq (ρ1 := [.fr (Deed.sub a b).pv, .fr (.int (n : Nat))]) (by rfl) ?_
    refine run_seq (ρ1 := [.fr (Deed.sub a b).pv, .fr (.int (n : Nat))]) (by rfl) ?_
    refine run_seq (ρ1 := [.fr (Deed.sub a b).pv, .fr (.int (n : Nat))]) (by rfl) ?_
    exact ret_ok (v2 a b h.1 h.2)
theorem getD_map {ws : List Int} {a : Nat} (h : a < ws.length) (d : PV) (hd : d = .lst (ws.map PV.int) ∨ d = .tup (ws.map PV.int)) : oIx d (.int (a : Nat)) = .ok (.int (ws.getD a 0)) := by
  rcases hd with rfl | rfl
  · rw [oIx_lst, getD_of h]; rfl
  · rw [oIx_tup, getD_of h]; rfl
theorem or_bit {f : Nat → Int} {k : Nat} (hf : ∀ i, i < k → 0 ≤ f i ∧ f i ≤ 1) : Builtin.bitOr (bsum f k) (2 ^ k) = bsum f k + 2 ^ k := by
  have hb := bsum_bound hf
  have := Bits.bitOr_join' (a := bsum f k) (b := 1) (k := k) hb.1 hb.2 (by decide)
  rw [Int.one_mul] at this
  rw [PyProof.Rows.bitOr_comm]
  exact this
/-- counted_word -/
theorem f_counted_word {m : Nat} (hm : 1 ≤ m) {w p r : Nat} (hw : w ≤ 1000) (hp : 0 < p) {xs : List Int} (hl : xs.length ≤ 1000) : T m 33 [.int (w : Nat), .int (p : Nat), .int (r : Nat), .lst (xs.map PV.int)] = .ok (.int (countW w p r xs)) := by
  obtain ⟨m, rfl, hk⟩ := pos_of hm
  rw [T33]
  refine fnDen_ok rfl ?_
  show s33 (T m) [.fr (.int (w : Nat)), .fr (.int (p : Nat)), .fr (.int (r : Nat)), .fr (.lst (xs.map PV.int)), .no, .no, .no, .no] = _
  unfold s33
  refine run_seq (asg_ok (d := .int 0) (by rfl)) ?_
  refine run_seq (asg_ok (d := .int 0) (by rfl)) ?_
  have hpi : ((p : Nat) : Int) ≠ 0 := by omega
  have inv := forL_inv (g := gNm 6) (s := (sSeq (sIf (dTst (dBin oEq (dVar 5) (dVar 2))) (sAug 4 oOr (dBin oShl (dC (.int 1)) (dVar 6))) sNx)
  (sAsg 5 (dBin oMod (dBin oAdd (dVar 5) (dFn (f1 oSum) (dCons (dLc (dIt (dVar 3)) (gNm 7) dYes (dBin oAnd (dBin oShr (dVar 7) (dVar 6)) (dC (.int 1))) [7]) dNil))) (dVar 1)))))
    (fun i ρ => ∃ x, ρ = [.fr (.int (w : Nat)), .fr (.int (p : Nat)), .fr (.int (r : Nat)), .fr (.lst (xs.map PV.int)), .fr (.int (countW i p r xs)), .fr (.int (onesAt xs i % (p : Int))), x, .no]) (rngP 0 w) 0 [.fr (.int (w : Nat)), .fr (.int (p : Nat)), .fr (.int (r : Nat)), .fr (.lst (xs.map PV.int)), .fr (.int 0), .fr (.int 0), .no, .no]
    ⟨.no, by rw [show onesAt xs 0 = 0 from rfl, Int.zero_emod]; rfl⟩ fun i x ρ hd ⟨x0, e⟩ => by
      subst e
      have hi : i < w := by have := (List.getElem?_eq_some_iff.mp hd).1; rwa [rngP_length] at this
      rw [rngP_get hi] at hd
      cases hd
      rw [Nat.zero_add] at *
      rw [Int.zero_add]
      refine ⟨[.fr (.int (w : Nat)), .fr (.int (p : Nat)), .fr (.int (r : Nat)), .fr (.lst (xs.map PV.int)), .fr (.int (countW i p r xs)), .fr (.int (onesAt xs i % (p : Int))), .fr (.int (i : Nat)), .no], [.fr (.int (w : Nat)), .fr (.int (p : Nat)), .fr (.int (r : Nat)), .fr (.lst (xs.map PV.int)), .fr (.int (countW (i + 1) p r xs)), .fr (.int (onesAt xs (i + 1) % (p : Int))), .fr (.int (i : Nat)), .no], rfl, .inl ?_, _, rfl⟩
      have hs : oShl (.int 1) (.int (i : Nat)) = .ok (.int (2 ^ i)) := by
        have := shl_bitN (b := 1) (k := i) ⟨by decide, by decide⟩ (by omega)
        rwa [Int.one_mul] at this
      have st : (sIf (dTst (dBin oEq (dVar 5) (dVar 2))) (sAug 4 oOr (dBin oShl (dC (.int 1)) (dVar 6))) sNx) [.fr (.int (w : Nat)), .fr (.int (p : Nat)), .fr (.int (r : Nat)), .fr (.lst (xs.map PV.int)), .fr (.int (countW i p r xs)), .fr (.int (onesAt xs i % (p : Int))), .fr (.int (i : Nat)), .no] = .nx [.fr (.int (w : Nat)), .fr (.int (p : Nat)), .fr (.int (r : Nat)), .fr (.lst (xs.map PV.int)), .fr (.int (countW (i + 1) p r xs)), .fr (.int (onesAt xs i % (p : Int))), .fr (.int (i : Nat)), .no] := by
        have hc : countW (i + 1) p r xs = countW i p r xs + (if onesAt xs i % (p : Int) = (r : Int) then 1 else 0) * 2 ^ i := bsum_succ _ _
        by_cases h : onesAt xs i % (p : Int) = (r : Int)
        · rw [if_T (by simp [h])]
          rw [hc, if_pos h, Int.one_mul]
          have ho : oOr (.int (countW i p r xs)) (.int (2 ^ i)) = .ok (.int (countW i p r xs + 2 ^ i)) := by
            show R.ok (PV.int (Builtin.bitOr _ _)) = _
            rw [show countW i p r xs = bsum (fun k => if onesAt xs k % (p : Int) = (r : Int) then 1 else 0) i from rfl, or_bit fun k _ => by split <;> exact ⟨by decide, by decide⟩]
          simp [sAug, hs, ho]
        · rw [if_F (by simp [h])]
          rw [hc, if_neg h, Int.zero_mul, Int.add_zero]
          rfl
      refine run_seq st (asg_ok ?_)
      have hlc : dLc (dIt (dVar 3)) (gNm 7) dYes (dBin oAnd (dBin oShr (dVar 7) (dVar 6)) (dC (.int 1))) [7] [.fr (.int (w : Nat)), .fr (.int (p : Nat)), .fr (.int (r : Nat)), .fr (.lst (xs.map PV.int)), .fr (.int (countW (i + 1) p r xs)), .fr (.int (onesAt xs i % (p : Int))), .fr (.int (i : Nat)), .no] = .ok (.lst ((xs.map fun x => x / 2 ^ i % 2).map PV.int)) := by
        refine dLc_ok (ds := xs.map PV.int) rfl (by have hc : cap = 16777216 := rfl; rw [List.length_map]; omega) ?_
        rw [lcL_map (fun d => match d with | .int x => .int (x / 2 ^ i % 2) | d => d) _ fun x hx => ?_]
        · rw [List.map_map, List.map_map]; rfl
        · obtain ⟨z, hz, rfl⟩ := List.mem_map.mp hx
          exact ⟨_, rfl, rfl, by simp [wipeE, shr_bit]⟩
      refine (dBin_ok (x := .int (onesAt xs i % (p : Int) + (xs.map fun x => x / 2 ^ i % 2).sum)) (y := .int (p : Nat)) ?_ rfl).trans ?_
      · refine (dBin_ok (x := .int (onesAt xs i % (p : Int))) (y := .int ((xs.map fun x => x / 2 ^ i % 2).sum)) rfl ?_).trans rfl
        exact (dFn_ok (dCons_ok hlc rfl)).trans (by rw [f1_eq]; exact oSum_ints)
      · rw [oMod_ok hpi, Int.fmod_eq_emod_of_nonneg _ (by omega), Int.emod_add_emod]
        rfl
  obtain ⟨ρ', h1, x, rfl⟩ := inv
  rw [rngP_length, Nat.zero_add] at h1
  refine run_seq ((for_ok (ds := rngP 0 w) ((dRng1_ok (j := (w : Nat)) rfl (by omega) (by omega)).trans (by rw [Int.toNat_natCast]))).trans h1) ?_
  exact ret_ok rfl
/-- deed_word -/
theorem f_deed_word {m : Nat} (hm : 2 ≤ m) {d : Deed} {w : Nat} {ws : List Int} (hw : w ≤ 1000) (h : d.ok ws.length) (hi : ∀ x ∈ ws, InW w x) : T m 30 [d.pv, .int (w : Nat), .lst (ws.map PV.int)] = .ok (.int (d.val w ws)) := by
  obtain ⟨m, rfl, hk⟩ := pos_of hm
  rw [T30]
  refine fnDen_ok rfl ?_
  show s30 (T m) [.fr d.pv, .fr (.int (w : Nat)), .fr (.lst (ws.map PV.int)), .no, .no, .no, .no, .no] = _
  unfold s30
  have hs : oShl (.int 1) (.int (w : Nat)) = .ok (.int (2 ^ w)) := by
    have := shl_bitN (b := 1) (k := w) ⟨by decide, by decide⟩ (by omega)
    rwa [Int.one_mul] at this
  have gx : ∀ a, a < ws.length → oIx (.lst (ws.map PV.int)) (.int (a : Nat)) = .ok (.int (ws.getD a 0)) := fun a ha => getD_map ha _ (.inl rfl)
  have am : ∀ x : Int, oAnd (.int x) (.int (2 ^ w - 1)) = .ok (.int (x % 2 ^ w)) := fun x => by
    show R.ok (PV.int (Builtin.bitAnd _ _)) = _
    rw [mask_all]
  have full : ∀ x3 : PP.Slot, dBin oSub (dBin oShl (dC (.int 1)) (dVar 1)) (dC (.int 1)) [.fr d.pv, .fr (.int (w : Nat)), .fr (.lst (ws.map PV.int)), x3, .no, .no, .no, .no] = .ok (.int (2 ^ w - 1)) := fun x3 => by
    refine (dBin_ok (x := .int (2 ^ w)) (y := .int 1) ?_ rfl).trans rfl
    exact (dBin_ok (x := .int 1) (y := .int (w : Nat)) rfl rfl).trans hs
  cases d with
  | count p r ps =>
    obtain ⟨hp, hr, h1, h4, hx⟩ := h
    refine run_seq (asg_ok (d := .str "count") (by rfl)) (run_seq (asg_ok (full _)) (seq_rt ?_))
    rw [if_T (by rfl)]
    refine ret_ok ((dCall_ok (dCons_ok (x := .int (w : Nat)) rfl (dCons_ok (x := .int (p : Nat)) rfl (dCons_ok (x := .int (r : Nat)) rfl (dCons_ok (x := .lst ((ps.map fun i => ws.getD i 0).map PV.int)) ?_ rfl))))).trans (f_counted_word hk hw (by omega) (by simp; omega)))
    refine dLc_ok (ds := ps.map fun (i : Nat) => .int (i : Int)) rfl (by have hc : cap = 16777216 := rfl; rw [List.length_map]; omega) ?_
    rw [lcL_map (fun d => match d with | .int x => .int (ws.getD x.toNat 0) | d => d) _ fun x hx' => ?_]
    · rw [List.map_map, List.map_map]; rfl
    · obtain ⟨i, hi', rfl⟩ := List.mem_map.mp hx'
      exact ⟨_, rfl, rfl, gx i (hx i hi')⟩
  | zero =>
    refine run_seq (asg_ok (d := .str "zero") (by rfl)) (run_seq (asg_ok (full _)) (run_seq (ρ1 := [.fr Deed.zero.pv, .fr (.int (w : Nat)), .fr (.lst (ws.map PV.int)), .fr (.str "zero"), .fr (.int (2 ^ w - 1)), .no, .no, .no]) (by rfl) (seq_rt ?_)))
    rw [if_T (by rfl)]
    exact ret_ok rfl
  | ones =>
    refine run_seq (asg_ok (d := .str "ones") (by rfl)) (run_seq (asg_ok (full _)) (run_seq (ρ1 := [.fr Deed.ones.pv, .fr (.int (w : Nat)), .fr (.lst (ws.map PV.int)), .fr (.str "ones"), .fr (.int (2 ^ w - 1)), .no, .no, .no]) (by rfl) (seq_rt ?_)))
    rw [if_T (by rfl)]
    exact ret_ok rfl
  | not a =>
    refine run_seq (asg_ok (d := .str "not") (by rfl)) (run_seq (asg_ok (full _)) (run_seq (ρ1 := [.fr (Deed.not a).pv, .fr (.int (w : Nat)), .fr (.lst (ws.map PV.int)), .fr (.str "not"), .fr (.int (2 ^ w - 1)), .no, .no, .no]) (by rfl) (run_seq (ρ1 := [.fr (Deed.not a).pv, .fr (.int (w : Nat)), .fr (.lst (ws.map PV.int)), .fr (.str "not"), .fr (.int (2 ^ w - 1)), .no, .no, .no]) (by rfl) (run_seq (asg_ok ((dBin_ok (x := .lst (ws.map PV.int)) (y := .int (a : Nat)) (by rfl) (by rfl)).trans (gx a h))) (run_seq (asg_ok ((dBin_ok (x := .lst (ws.map PV.int)) (y := .int (a : Nat)) (by rfl) (by rfl)).trans (gx a h))) (seq_rt ?_))))))
    rw [if_T (by rfl)]
    exact ret_ok rfl
  | shift a =>
    refine run_seq (asg_ok (d := .str "shift") (by rfl)) (run_seq (asg_ok (full _)) (run_seq (ρ1 := [.fr (Deed.shift a).pv, .fr (.int (w : Nat)), .fr (.lst (ws.map PV.int)), .fr (.str "shift"), .fr (.int (2 ^ w - 1)), .no, .no, .no]) (by rfl) (run_seq (ρ1 := [.fr (Deed.shift a).pv, .fr (.int (w : Nat)), .fr (.lst (ws.map PV.int)), .fr (.str "shift"), .fr (.int (2 ^ w - 1)), .no, .no, .no]) (by rfl) (run_seq (asg_ok ((dBin_ok (x := .lst (ws.map PV.int)) (y := .int (a : Nat)) (by rfl) (by rfl)).trans (gx a h))) (run_seq (asg_ok ((dBin_ok (x := .lst (ws.map PV.int)) (y := .int (a : Nat)) (by rfl) (by rfl)).trans (gx a h))) (run_seq (ρ1 := [.fr (Deed.shift a).pv, .fr (.int (w : Nat)), .fr (.lst (ws.map PV.int)), .fr (.str "shift"), .fr (.int (2 ^ w - 1)), .fr (.int (ws.getD a 0)), .fr (.int (ws.getD a 0)), .no]) (by rfl) (run_seq (ρ1 := [.fr (Deed.shift a).pv, .fr (.int (w : Nat)), .fr (.lst (ws.map PV.int)), .fr (.str "shift"), .fr (.int (2 ^ w - 1)), .fr (.int (ws.getD a 0)), .fr (.int (ws.getD a 0)), .no]) (by rfl) (run_seq (ρ1 := [.fr (Deed.shift a).pv, .fr (.int (w : Nat)), .fr (.lst (ws.map PV.int)), .fr (.str "shift"), .fr (.int (2 ^ w - 1)), .fr (.int (ws.getD a 0)), .fr (.int (ws.getD a 0)), .no]) (by rfl) (run_seq (ρ1 := [.fr (Deed.shift a).pv, .fr (.int (w : Nat)), .fr (.lst (ws.map PV.int)), .fr (.str "shift"), .fr (.int (2 ^ w - 1)), .fr (.int (ws.getD a 0)), .fr (.int (ws.getD a 0)), .no]) (by rfl) (run_seq (ρ1 := [.fr (Deed.shift a).pv, .fr (.int (w : Nat)), .fr (.lst (ws.map PV.int)), .fr (.str "shift"), .fr (.int (2 ^ w - 1)), .fr (.int (ws.getD a 0)), .fr (.int (ws.getD a 0)), .no]) (by rfl) (run_seq (ρ1 := [.fr (Deed.shift a).pv, .fr (.int (w : Nat)), .fr (.lst (ws.map PV.int)), .fr (.str "shift"), .fr (.int (2 ^ w - 1)), .fr (.int (ws.getD a 0)), .fr (.int (ws.getD a 0)), .no]) (by rfl) (ret_ok ?_))))))))))))
    refine (dBin_ok (x := .int (ws.getD a 0 + ws.getD a 0)) (y := .int (2 ^ w - 1)) rfl rfl).trans ((am _).trans ?_)
    rw [show ws.getD a 0 + ws.getD a 0 = 2 * ws.getD a 0 by omega]
    rfl
  | minus a =>
    refine run_seq (asg_ok (d := .str "minus") (by rfl)) (run_seq (asg_ok (full _)) (run_seq (ρ1 := [.fr (Deed.minus a).pv, .fr (.int (w : Nat)), .fr (.lst (ws.map PV.int)), .fr (.str "minus"), .fr (.int (2 ^ w - 1)), .no, .no, .no]) (by rfl) (run_seq (ρ1 := [.fr (Deed.minus a).pv, .fr (.int (w : Nat)), .fr (.lst (ws.map PV.int)), .fr (.str "minus"), .fr (.int (2 ^ w - 1)), .no, .no, .no]) (by rfl) (run_seq (asg_ok ((dBin_ok (x := .lst (ws.map PV.int)) (y := .int (a : Nat)) (by rfl) (by rfl)).trans (gx a h))) (run_seq (asg_ok ((dBin_ok (x := .lst (ws.map PV.int)) (y := .int (a : Nat)) (by rfl) (by rfl)).trans (gx a h))) (run_seq (ρ1 := [.fr (Deed.minus a).pv, .fr (.int (w : Nat)), .fr (.lst (ws.map PV.int)), .fr (.str "minus"), .fr (.int (2 ^ w - 1)), .fr (.int (ws.getD a 0)), .fr (.int (ws.getD a 0)), .no]) (by rfl) (run_seq (ρ1 := [.fr (Deed.minus a).pv, .fr (.int (w : Nat)), .fr (.lst (ws.map PV.int)), .fr (.str "minus"), .fr (.int (2 ^ w - 1)), .fr (.int (ws.getD a 0)), .fr (.int (ws.getD a 0)), .no]) (by rfl) (run_seq (ρ1 := [.fr (Deed.minus a).pv, .fr (.int (w : Nat)), .fr (.lst (ws.map PV.int)), .fr (.str "minus"), .fr (.int (2 ^ w - 1)), .fr (.int (ws.getD a 0)), .fr (.int (ws.getD a 0)), .no]) (by rfl) (run_seq (ρ1 := [.fr (Deed.minus a).pv, .fr (.int (w : Nat)), .fr (.lst (ws.map PV.int)), .fr (.str "minus"), .fr (.int (2 ^ w - 1)), .fr (.int (ws.getD a 0)), .fr (.int (ws.getD a 0)), .no]) (by rfl) (run_seq (ρ1 := [.fr (Deed.minus a).pv, .fr (.int (w : Nat)), .fr (.lst (ws.map PV.int)), .fr (.str "minus"), .fr (.int (2 ^ w - 1)), .fr (.int (ws.getD a 0)), .fr (.int (ws.getD a 0)), .no]) (by rfl) (seq_rt ?_)))))))))))
    rw [if_T (by rfl)]
    exact ret_ok ((dBin_ok (x := .int (-(ws.getD a 0))) (y := .int (2 ^ w - 1)) rfl rfl).trans (am _))
  | and a b =>
    refine run_seq (asg_ok (d := .str "and") (by rfl)) (run_seq (asg_ok (full _)) (run_seq (ρ1 := [.fr (Deed.and a b).pv, .fr (.int (w : Nat)), .fr (.lst (ws.map PV.int)), .fr (.str "and"), .fr (.int (2 ^ w - 1)), .no, .no, .no]) (by rfl) (run_seq (ρ1 := [.fr (Deed.and a b).pv, .fr (.int (w : Nat)), .fr (.lst (ws.map PV.int)), .fr (.str "and"), .fr (.int (2 ^ w - 1)), .no, .no, .no]) (by rfl) (run_seq (asg_ok ((dBin_ok (x := .lst (ws.map PV.int)) (y := .int (a : Nat)) (by rfl) (by rfl)).trans (gx a h.1))) (run_seq (asg_ok ((dBin_ok (x := .lst (ws.map PV.int)) (y := .int (b : Nat)) (by rfl) (by rfl)).trans (gx b h.2))) (run_seq (ρ1 := [.fr (Deed.and a b).pv, .fr (.int (w : Nat)), .fr (.lst (ws.map PV.int)), .fr (.str "and"), .fr (.int (2 ^ w - 1)), .fr (.int (ws.getD a 0)), .fr (.int (ws.getD b 0)), .no]) (by rfl) (seq_rt ?_)))))))
    rw [if_T (by rfl)]
    exact ret_ok rfl
  | or a b =>
    refine run_seq (asg_ok (d := .str "or") (by rfl)) (run_seq (asg_ok (full _)) (run_seq (ρ1 := [.fr (Deed.or a b).pv, .fr (.int (w : Nat)), .fr (.lst (ws.map PV.int)), .fr (.str "or"), .fr (.int (2 ^ w - 1)), .no, .no, .no]) (by rfl) (run_seq (ρ1 := [.fr (Deed.or a b).pv, .fr (.int (w : Nat)), .fr (.lst (ws.map PV.int)), .fr (.str "or"), .fr (.int (2 ^ w - 1)), .no, .no, .no]) (by rfl) (run_seq (asg_ok ((dBin_ok (x := .lst (ws.map PV.int)) (y := .int (a : Nat)) (by rfl) (by rfl)).trans (gx a h.1))) (run_seq (asg_ok ((dBin_ok (x := .lst (ws.map PV.int)) (y := .int (b : Nat)) (by rfl) (by rfl)).trans (gx b h.2))) (run_seq (ρ1 := [.fr (Deed.or a b).pv, .fr (.int (w : Nat)), .fr (.lst (ws.map PV.int)), .fr (.str "or"), .fr (.int (2 ^ w - 1)), .fr (.int (ws.getD a 0)), .fr (.int (ws.getD b 0)), .no]) (by rfl) (run_seq (ρ1 := [.fr (Deed.or a b).pv, .fr (.int (w : Nat)), .fr (.lst (ws.map PV.int)), .fr (.str "or"), .fr (.int (2 ^ w - 1)), .fr (.int (ws.getD a 0)), .fr (.int (ws.getD b 0)), .no]) (by rfl) (seq_rt ?_))))))))
    rw [if_T (by rfl)]
    exact ret_ok rfl
  | xor a b =>
    refine run_seq (asg_ok (d := .str "xor") (by rfl)) (run_seq (asg_ok (full _)) (run_seq (ρ1 := [.fr (Deed.xor a b).pv, .fr (.int (w : Nat)), .fr (.lst (ws.map PV.int)), .fr (.str "xor"), .fr (.int (2 ^ w - 1)), .no, .no, .no]) (by rfl) (run_seq (ρ1 := [.fr (Deed.xor a b).pv, .fr (.int (w : Nat)), .fr (.lst (ws.map PV.int)), .fr (.str "xor"), .fr (.int (2 ^ w - 1)), .no, .no, .no]) (by rfl) (run_seq (asg_ok ((dBin_ok (x := .lst (ws.map PV.int)) (y := .int (a : Nat)) (by rfl) (by rfl)).trans (gx a h.1))) (run_seq (asg_ok ((dBin_ok (x := .lst (ws.map PV.int)) (y := .int (b : Nat)) (by rfl) (by rfl)).trans (gx b h.2))) (run_seq (ρ1 := [.fr (Deed.xor a b).pv, .fr (.int (w : Nat)), .fr (.lst (ws.map PV.int)), .fr (.str "xor"), .fr (.int (2 ^ w - 1)), .fr (.int (ws.getD a 0)), .fr (.int (ws.getD b 0)), .no]) (by rfl) (run_seq (ρ1 := [.fr (Deed.xor a b).pv, .fr (.int (w : Nat)), .fr (.lst (ws.map PV.int)), .fr (.str "xor"), .fr (.int (2 ^ w - 1)), .fr (.int (ws.getD a 0)), .fr (.int (ws.getD b 0)), .no]) (by rfl) (run_seq (ρ1 := [.fr (Deed.xor a b).pv, .fr (.int (w : Nat)), .fr (.lst (ws.map PV.int)), .fr (.str "xor"), .fr (.int (2 ^ w - 1)), .fr (.int (ws.getD a 0)), .fr (.int (ws.getD b 0)), .no]) (by rfl) (seq_rt ?_)))))))))
    rw [if_T (by rfl)]
    exact ret_ok rfl
  | sub a b =>
    refine run_seq (asg_ok (d := .str "sub") (by rfl)) (run_seq (asg_ok (full _)) (run_seq (ρ1 := [.fr (Deed.sub a b).pv, .fr (.int (w : Nat)), .fr (.lst (ws.map PV.int)), .fr (.str "sub"), .fr (.int (2 ^ w - 1)), .no, .no, .no]) (by rfl) (run_seq (ρ1 := [.fr (Deed.sub a b).pv, .fr (.int (w : Nat)), .fr (.lst (ws.map PV.int)), .fr (.str "sub"), .fr (.int (2 ^ w - 1)), .no, .no, .no]) (by rfl) (run_seq (asg_ok ((dBin_ok (x := .lst (ws.map PV.int)) (y := .int (a : Nat)) (by rfl) (by rfl)).trans (gx a h.1))) (run_seq (asg_ok ((dBin_ok (x := .lst (ws.map PV.int)) (y := .int (b : Nat)) (by rfl) (by rfl)).trans (gx b h.2))) (run_seq (ρ1 := [.fr (Deed.sub a b).pv, .fr (.int (w : Nat)), .fr (.lst (ws.map PV.int)), .fr (.str "sub"), .fr (.int (2 ^ w - 1)), .fr (.int (ws.getD a 0)), .fr (.int (ws.getD b 0)), .no]) (by rfl) (run_seq (ρ1 := [.fr (Deed.sub a b).pv, .fr (.int (w : Nat)), .fr (.lst (ws.map PV.int)), .fr (.str "sub"), .fr (.int (2 ^ w - 1)), .fr (.int (ws.getD a 0)), .fr (.int (ws.getD b 0)), .no]) (by rfl) (run_seq (ρ1 := [.fr (Deed.sub a b).pv, .fr (.int (w : Nat)), .fr (.lst (ws.map PV.int)), .fr (.str "sub"), .fr (.int (2 ^ w - 1)), .fr (.int (ws.getD a 0)), .fr (.int (ws.getD b 0)), .no]) (by rfl) (run_seq (ρ1 := [.fr (Deed.sub a b).pv, .fr (.int (w : Nat)), .fr (.lst (ws.map PV.int)), .fr (.str "sub"), .fr (.int (2 ^ w - 1)), .fr (.int (ws.getD a 0)), .fr (.int (ws.getD b 0)), .no]) (by rfl) (seq_rt ?_))))))))))
    rw [if_T (by rfl)]
    exact ret_ok ((dBin_ok (x := .int (ws.getD a 0 - ws.getD b 0)) (y := .int (2 ^ w - 1)) rfl rfl).trans (am _))
  | add a b =>
    refine run_seq (asg_ok (d := .str "add") (by rfl)) (run_seq (asg_ok (full _)) (run_seq (ρ1 := [.fr (Deed.add a b).pv, .fr (.int (w : Nat)), .fr (.lst (ws.map PV.int)), .fr (.str "add"), .fr (.int (2 ^ w - 1)), .no, .no, .no]) (by rfl) (run_seq (ρ1 := [.fr (Deed.add a b).pv, .fr (.int (w : Nat)), .fr (.lst (ws.map PV.int)), .fr (.str "add"), .fr (.int (2 ^ w - 1)), .no, .no, .no]) (by rfl) (run_seq (asg_ok ((dBin_ok (x := .lst (ws.map PV.int)) (y := .int (a : Nat)) (by rfl) (by rfl)).trans (gx a h.1))) (run_seq (asg_ok ((dBin_ok (x := .lst (ws.map PV.int)) (y := .int (b : Nat)) (by rfl) (by rfl)).trans (gx b h.2))) (run_seq (ρ1 := [.fr (Deed.add a b).pv, .fr (.int (w : Nat)), .fr (.lst (ws.map PV.int)), .fr (.str "add"), .fr (.int (2 ^ w - 1)), .fr (.int (ws.getD a 0)), .fr (.int (ws.getD b 0)), .no]) (by rfl) (run_seq (ρ1 := [.fr (Deed.add a b).pv, .fr (.int (w : Nat)), .fr (.lst (ws.map PV.int)), .fr (.str "add"), .fr (.int (2 ^ w - 1)), .fr (.int (ws.getD a 0)), .fr (.int (ws.getD b 0)), .no]) (by rfl) (run_seq (ρ1 := [.fr (Deed.add a b).pv, .fr (.int (w : Nat)), .fr (.lst (ws.map PV.int)), .fr (.str "add"), .fr (.int (2 ^ w - 1)), .fr (.int (ws.getD a 0)), .fr (.int (ws.getD b 0)), .no]) (by rfl) (run_seq (ρ1 := [.fr (Deed.add a b).pv, .fr (.int (w : Nat)), .fr (.lst (ws.map PV.int)), .fr (.str "add"), .fr (.int (2 ^ w - 1)), .fr (.int (ws.getD a 0)), .fr (.int (ws.getD b 0)), .no]) (by rfl) (run_seq (ρ1 := [.fr (Deed.add a b).pv, .fr (.int (w : Nat)), .fr (.lst (ws.map PV.int)), .fr (.str "add"), .fr (.int (2 ^ w - 1)), .fr (.int (ws.getD a 0)), .fr (.int (ws.getD b 0)), .no]) (by rfl) (run_seq (ρ1 := [.fr (Deed.add a b).pv, .fr (.int (w : Nat)), .fr (.lst (ws.map PV.int)), .fr (.str "add"), .fr (.int (2 ^ w - 1)), .fr (.int (ws.getD a 0)), .fr (.int (ws.getD b 0)), .no]) (by rfl) (ret_ok ?_))))))))))))
    exact (dBin_ok (x := .int (ws.getD a 0 + ws.getD b 0)) (y := .int (2 ^ w - 1)) rfl rfl).trans (am _)
/-- are_words, so many -/
theorem f_are_wordsN {m : Nat} (hm : 4 ≤ m) {ws : List Int} {w : Nat} (hw : ∀ x ∈ ws, InW w x) (hl : ws.length ≤ 1000) (d : PV) (h : d = .tup (ws.map PV.int) ∨ d = .lst (ws.map PV.int)) : T m 29 [d, .int (w : Nat), .int (ws.length : Nat), .int (ws.length : Nat)] = .ok (.bl true) := by
  obtain ⟨m, rfl, hk⟩ := pos_of hm
  rw [T29]
  refine fnDen_ok rfl ?_
  show s29 (T m) [.fr d, .fr (.int (w : Nat)), .fr (.int (ws.length : Nat)), .fr (.int (ws.length : Nat)), .no, .no] = _
  unfold s29
  rw [seq_nx (asg_ok (d := .tup (ws.map PV.int)) (by simp [dCall, f_as_tuple (show 1 ≤ m by omega) d _ h]))]
  rw [seq_nx (ρ1 := [.fr d, .fr (.int (w : Nat)), .fr (.int (ws.length : Nat)), .fr (.int (ws.length : Nat)), .fr (.tup (ws.map PV.int)), .no]) (by
    rw [if_F (by simp [oIs, isP, dChain])]; rfl)]
  refine ret_ok ?_
  have hlc : dLc (dIt (dVar 4)) (gNm 5) dYes (dCall (T m) 32 (dCons (dVar 5) (dCons (dVar 1) dNil))) [5] [.fr d, .fr (.int (w : Nat)), .fr (.int (ws.length : Nat)), .fr (.int (ws.length : Nat)), .fr (.tup (ws.map PV.int)), .no] = .ok (.lst ((ws.map fun _ => true).map PV.bl)) := by
    refine dLc_ok (ds := ws.map PV.int) rfl (by have hc : cap = 16777216 := rfl; rw [List.length_map]; omega) ?_
    rw [lcL_map (fun _ => .bl true) _ fun x hx => ?_]
    · rw [List.map_map, List.map_map]; rfl
    · obtain ⟨n, hn, rfl⟩ := List.mem_map.mp hx
      exact ⟨_, rfl, rfl, f_is_word (by omega) (hw n hn).1 (hw n hn).2⟩
  have : (ws.map fun _ => true).all id = true := by rw [List.all_map]; simp
  refine (dFn_ok (dCons_ok hlc rfl)).trans ?_
  rw [f1_eq, oAll_bls, this]
/-- Row(..) of right deeds -/
def rowOf (n : Nat) (ds : List Deed) (out : Nat) : PV := .obj 0 [.int (n : Nat), .tup (ds.map Deed.pv), .int (out : Nat)]
theorem f_Row____init__ {m : Nat} (hm : 7 ≤ m) {n out : Nat} {ds : List Deed} (hn : 1 ≤ n ∧ n ≤ 3) (hd : DeedsOk n ds) (ho : out < n + ds.length) (d : PV) (h : d = .tup (ds.map Deed.pv) ∨ d = .lst (ds.map Deed.pv)) : T m 4 [.int (n : Nat), d, .int (out : Nat)] = .ok (rowOf n ds out) := by
  obtain ⟨m, rfl, hk⟩ := pos_of hm
  rw [T4]
  suffices hs : ∃ rest, s4 (T m) [.sf 0 [], .fr (.int (n : Nat)), .fr d, .fr (.int (out : Nat)), .no, .no, .no] = .nx (.sf 0 [.int (n : Nat), .tup (ds.map Deed.pv), .int (out : Nat)] :: rest) by
    obtain ⟨rest, hs⟩ := hs
    exact iniDen_ok rfl hs rfl
  unfold s4
  have e1 := f_is_inputs (m := m) (by omega) (i := (n : Nat)) (by omega)
  have e2 := f_as_tuple (m := m) (by omega) d _ h
  have e3 := f_is_below (m := m) (by omega) (d := .int (out : Nat)) rfl ((n : Int) + (ds.length : Int))
  have hb : below (.int (out : Nat)) ((n : Int) + (ds.length : Int)) = true := by
    simp [below]
    omega
  rw [hb] at e3
  refine Exists.imp (fun rest hr => run_seq (ρ1 := [.sf 0 [], .fr (.int (n : Nat)), .fr d, .fr (.int (out : Nat)), .no, .no, .no]) (by rw [if_F (by simp [e1])]; rfl) (run_seq (asg_ok (d := .tup (ds.map Deed.pv)) (by simp [e2])) (run_seq (ρ1 := [.sf 0 [], .fr (.int (n : Nat)), .fr d, .fr (.int (out : Nat)), .fr (.tup (ds.map Deed.pv)), .no, .no]) (by rw [if_F (by simp [oIs, isP])]; rfl) hr))) ?_
  have loop := forL_inv (g := gTupP 2 (gsCons (gNm 5) (gsCons (gNm 6) gsNil))) (s := (sIf (dNotT (dTru (dCall (T m) 16 (dCons (dVar 6) (dCons (dBin oAdd (dVar 1) (dVar 5)) dNil))))) sBad sNx))
    (fun _ ρ => ∃ x y, isSf x = false ∧ isSf y = false ∧ ρ = [.sf 0 [], .fr (.int (n : Nat)), .fr d, .fr (.int (out : Nat)), .fr (.tup (ds.map Deed.pv)), x, y]) (enumP 0 (ds.map Deed.pv)) 0 [.sf 0 [], .fr (.int (n : Nat)), .fr d, .fr (.int (out : Nat)), .fr (.tup (ds.map Deed.pv)), .no, .no]
    ⟨.no, .no, rfl, rfl, rfl⟩ fun i x ρ hx ⟨x0, y0, hx0, hy0, e⟩ => by
      subst e
      have hi : i < ds.length := by have := (List.getElem?_eq_some_iff.mp hx).1; rwa [enumP_length, List.length_map] at this
      have hdi : ds[i]? = some ds[i] := List.getElem?_eq_getElem hi
      rw [enumP_get (d := ds[i].pv) (by rw [List.getElem?_map, hdi]; rfl), Nat.zero_add] at hx
      cases hx
      have ok := hd.get hdi
      have e4 := f_is_deed (m := m) (by omega) ok
      refine ⟨[.sf 0 [], .fr (.int (n : Nat)), .fr d, .fr (.int (out : Nat)), .fr (.tup (ds.map Deed.pv)), .fr (.int (i : Nat)), .fr ds[i].pv], [.sf 0 [], .fr (.int (n : Nat)), .fr d, .fr (.int (out : Nat)), .fr (.tup (ds.map Deed.pv)), .fr (.int (i : Nat)), .fr ds[i].pv], rfl, .inl ?_, .fr (.int (i : Nat)), .fr ds[i].pv, rfl, rfl, rfl⟩
      have e5 : T m 16 [ds[i].pv, .int ((n : Int) + (i : Int))] = .ok (.bl true) := by
        rw [← Int.natCast_add]; exact e4
      rw [if_F (by simp [e5])]
      rfl
  obtain ⟨ρ', hf, x, y, hx, hy, rfl⟩ := loop
  have st : ∀ (a : List PV) (i : Nat) (v : PV), ([.sf 0 a, .fr (.int (n : Nat)), .fr d, .fr (.int (out : Nat)), .fr (.tup (ds.map Deed.pv)), x, y] : PEnv)[i]? = some (.fr v) → sFld0 0 a.length (dVar i) [.sf 0 a, .fr (.int (n : Nat)), .fr d, .fr (.int (out : Nat)), .fr (.tup (ds.map Deed.pv)), x, y] = .nx [.sf 0 (a ++ [v]), .fr (.int (n : Nat)), .fr d, .fr (.int (out : Nat)), .fr (.tup (ds.map Deed.pv)), x, y] := fun a i v hv => by
    have hdv : dVar i [.sf 0 a, .fr (.int (n : Nat)), .fr d, .fr (.int (out : Nat)), .fr (.tup (ds.map Deed.pv)), x, y] = .ok v := by
      unfold dVar
      rw [hv]
    exact sFld0_ok rfl hdv (by
      show (true && (true && (true && (true && (!isSf x && (!isSf y && true)))))) = true
      rw [hx, hy]
      rfl)
  refine ⟨_, run_seq ((for_ok (ds := enumP 0 (ds.map Deed.pv)) (by rfl)).trans hf) (run_seq (ρ1 := [.sf 0 [], .fr (.int (n : Nat)), .fr d, .fr (.int (out : Nat)), .fr (.tup (ds.map Deed.pv)), x, y]) (by rw [if_F (by simp [e3])]; rfl) (run_seq (st [] 1 _ rfl) (run_seq (st [_] 4 _ rfl) (st [_, _] 3 _ rfl))))⟩
/-- row.all_words(width, words) -/
theorem f_Row__all_words {m : Nat} (hm : 5 ≤ m) {n out w : Nat} {ds : List Deed} {ws : List Int} (hd : DeedsOk ws.length ds) (hws : ∀ x ∈ ws, InW w x) (hn : ws.length = n) (hw : w ≤ 1000) (hl : ws.length + ds.length ≤ 100000) (hl1 : ws.length ≤ 1000) (d : PV) (h : d = .tup (ws.map PV.int) ∨ d = .lst (ws.map PV.int)) : T m 20 [rowOf n ds out, .int (w : Nat), d] = .ok (.tup ((rowWords w ws ds).map PV.int)) := by
  obtain ⟨m, rfl, hk⟩ := pos_of hm
  rw [T20]
  refine fnDen_ok rfl ?_
  subst hn
  show s20 (T m) [.fr (rowOf ws.length ds out), .fr (.int (w : Nat)), .fr d, .no, .no] = _
  unfold s20
  have e1 := f_is_number (m := m) (by omega) (w : Nat)
  have e2 := f_are_wordsN (m := m) (by omega) hws hl1 d h
  have fld : ∀ ρ' : PEnv, ρ'[0]? = some (.fr (rowOf ws.length ds out)) → dUn (oFld [(0, 0)]) (dVar 0) ρ' = .ok (.int (ws.length : Nat)) := fun ρ' h0 => by
    unfold dUn dVar
    rw [h0]
    rfl
  refine run_seq (ρ1 := [.fr (rowOf ws.length ds out), .fr (.int (w : Nat)), .fr d, .no, .no]) (by rw [if_F (by simp [e1])]; rfl) ?_
  refine run_seq (ρ1 := [.fr (rowOf ws.length ds out), .fr (.int (w : Nat)), .fr d, .no, .no]) ?_ ?_
  · have ec : dCall (T m) 29 (dCons (dVar 2) (dCons (dVar 1) (dCons (dUn (oFld [(0, 0)]) (dVar 0)) (dCons (dUn (oFld [(0, 0)]) (dVar 0)) dNil)))) [.fr (rowOf ws.length ds out), .fr (.int (w : Nat)), .fr d, .no, .no] = .ok (.bl true) := (dCall_ok (dCons_ok rfl (dCons_ok rfl (dCons_ok (fld _ rfl) (dCons_ok (fld _ rfl) rfl))))).trans e2
    have et : (dNotT (dTru (dCall (T m) 29 (dCons (dVar 2) (dCons (dVar 1) (dCons (dUn (oFld [(0, 0)]) (dVar 0)) (dCons (dUn (oFld [(0, 0)]) (dVar 0)) dNil))))))) [.fr (rowOf ws.length ds out), .fr (.int (w : Nat)), .fr d, .no, .no] = .ok false := by
      rw [u_dNotT, u_dTru, ec]
      rfl
    rw [if_F et]
    rfl
  have e3 : oList d = .ok (.lst (ws.map PV.int)) := by rcases h with rfl | rfl <;> rfl
  refine run_seq (asgO_ok (d := .lst (ws.map PV.int)) ((dFn_ok (dCons_ok rfl rfl)).trans (by rw [f1_eq]; exact e3))) ?_
  have loop := forL_inv (g := gNm 4) (s := (sApp 3 (dCallL (T m) 30 (dCons (dVar 4) (dCons (dVar 1) (dCons (dBVar 3) dNil))))))
    (fun i ρ => ∃ x, ρ = [.fr (rowOf ws.length ds out), .fr (.int (w : Nat)), .fr d, .ow (.lst ((rowWords w ws (ds.take i)).map PV.int)), x]) (ds.map Deed.pv) 0 [.fr (rowOf ws.length ds out), .fr (.int (w : Nat)), .fr d, .ow (.lst (ws.map PV.int)), .no]
    ⟨.no, rfl⟩ fun i x ρ hx ⟨x0, e⟩ => by
      subst e
      have hi : i < ds.length := by have := (List.getElem?_eq_some_iff.mp hx).1; rwa [List.length_map] at this
      have hdi : ds[i]? = some ds[i] := List.getElem?_eq_getElem hi
      rw [List.getElem?_map, hdi] at hx
      cases hx
      rw [Nat.zero_add] at *
      have ok := hd.get hdi
      have hlen : (rowWords w ws (ds.take i)).length = ws.length + i := by rw [rowWords_len, List.length_take]; omega
      have e4 := f_deed_word (m := m) (by omega) (d := ds[i]) (w := w) (ws := rowWords w ws (ds.take i)) hw (by rw [hlen]; exact ok) (rowWords_in hws)
      refine ⟨[.fr (rowOf ws.length ds out), .fr (.int (w : Nat)), .fr d, .ow (.lst ((rowWords w ws (ds.take i)).map PV.int)), .fr ds[i].pv], _, rfl, .inl (sApp_ok (d := .int (ds[i].val w (rowWords w ws (ds.take i)))) rfl ?_ (by rw [List.length_map, hlen]; omega)), .fr ds[i].pv, ?_⟩
      · unfold dCallL
        rw [dCons_ok (x := ds[i].pv) rfl (dCons_ok (x := .int (w : Nat)) rfl (dCons_ok (x := .lst ((rowWords w ws (ds.take i)).map PV.int)) rfl rfl)), bind_ok, e4]
        rfl
      · rw [take_snoc hdi, rowWords_snoc, List.map_append]
        rfl
  obtain ⟨ρ', hf, x, rfl⟩ := loop
  rw [List.length_map, Nat.zero_add, List.take_length] at hf
  refine run_seq ((for_ok (ds := ds.map Deed.pv) (by rfl)).trans hf) ?_
  exact ret_ok rfl
/-- row.write(width, words) -/
theorem f_Row__write {m : Nat} (hm : 6 ≤ m) {n out w : Nat} {ds : List Deed} {ws : List Int} (hd : DeedsOk ws.length ds) (hws : ∀ x ∈ ws, InW w x) (hn : ws.length = n) (hw : w ≤ 1000) (hl : ws.length + ds.length ≤ 100000) (hl1 : ws.length ≤ 1000) (ho : out < ws.length + ds.length) (d : PV) (h : d = .tup (ws.map PV.int) ∨ d = .lst (ws.map PV.int)) : T m 18 [rowOf n ds out, .int (w : Nat), d] = .ok (.int ((rowWords w ws ds).getD out 0)) := by
  obtain ⟨m, rfl, hk⟩ := pos_of hm
  rw [T18]
  refine fnDen_ok rfl (ret_ok ?_)
  have e1 := f_Row__all_words (out := out) hk hd hws hn hw hl hl1 d h
  refine (dBin_ok (x := .tup ((rowWords w ws ds).map PV.int)) (y := .int (out : Nat)) ?_ rfl).trans (getD_map (by rw [rowWords_len]; exact ho) _ (.inr rfl))
  exact e1
/-- the machines -/
structure Mac where
  n : Nat
  nexts : List (List Nat)
  outs : List (List Nat)
def Mac.ok (M : Mac) : Prop := (1 ≤ M.n ∧ M.n ≤ 3) ∧ (1 ≤ M.nexts.length ∧ M.nexts.length ≤ 1000) ∧ M.outs.length = M.nexts.length ∧ (∀ l ∈ M.nexts, l.length = 2 ^ M.n ∧ ∀ s ∈ l, s < M.nexts.length) ∧ ∀ l ∈ M.outs, l.length = 2 ^ M.n ∧ ∀ b ∈ l, b < 2
def linesP (ls : List (List Nat)) : List PV := ls.map fun l => .tup (natsP l)
def Mac.out (M : Mac) (s l : Nat) : Nat := (M.outs.getD s []).getD l 0
def Mac.nxt (M : Mac) (s l : Nat) : Nat := (M.nexts.getD s []).getD l 0
/-- the bits that M writes, from a state on -/
def Mac.bits (M : Mac) : Nat → List Nat → List Nat
  | _, [] => []
  | s, l :: r => M.out s l :: M.bits (M.nxt s l) r
def Mac.led (M : Mac) : Nat → List Nat → Nat
  | s, [] => s
  | s, l :: r => M.led (M.nxt s l) r
theorem Mac.led_snoc {M : Mac} {l : Nat} : ∀ {ls : List Nat} {s : Nat}, M.led s (ls ++ [l]) = M.nxt (M.led s ls) l
  | [], _ => rfl
  | a :: r, s => by rw [List.cons_append, Mac.led, Mac.led_snoc (ls := r)]; rfl
theorem Mac.bits_snoc {M : Mac} {l : Nat} : ∀ {ls : List Nat} {s : Nat}, M.bits s (ls ++ [l]) = M.bits s ls ++ [M.out (M.led s ls) l]
  | [], _ => rfl
  | a :: r, s => by rw [List.cons_append, Mac.bits, Mac.bits_snoc (ls := r)]; rfl
theorem Mac.bits_len {M : Mac} : ∀ {ls : List Nat} {s : Nat}, (M.bits s ls).length = ls.length
  | [], _ => rfl
  | a :: r, s => by rw [Mac.bits, List.length_cons, List.length_cons, Mac.bits_len (ls := r)]
theorem line_at {ls : List (List Nat)} {s l : Nat} (hs : s < ls.length) (hl : l < (ls.getD s []).length) : oIx (.tup (linesP ls)) (.int (s : Nat)) = .ok (.tup (natsP (ls.getD s []))) ∧ oIx (.tup (natsP (ls.getD s []))) (.int (l : Nat)) = .ok (.int (((ls.getD s []).getD l 0 : Nat) : Int)) := by
  have e1 : ls[s]? = some (ls.getD s []) := by rw [List.getD_eq_getElem?_getD, List.getElem?_eq_getElem hs]; rfl
  have e2 : (ls.getD s [])[l]? = some ((ls.getD s []).getD l 0) := by rw [List.getD_eq_getElem?_getD (i := l), List.getElem?_eq_getElem hl]; rfl
  refine ⟨?_, ?_⟩
  · rw [oIx_tup, PP.atI_nat (by unfold linesP; rw [List.length_map]; exact hs)]
    unfold linesP
    rw [List.getElem?_map, e1]
    rfl
  · rw [oIx_tup, PP.atI_nat (by unfold natsP; rw [List.length_map]; exact hl)]
    unfold natsP
    rw [List.getElem?_map, e2]
    rfl
theorem Mac.state_ok {M : Mac} (h : M.ok) : ∀ {ls : List Nat} {s : Nat}, s < M.nexts.length → (∀ l ∈ ls, l < 2 ^ M.n) → M.led s ls < M.nexts.length
  | [], _, hs, _ => hs
  | a :: r, s, hs, hl => Mac.state_ok h (ls := r) (by
    unfold Mac.nxt
    have e1 : M.nexts.getD s [] = M.nexts[s] := by rw [List.getD_eq_getElem?_getD, List.getElem?_eq_getElem hs]; rfl
    have hm := h.2.2.2.1 M.nexts[s] (List.getElem_mem hs)
    rw [e1]
    have ha : a < M.nexts[s].length := by rw [hm.1]; exact hl a List.mem_cons_self
    rw [List.getD_eq_getElem?_getD, List.getElem?_eq_getElem ha]
    exact hm.2 _ (List.getElem_mem ha)) fun l hl' => hl l (List.mem_cons_of_mem _ hl')
/-- the letters as places -/
def nlets (ws : List Int) (w : Nat) : List Nat := (lettersOf ws w).map Int.toNat
theorem nlets_pv {ws : List Int} {w : Nat} : natsP (nlets ws w) = (lettersOf ws w).map PV.int := by
  unfold natsP nlets lettersOf
  rw [List.map_map, List.map_map, List.map_map]
  apply List.map_congr_left
  intro p _
  have : 0 ≤ letterOf ws p := (bsum_bound (f := bitOf ws p) (n := ws.length) fun k _ => bit_b _ _).1
  show PV.int (((letterOf ws p).toNat : Nat) : Int) = PV.int (letterOf ws p)
  rw [Int.toNat_of_nonneg this]
theorem nlets_lt {ws : List Int} {w n : Nat} (hn : ws.length = n) : ∀ l ∈ nlets ws w, l < 2 ^ n := fun l hl => by
  unfold nlets lettersOf at hl
  rw [List.map_map] at hl
  obtain ⟨p, _, rfl⟩ := List.mem_map.mp hl
  have h := bsum_bound (f := bitOf ws p) (n := ws.length) fun k _ => bit_b _ _
  have := toNat_lt (w := ws.length) (x := letterOf ws p) h
  rw [hn] at this
  exact this
theorem nlets_len {ws : List Int} {w : Nat} : (nlets ws w).length = w := by simp [nlets, lettersOf]
/-- what M writes as a number -/
def Mac.num (M : Mac) (w : Nat) (ws : List Int) : Int := bsum (fun p => (((M.bits 0 (nlets ws w)).getD p 0 : Nat) : Int)) w
theorem Mac.bits_b {M : Mac} (h : M.ok) : ∀ {ls : List Nat} {s : Nat}, s < M.nexts.length → (∀ l ∈ ls, l < 2 ^ M.n) → ∀ b ∈ M.bits s ls, b < 2
  | [], _, _, _, b, hb => by simp [Mac.bits] at hb
  | a :: r, s, hs, hl, b, hb => by
    rcases List.mem_cons.mp hb with rfl | hb
    · unfold Mac.out
      have hs' : s < M.outs.length := by rw [h.2.2.1]; exact hs
      have e1 : M.outs.getD s [] = M.outs[s] := by rw [List.getD_eq_getElem?_getD, List.getElem?_eq_getElem hs']; rfl
      have hm := h.2.2.2.2 M.outs[s] (List.getElem_mem hs')
      rw [e1]
      have ha : a < M.outs[s].length := by rw [hm.1]; exact hl a List.mem_cons_self
      rw [List.getD_eq_getElem?_getD, List.getElem?_eq_getElem ha]
      exact hm.2 _ (List.getElem_mem ha)
    · exact Mac.bits_b h (ls := r) (Mac.state_ok h (ls := [a]) hs fun l hl' => by rw [List.mem_singleton.mp hl']; exact hl a List.mem_cons_self) (fun l hl' => hl l (List.mem_cons_of_mem _ hl')) b hb
/-- _law_count -/
theorem f__law_count {m : Nat} (hm : 1 ≤ m) {p r w : Nat} {ps : List Nat} {ws : List Int} (hw : w ≤ 1000) (hp : 0 < p) (hps : ∀ i ∈ ps, i < ws.length) : T m 31 [(Deed.count p r ps).pv, .lst (ws.map PV.int), .int (w : Nat)] = .ok (.int (countW w p r (ps.map fun i => ws.getD i 0))) := by
  obtain ⟨m, rfl, hk⟩ := pos_of hm
  rw [T31]
  refine fnDen_ok rfl ?_
  generalize hxs : (ps.map fun i => ws.getD i 0) = xs
  show s31 (T m) [.fr (Deed.count p r ps).pv, .fr (.lst (ws.map PV.int)), .fr (.int (w : Nat)), .no, .no, .no, .no] = _
  unfold s31
  refine run_seq (asg_ok (d := .int 0) (by rfl)) (run_seq (asg_ok (d := .int 0) (by rfl)) ?_)
  have hpi : ((p : Nat) : Int) ≠ 0 := by omega
  have inv := forL_inv (g := gNm 5) (s := (sSeq (sIf (dTst (dBin oEq (dBin oMod (dFn (f1 oInt) (dCons (dVar 4) dNil)) (dBin oIx (dVar 0) (dC (.int 1)))) (dBin oIx (dVar 0) (dC (.int 2))))) (sAsg 3 (dBin oAdd (dVar 3) (dBin oShl (dC (.int 1)) (dVar 5)))) sNx)
  (sFor (dIt (dBin oIx (dVar 0) (dC (.int 3)))) (gNm 6) (sAsg 4 (dBin oAdd (dVar 4) (dBin oAnd (dBin oShr (dBin oIx (dVar 1) (dVar 6)) (dVar 5)) (dC (.int 1))))))))
    (fun i ρ => ∃ x y, ρ = [.fr (Deed.count p r ps).pv, .fr (.lst (ws.map PV.int)), .fr (.int (w : Nat)), .fr (.int (countW i p r xs)), .fr (.int (onesAt xs i)), x, y]) (rngP 0 w) 0 [.fr (Deed.count p r ps).pv, .fr (.lst (ws.map PV.int)), .fr (.int (w : Nat)), .fr (.int 0), .fr (.int 0), .no, .no]
    ⟨.no, .no, rfl⟩ fun i x ρ hd ⟨x0, y0, e⟩ => by
      subst e
      have hi : i < w := by have := (List.getElem?_eq_some_iff.mp hd).1; rwa [rngP_length] at this
      rw [rngP_get hi] at hd
      cases hd
      rw [Nat.zero_add] at *
      rw [Int.zero_add]
      have hs : oShl (.int 1) (.int (i : Nat)) = .ok (.int (2 ^ i)) := by
        have := shl_bitN (b := 1) (k := i) ⟨by decide, by decide⟩ (by omega)
        rwa [Int.one_mul] at this
      have st : (sIf (dTst (dBin oEq (dBin oMod (dFn (f1 oInt) (dCons (dVar 4) dNil)) (dBin oIx (dVar 0) (dC (.int 1)))) (dBin oIx (dVar 0) (dC (.int 2))))) (sAsg 3 (dBin oAdd (dVar 3) (dBin oShl (dC (.int 1)) (dVar 5)))) sNx) [.fr (Deed.count p r ps).pv, .fr (.lst (ws.map PV.int)), .fr (.int (w : Nat)), .fr (.int (countW i p r xs)), .fr (.int (onesAt xs i)), .fr (.int (i : Nat)), y0] = .nx [.fr (Deed.count p r ps).pv, .fr (.lst (ws.map PV.int)), .fr (.int (w : Nat)), .fr (.int (countW (i + 1) p r xs)), .fr (.int (onesAt xs i)), .fr (.int (i : Nat)), y0] := by
        have hc : countW (i + 1) p r xs = countW i p r xs + (if onesAt xs i % (p : Int) = (r : Int) then 1 else 0) * 2 ^ i := bsum_succ _ _
        have ec : (dBin oEq (dBin oMod (dFn (f1 oInt) (dCons (dVar 4) dNil)) (dBin oIx (dVar 0) (dC (.int 1)))) (dBin oIx (dVar 0) (dC (.int 2)))) [.fr (Deed.count p r ps).pv, .fr (.lst (ws.map PV.int)), .fr (.int (w : Nat)), .fr (.int (countW i p r xs)), .fr (.int (onesAt xs i)), .fr (.int (i : Nat)), y0] = .ok (.bl (decide (onesAt xs i % (p : Int) = (r : Int)))) := by
          refine (dBin_ok (x := .int (onesAt xs i % (p : Int))) (y := .int (r : Nat)) ?_ rfl).trans rfl
          refine (dBin_ok (x := .int (onesAt xs i)) (y := .int (p : Nat)) rfl rfl).trans ?_
          rw [oMod_ok hpi, Int.fmod_eq_emod_of_nonneg _ (by omega)]
        by_cases h : onesAt xs i % (p : Int) = (r : Int)
        · rw [if_T (by rw [u_dTst, ec, decide_eq_true h]; rfl)]
          rw [hc, if_pos h, Int.one_mul]
          exact asg_ok ((dBin_ok (x := .int (countW i p r xs)) (y := .int (2 ^ i)) rfl ((dBin_ok (x := .int 1) (y := .int (i : Nat)) rfl rfl).trans hs)).trans rfl)
        · rw [if_F (by rw [u_dTst, ec, decide_eq_false h]; rfl)]
          rw [hc, if_neg h, Int.zero_mul, Int.add_zero]
          rfl
      have inn := forL_inv (g := gNm 6) (s := (sAsg 4 (dBin oAdd (dVar 4) (dBin oAnd (dBin oShr (dBin oIx (dVar 1) (dVar 6)) (dVar 5)) (dC (.int 1))))))
        (fun k ρ => ∃ y, ρ = [.fr (Deed.count p r ps).pv, .fr (.lst (ws.map PV.int)), .fr (.int (w : Nat)), .fr (.int (countW (i + 1) p r xs)), .fr (.int (onesAt xs i + ((xs.take k).map fun x => x / 2 ^ i % 2).sum)), .fr (.int (i : Nat)), y]) (ps.map fun (j : Nat) => .int (j : Int)) 0 [.fr (Deed.count p r ps).pv, .fr (.lst (ws.map PV.int)), .fr (.int (w : Nat)), .fr (.int (countW (i + 1) p r xs)), .fr (.int (onesAt xs i)), .fr (.int (i : Nat)), y0]
        ⟨y0, by simp⟩ fun k x ρ hd ⟨y1, e⟩ => by
          subst e
          have hk' : k < ps.length := by have := (List.getElem?_eq_some_iff.mp hd).1; rwa [List.length_map] at this
          have hpk : ps[k]? = some ps[k] := List.getElem?_eq_getElem hk'
          rw [List.getElem?_map, hpk] at hd
          cases hd
          rw [Nat.zero_add] at *
          have hxk : xs[k]? = some (ws.getD ps[k] 0) := by rw [← hxs, List.getElem?_map, hpk]; rfl
          have gx := getD_map (ws := ws) (hps ps[k] (List.getElem_mem hk')) _ (.inl rfl)
          refine ⟨[.fr (Deed.count p r ps).pv, .fr (.lst (ws.map PV.int)), .fr (.int (w : Nat)), .fr (.int (countW (i + 1) p r xs)), .fr (.int (onesAt xs i + ((xs.take k).map fun x => x / 2 ^ i % 2).sum)), .fr (.int (i : Nat)), .fr (.int (ps[k] : Nat))], _, rfl, .inl (asg_ok (d := .int (onesAt xs i + ((xs.take k).map fun x => x / 2 ^ i % 2).sum + ws.getD ps[k] 0 / 2 ^ i % 2)) ?_), .fr (.int (ps[k] : Nat)), ?_⟩
          · refine (dBin_ok (x := .int (onesAt xs i + ((xs.take k).map fun x => x / 2 ^ i % 2).sum)) (y := .int (ws.getD ps[k] 0 / 2 ^ i % 2)) rfl ?_).trans rfl
            refine (dBin_ok (x := .int (ws.getD ps[k] 0 / 2 ^ i)) (y := .int 1) ?_ rfl).trans oAnd_one
            exact (dBin_ok ((dBin_ok (x := .lst (ws.map PV.int)) (y := .int (ps[k] : Nat)) rfl rfl).trans gx) (y := .int (i : Nat)) rfl).trans shr_bit
          · rw [take_snoc hxk, List.map_append, List.sum_append]
            simp only [List.map_cons, List.map_nil, List.sum_cons, List.sum_nil, Int.add_zero]
            rw [Int.add_assoc]
            rfl
      obtain ⟨ρi, hf, y, rfl⟩ := inn
      have hxl : xs.length = ps.length := by rw [← hxs, List.length_map]
      rw [List.length_map, Nat.zero_add, ← hxl, List.take_length] at hf
      refine ⟨[.fr (Deed.count p r ps).pv, .fr (.lst (ws.map PV.int)), .fr (.int (w : Nat)), .fr (.int (countW i p r xs)), .fr (.int (onesAt xs i)), .fr (.int (i : Nat)), y0], _, rfl, .inl (run_seq st ((for_ok (ds := ps.map fun (j : Nat) => .int (j : Int)) (by rfl)).trans hf)), .fr (.int (i : Nat)), y, rfl⟩
  obtain ⟨ρ', h1, x, y, rfl⟩ := inv
  rw [rngP_length, Nat.zero_add] at h1
  exact run_seq ((for_ok (ds := rngP 0 w) ((dRng1_ok (j := (w : Nat)) rfl (by omega) (by omega)).trans (by rw [Int.toNat_natCast]))).trans h1) (ret_ok rfl)
/-- _law_integer -/
theorem f__law_integer {m : Nat} (hm : 1 ≤ m) (i j : Int) : T m 9 [.int i, .int j] = .ok (.bl (decide (i = j))) := by
  obtain ⟨m, rfl, hk⟩ := pos_of hm
  rw [T9]
  exact fnDen_ok rfl (ret_ok rfl)
/-- _law_value -/
theorem f__law_value {m : Nat} (hm : 2 ≤ m) {d : Deed} {w : Nat} {ws : List Int} (hw : w ≤ 1000) (h : d.ok ws.length) (hi : ∀ x ∈ ws, InW w x) : T m 27 [d.pv, .lst (ws.map PV.int), .int (w : Nat)] = .ok (.int (d.val w ws)) := by
  obtain ⟨m, rfl, hk⟩ := pos_of hm
  rw [T27]
  refine fnDen_ok rfl ?_
  show s27 (T m) [.fr d.pv, .fr (.lst (ws.map PV.int)), .fr (.int (w : Nat)), .no, .no, .no] = _
  unfold s27
  have hp := pow_pos2 w
  have hs : oShl (.int 1) (.int (w : Nat)) = .ok (.int (2 ^ w)) := by
    have := shl_bitN (b := 1) (k := w) ⟨by decide, by decide⟩ (by omega)
    rwa [Int.one_mul] at this
  have gx : ∀ a, a < ws.length → oIx (.lst (ws.map PV.int)) (.int (a : Nat)) = .ok (.int (ws.getD a 0)) := fun a ha => getD_map ha _ (.inl rfl)
  have md : ∀ x : Int, oMod (.int x) (.int (2 ^ w)) = .ok (.int (x % 2 ^ w)) := fun x => by
    rw [oMod_ok (Int.ne_of_gt hp), Int.fmod_eq_emod_of_nonneg _ (Int.le_of_lt hp)]
  refine run_seq (asg_ok ((dBin_ok (x := .int 1) (y := .int (w : Nat)) rfl rfl).trans hs)) ?_
  have m2 : ∀ x : Int, oMul (.int 2) (.int x) = .ok (.int (2 * x)) := fun x => oMul_ok (mulC_l (by decide) (by decide))
  cases d with
  | count p r ps =>
    obtain ⟨hp', hr, h1, h4, hx⟩ := h
    refine seq_rt ?_
    rw [if_T (by rfl)]
    exact ret_ok ((dCall_ok (dCons_ok (x := (Deed.count p r ps).pv) rfl (dCons_ok (x := .lst (ws.map PV.int)) rfl (dCons_ok (x := .int (w : Nat)) rfl rfl)))).trans (f__law_count hk hw (by omega) hx))
  | zero =>
    refine run_seq (ρ1 := [.fr Deed.zero.pv, .fr (.lst (ws.map PV.int)), .fr (.int (w : Nat)), .fr (.int (2 ^ w)), .no, .no]) (by rfl) (seq_rt ?_)
    rw [if_T (by rfl)]
    exact ret_ok rfl
  | ones =>
    refine run_seq (ρ1 := [.fr Deed.ones.pv, .fr (.lst (ws.map PV.int)), .fr (.int (w : Nat)), .fr (.int (2 ^ w)), .no, .no]) (by rfl) (run_seq (ρ1 := [.fr Deed.ones.pv, .fr (.lst (ws.map PV.int)), .fr (.int (w : Nat)), .fr (.int (2 ^ w)), .no, .no]) (by rfl) (seq_rt ?_))
    rw [if_T (by rfl)]
    exact ret_ok rfl
  | not a =>
    have e := (dBin_ok (fa := dVar 1) (fb := dBin oIx (dVar 0) (dC (.int 1))) (ρ := [.fr (Deed.not a).pv, .fr (.lst (ws.map PV.int)), .fr (.int (w : Nat)), .fr (.int (2 ^ w)), .no, .no]) (x := .lst (ws.map PV.int)) (y := .int (a : Nat)) (by rfl) (by rfl)).trans (gx a h)
    refine run_seq (ρ1 := [.fr (Deed.not a).pv, .fr (.lst (ws.map PV.int)), .fr (.int (w : Nat)), .fr (.int (2 ^ w)), .no, .no]) (by rfl) (run_seq (ρ1 := [.fr (Deed.not a).pv, .fr (.lst (ws.map PV.int)), .fr (.int (w : Nat)), .fr (.int (2 ^ w)), .no, .no]) (by rfl) (run_seq (ρ1 := [.fr (Deed.not a).pv, .fr (.lst (ws.map PV.int)), .fr (.int (w : Nat)), .fr (.int (2 ^ w)), .no, .no]) (by rfl) (run_seq (asg_ok e) (seq_rt ?_))))
    rw [if_T (by rfl)]
    exact ret_ok rfl
  | shift a =>
    have e := (dBin_ok (fa := dVar 1) (fb := dBin oIx (dVar 0) (dC (.int 1))) (ρ := [.fr (Deed.shift a).pv, .fr (.lst (ws.map PV.int)), .fr (.int (w : Nat)), .fr (.int (2 ^ w)), .no, .no]) (x := .lst (ws.map PV.int)) (y := .int (a : Nat)) (by rfl) (by rfl)).trans (gx a h)
    refine run_seq (ρ1 := [.fr (Deed.shift a).pv, .fr (.lst (ws.map PV.int)), .fr (.int (w : Nat)), .fr (.int (2 ^ w)), .no, .no]) (by rfl) (run_seq (ρ1 := [.fr (Deed.shift a).pv, .fr (.lst (ws.map PV.int)), .fr (.int (w : Nat)), .fr (.int (2 ^ w)), .no, .no]) (by rfl) (run_seq (ρ1 := [.fr (Deed.shift a).pv, .fr (.lst (ws.map PV.int)), .fr (.int (w : Nat)), .fr (.int (2 ^ w)), .no, .no]) (by rfl) (run_seq (asg_ok e) (run_seq (ρ1 := [.fr (Deed.shift a).pv, .fr (.lst (ws.map PV.int)), .fr (.int (w : Nat)), .fr (.int (2 ^ w)), .fr (.int (ws.getD a 0)), .no]) (by rfl) (seq_rt ?_)))))
    rw [if_T (by rfl)]
    exact ret_ok ((dBin_ok (x := .int (2 * ws.getD a 0)) (y := .int (2 ^ w)) ((dFn_ok (dCons_ok ((dBin_ok (x := .int 2) (y := .int (ws.getD a 0)) rfl rfl).trans (m2 _)) rfl)).trans rfl) rfl).trans (md _))
  | minus a =>
    have e := (dBin_ok (fa := dVar 1) (fb := dBin oIx (dVar 0) (dC (.int 1))) (ρ := [.fr (Deed.minus a).pv, .fr (.lst (ws.map PV.int)), .fr (.int (w : Nat)), .fr (.int (2 ^ w)), .no, .no]) (x := .lst (ws.map PV.int)) (y := .int (a : Nat)) (by rfl) (by rfl)).trans (gx a h)
    refine run_seq (ρ1 := [.fr (Deed.minus a).pv, .fr (.lst (ws.map PV.int)), .fr (.int (w : Nat)), .fr (.int (2 ^ w)), .no, .no]) (by rfl) (run_seq (ρ1 := [.fr (Deed.minus a).pv, .fr (.lst (ws.map PV.int)), .fr (.int (w : Nat)), .fr (.int (2 ^ w)), .no, .no]) (by rfl) (run_seq (ρ1 := [.fr (Deed.minus a).pv, .fr (.lst (ws.map PV.int)), .fr (.int (w : Nat)), .fr (.int (2 ^ w)), .no, .no]) (by rfl) (run_seq (asg_ok e) (run_seq (ρ1 := [.fr (Deed.minus a).pv, .fr (.lst (ws.map PV.int)), .fr (.int (w : Nat)), .fr (.int (2 ^ w)), .fr (.int (ws.getD a 0)), .no]) (by rfl) (run_seq (ρ1 := [.fr (Deed.minus a).pv, .fr (.lst (ws.map PV.int)), .fr (.int (w : Nat)), .fr (.int (2 ^ w)), .fr (.int (ws.getD a 0)), .no]) (by rfl) (seq_rt ?_))))))
    rw [if_T (by rfl)]
    refine ret_ok ((dBin_ok (x := .int (2 ^ w - ws.getD a 0)) (y := .int (2 ^ w)) (by rfl) rfl).trans ((md _).trans ?_))
    rw [show (2 : Int) ^ w - ws.getD a 0 = -(ws.getD a 0) + 2 ^ w * 1 by omega, Int.add_mul_emod_self_left]
    rfl
  | and a b =>
    have e := (dBin_ok (fa := dVar 1) (fb := dBin oIx (dVar 0) (dC (.int 1))) (ρ := [.fr (Deed.and a b).pv, .fr (.lst (ws.map PV.int)), .fr (.int (w : Nat)), .fr (.int (2 ^ w)), .no, .no]) (x := .lst (ws.map PV.int)) (y := .int (a : Nat)) (by rfl) (by rfl)).trans (gx a h.1)
    have e' := (dBin_ok (fa := dVar 1) (fb := dBin oIx (dVar 0) (dC (.int 2))) (ρ := [.fr (Deed.and a b).pv, .fr (.lst (ws.map PV.int)), .fr (.int (w : Nat)), .fr (.int (2 ^ w)), .fr (.int (ws.getD a 0)), .no]) (x := .lst (ws.map PV.int)) (y := .int (b : Nat)) (by rfl) (by rfl)).trans (gx b h.2)
    refine run_seq (ρ1 := [.fr (Deed.and a b).pv, .fr (.lst (ws.map PV.int)), .fr (.int (w : Nat)), .fr (.int (2 ^ w)), .no, .no]) (by rfl) (run_seq (ρ1 := [.fr (Deed.and a b).pv, .fr (.lst (ws.map PV.int)), .fr (.int (w : Nat)), .fr (.int (2 ^ w)), .no, .no]) (by rfl) (run_seq (ρ1 := [.fr (Deed.and a b).pv, .fr (.lst (ws.map PV.int)), .fr (.int (w : Nat)), .fr (.int (2 ^ w)), .no, .no]) (by rfl) (run_seq (asg_ok e) (run_seq (ρ1 := [.fr (Deed.and a b).pv, .fr (.lst (ws.map PV.int)), .fr (.int (w : Nat)), .fr (.int (2 ^ w)), .fr (.int (ws.getD a 0)), .no]) (by rfl) (run_seq (ρ1 := [.fr (Deed.and a b).pv, .fr (.lst (ws.map PV.int)), .fr (.int (w : Nat)), .fr (.int (2 ^ w)), .fr (.int (ws.getD a 0)), .no]) (by rfl) (run_seq (ρ1 := [.fr (Deed.and a b).pv, .fr (.lst (ws.map PV.int)), .fr (.int (w : Nat)), .fr (.int (2 ^ w)), .fr (.int (ws.getD a 0)), .no]) (by rfl) (run_seq (asg_ok e') (seq_rt ?_))))))))
    rw [if_T (by rfl)]
    exact ret_ok rfl
  | or a b =>
    have e := (dBin_ok (fa := dVar 1) (fb := dBin oIx (dVar 0) (dC (.int 1))) (ρ := [.fr (Deed.or a b).pv, .fr (.lst (ws.map PV.int)), .fr (.int (w : Nat)), .fr (.int (2 ^ w)), .no, .no]) (x := .lst (ws.map PV.int)) (y := .int (a : Nat)) (by rfl) (by rfl)).trans (gx a h.1)
    have e' := (dBin_ok (fa := dVar 1) (fb := dBin oIx (dVar 0) (dC (.int 2))) (ρ := [.fr (Deed.or a b).pv, .fr (.lst (ws.map PV.int)), .fr (.int (w : Nat)), .fr (.int (2 ^ w)), .fr (.int (ws.getD a 0)), .no]) (x := .lst (ws.map PV.int)) (y := .int (b : Nat)) (by rfl) (by rfl)).trans (gx b h.2)
    refine run_seq (ρ1 := [.fr (Deed.or a b).pv, .fr (.lst (ws.map PV.int)), .fr (.int (w : Nat)), .fr (.int (2 ^ w)), .no, .no]) (by rfl) (run_seq (ρ1 := [.fr (Deed.or a b).pv, .fr (.lst (ws.map PV.int)), .fr (.int (w : Nat)), .fr (.int (2 ^ w)), .no, .no]) (by rfl) (run_seq (ρ1 := [.fr (Deed.or a b).pv, .fr (.lst (ws.map PV.int)), .fr (.int (w : Nat)), .fr (.int (2 ^ w)), .no, .no]) (by rfl) (run_seq (asg_ok e) (run_seq (ρ1 := [.fr (Deed.or a b).pv, .fr (.lst (ws.map PV.int)), .fr (.int (w : Nat)), .fr (.int (2 ^ w)), .fr (.int (ws.getD a 0)), .no]) (by rfl) (run_seq (ρ1 := [.fr (Deed.or a b).pv, .fr (.lst (ws.map PV.int)), .fr (.int (w : Nat)), .fr (.int (2 ^ w)), .fr (.int (ws.getD a 0)), .no]) (by rfl) (run_seq (ρ1 := [.fr (Deed.or a b).pv, .fr (.lst (ws.map PV.int)), .fr (.int (w : Nat)), .fr (.int (2 ^ w)), .fr (.int (ws.getD a 0)), .no]) (by rfl) (run_seq (asg_ok e') (run_seq (ρ1 := [.fr (Deed.or a b).pv, .fr (.lst (ws.map PV.int)), .fr (.int (w : Nat)), .fr (.int (2 ^ w)), .fr (.int (ws.getD a 0)), .fr (.int (ws.getD b 0))]) (by rfl) (seq_rt ?_)))))))))
    rw [if_T (by rfl)]
    exact ret_ok rfl
  | xor a b =>
    have e := (dBin_ok (fa := dVar 1) (fb := dBin oIx (dVar 0) (dC (.int 1))) (ρ := [.fr (Deed.xor a b).pv, .fr (.lst (ws.map PV.int)), .fr (.int (w : Nat)), .fr (.int (2 ^ w)), .no, .no]) (x := .lst (ws.map PV.int)) (y := .int (a : Nat)) (by rfl) (by rfl)).trans (gx a h.1)
    have e' := (dBin_ok (fa := dVar 1) (fb := dBin oIx (dVar 0) (dC (.int 2))) (ρ := [.fr (Deed.xor a b).pv, .fr (.lst (ws.map PV.int)), .fr (.int (w : Nat)), .fr (.int (2 ^ w)), .fr (.int (ws.getD a 0)), .no]) (x := .lst (ws.map PV.int)) (y := .int (b : Nat)) (by rfl) (by rfl)).trans (gx b h.2)
    refine run_seq (ρ1 := [.fr (Deed.xor a b).pv, .fr (.lst (ws.map PV.int)), .fr (.int (w : Nat)), .fr (.int (2 ^ w)), .no, .no]) (by rfl) (run_seq (ρ1 := [.fr (Deed.xor a b).pv, .fr (.lst (ws.map PV.int)), .fr (.int (w : Nat)), .fr (.int (2 ^ w)), .no, .no]) (by rfl) (run_seq (ρ1 := [.fr (Deed.xor a b).pv, .fr (.lst (ws.map PV.int)), .fr (.int (w : Nat)), .fr (.int (2 ^ w)), .no, .no]) (by rfl) (run_seq (asg_ok e) (run_seq (ρ1 := [.fr (Deed.xor a b).pv, .fr (.lst (ws.map PV.int)), .fr (.int (w : Nat)), .fr (.int (2 ^ w)), .fr (.int (ws.getD a 0)), .no]) (by rfl) (run_seq (ρ1 := [.fr (Deed.xor a b).pv, .fr (.lst (ws.map PV.int)), .fr (.int (w : Nat)), .fr (.int (2 ^ w)), .fr (.int (ws.getD a 0)), .no]) (by rfl) (run_seq (ρ1 := [.fr (Deed.xor a b).pv, .fr (.lst (ws.map PV.int)), .fr (.int (w : Nat)), .fr (.int (2 ^ w)), .fr (.int (ws.getD a 0)), .no]) (by rfl) (run_seq (asg_ok e') (run_seq (ρ1 := [.fr (Deed.xor a b).pv, .fr (.lst (ws.map PV.int)), .fr (.int (w : Nat)), .fr (.int (2 ^ w)), .fr (.int (ws.getD a 0)), .fr (.int (ws.getD b 0))]) (by rfl) (run_seq (ρ1 := [.fr (Deed.xor a b).pv, .fr (.lst (ws.map PV.int)), .fr (.int (w : Nat)), .fr (.int (2 ^ w)), .fr (.int (ws.getD a 0)), .fr (.int (ws.getD b 0))]) (by rfl) (seq_rt ?_))))))))))
    rw [if_T (by rfl)]
    exact ret_ok rfl
  | add a b =>
    have e := (dBin_ok (fa := dVar 1) (fb := dBin oIx (dVar 0) (dC (.int 1))) (ρ := [.fr (Deed.add a b).pv, .fr (.lst (ws.map PV.int)), .fr (.int (w : Nat)), .fr (.int (2 ^ w)), .no, .no]) (x := .lst (ws.map PV.int)) (y := .int (a : Nat)) (by rfl) (by rfl)).trans (gx a h.1)
    have e' := (dBin_ok (fa := dVar 1) (fb := dBin oIx (dVar 0) (dC (.int 2))) (ρ := [.fr (Deed.add a b).pv, .fr (.lst (ws.map PV.int)), .fr (.int (w : Nat)), .fr (.int (2 ^ w)), .fr (.int (ws.getD a 0)), .no]) (x := .lst (ws.map PV.int)) (y := .int (b : Nat)) (by rfl) (by rfl)).trans (gx b h.2)
    refine run_seq (ρ1 := [.fr (Deed.add a b).pv, .fr (.lst (ws.map PV.int)), .fr (.int (w : Nat)), .fr (.int (2 ^ w)), .no, .no]) (by rfl) (run_seq (ρ1 := [.fr (Deed.add a b).pv, .fr (.lst (ws.map PV.int)), .fr (.int (w : Nat)), .fr (.int (2 ^ w)), .no, .no]) (by rfl) (run_seq (ρ1 := [.fr (Deed.add a b).pv, .fr (.lst (ws.map PV.int)), .fr (.int (w : Nat)), .fr (.int (2 ^ w)), .no, .no]) (by rfl) (run_seq (asg_ok e) (run_seq (ρ1 := [.fr (Deed.add a b).pv, .fr (.lst (ws.map PV.int)), .fr (.int (w : Nat)), .fr (.int (2 ^ w)), .fr (.int (ws.getD a 0)), .no]) (by rfl) (run_seq (ρ1 := [.fr (Deed.add a b).pv, .fr (.lst (ws.map PV.int)), .fr (.int (w : Nat)), .fr (.int (2 ^ w)), .fr (.int (ws.getD a 0)), .no]) (by rfl) (run_seq (ρ1 := [.fr (Deed.add a b).pv, .fr (.lst (ws.map PV.int)), .fr (.int (w : Nat)), .fr (.int (2 ^ w)), .fr (.int (ws.getD a 0)), .no]) (by rfl) (run_seq (asg_ok e') (run_seq (ρ1 := [.fr (Deed.add a b).pv, .fr (.lst (ws.map PV.int)), .fr (.int (w : Nat)), .fr (.int (2 ^ w)), .fr (.int (ws.getD a 0)), .fr (.int (ws.getD b 0))]) (by rfl) (run_seq (ρ1 := [.fr (Deed.add a b).pv, .fr (.lst (ws.map PV.int)), .fr (.int (w : Nat)), .fr (.int (2 ^ w)), .fr (.int (ws.getD a 0)), .fr (.int (ws.getD b 0))]) (by rfl) (run_seq (ρ1 := [.fr (Deed.add a b).pv, .fr (.lst (ws.map PV.int)), .fr (.int (w : Nat)), .fr (.int (2 ^ w)), .fr (.int (ws.getD a 0)), .fr (.int (ws.getD b 0))]) (by rfl) (seq_rt ?_)))))))))))
    rw [if_T (by rfl)]
    exact ret_ok ((dBin_ok (x := .int (ws.getD a 0 + ws.getD b 0)) (y := .int (2 ^ w)) (by rfl) rfl).trans (md _))
  | sub a b =>
    have e := (dBin_ok (fa := dVar 1) (fb := dBin oIx (dVar 0) (dC (.int 1))) (ρ := [.fr (Deed.sub a b).pv, .fr (.lst (ws.map PV.int)), .fr (.int (w : Nat)), .fr (.int (2 ^ w)), .no, .no]) (x := .lst (ws.map PV.int)) (y := .int (a : Nat)) (by rfl) (by rfl)).trans (gx a h.1)
    have e' := (dBin_ok (fa := dVar 1) (fb := dBin oIx (dVar 0) (dC (.int 2))) (ρ := [.fr (Deed.sub a b).pv, .fr (.lst (ws.map PV.int)), .fr (.int (w : Nat)), .fr (.int (2 ^ w)), .fr (.int (ws.getD a 0)), .no]) (x := .lst (ws.map PV.int)) (y := .int (b : Nat)) (by rfl) (by rfl)).trans (gx b h.2)
    refine run_seq (ρ1 := [.fr (Deed.sub a b).pv, .fr (.lst (ws.map PV.int)), .fr (.int (w : Nat)), .fr (.int (2 ^ w)), .no, .no]) (by rfl) (run_seq (ρ1 := [.fr (Deed.sub a b).pv, .fr (.lst (ws.map PV.int)), .fr (.int (w : Nat)), .fr (.int (2 ^ w)), .no, .no]) (by rfl) (run_seq (ρ1 := [.fr (Deed.sub a b).pv, .fr (.lst (ws.map PV.int)), .fr (.int (w : Nat)), .fr (.int (2 ^ w)), .no, .no]) (by rfl) (run_seq (asg_ok e) (run_seq (ρ1 := [.fr (Deed.sub a b).pv, .fr (.lst (ws.map PV.int)), .fr (.int (w : Nat)), .fr (.int (2 ^ w)), .fr (.int (ws.getD a 0)), .no]) (by rfl) (run_seq (ρ1 := [.fr (Deed.sub a b).pv, .fr (.lst (ws.map PV.int)), .fr (.int (w : Nat)), .fr (.int (2 ^ w)), .fr (.int (ws.getD a 0)), .no]) (by rfl) (run_seq (ρ1 := [.fr (Deed.sub a b).pv, .fr (.lst (ws.map PV.int)), .fr (.int (w : Nat)), .fr (.int (2 ^ w)), .fr (.int (ws.getD a 0)), .no]) (by rfl) (run_seq (asg_ok e') (run_seq (ρ1 := [.fr (Deed.sub a b).pv, .fr (.lst (ws.map PV.int)), .fr (.int (w : Nat)), .fr (.int (2 ^ w)), .fr (.int (ws.getD a 0)), .fr (.int (ws.getD b 0))]) (by rfl) (run_seq (ρ1 := [.fr (Deed.sub a b).pv, .fr (.lst (ws.map PV.int)), .fr (.int (w : Nat)), .fr (.int (2 ^ w)), .fr (.int (ws.getD a 0)), .fr (.int (ws.getD b 0))]) (by rfl) (run_seq (ρ1 := [.fr (Deed.sub a b).pv, .fr (.lst (ws.map PV.int)), .fr (.int (w : Nat)), .fr (.int (2 ^ w)), .fr (.int (ws.getD a 0)), .fr (.int (ws.getD b 0))]) (by rfl) (run_seq (ρ1 := [.fr (Deed.sub a b).pv, .fr (.lst (ws.map PV.int)), .fr (.int (w : Nat)), .fr (.int (2 ^ w)), .fr (.int (ws.getD a 0)), .fr (.int (ws.getD b 0))]) (by rfl) (ret_ok ?_))))))))))))
    exact (dBin_ok (x := .int (ws.getD a 0 - ws.getD b 0)) (y := .int (2 ^ w)) (by rfl) rfl).trans (md _)
/-- _law_numbers -/
theorem f__law_numbers {m : Nat} (hm : 3 ≤ m) {w : Nat} {ds : List Deed} {ws : List Int} (hd : DeedsOk ws.length ds) (hws : ∀ x ∈ ws, InW w x) (hw : w ≤ 1000) (hl : ws.length + ds.length ≤ 100000) : T m 17 [.lst (ds.map Deed.pv), .int (w : Nat), .lst (ws.map PV.int)] = .ok (.lst ((rowWords w ws ds).map PV.int)) := by
  obtain ⟨m, rfl, hk⟩ := pos_of hm
  rw [T17]
  refine fnDen_ok rfl ?_
  show s17 (T m) [.fr (.lst (ds.map Deed.pv)), .fr (.int (w : Nat)), .fr (.lst (ws.map PV.int)), .no, .no] = _
  unfold s17
  refine run_seq (asgO_ok (d := .lst (ws.map PV.int)) (by rfl)) ?_
  have loop := forL_inv (g := gNm 4) (s := (sApp 3 (dCallL (T m) 27 (dCons (dVar 4) (dCons (dBVar 3) (dCons (dVar 1) dNil))))))
    (fun i ρ => ∃ x, ρ = [.fr (.lst (ds.map Deed.pv)), .fr (.int (w : Nat)), .fr (.lst (ws.map PV.int)), .ow (.lst ((rowWords w ws (ds.take i)).map PV.int)), x]) (ds.map Deed.pv) 0 [.fr (.lst (ds.map Deed.pv)), .fr (.int (w : Nat)), .fr (.lst (ws.map PV.int)), .ow (.lst (ws.map PV.int)), .no]
    ⟨.no, rfl⟩ fun i x ρ hx ⟨x0, e⟩ => by
      subst e
      have hi : i < ds.length := by have := (List.getElem?_eq_some_iff.mp hx).1; rwa [List.length_map] at this
      have hdi : ds[i]? = some ds[i] := List.getElem?_eq_getElem hi
      rw [List.getElem?_map, hdi] at hx
      cases hx
      rw [Nat.zero_add] at *
      have ok := hd.get hdi
      have hlen : (rowWords w ws (ds.take i)).length = ws.length + i := by rw [rowWords_len, List.length_take]; omega
      have e4 := f__law_value (m := m) (by omega) (d := ds[i]) (w := w) (ws := rowWords w ws (ds.take i)) hw (by rw [hlen]; exact ok) (rowWords_in hws)
      refine ⟨[.fr (.lst (ds.map Deed.pv)), .fr (.int (w : Nat)), .fr (.lst (ws.map PV.int)), .ow (.lst ((rowWords w ws (ds.take i)).map PV.int)), .fr ds[i].pv], _, rfl, .inl (sApp_ok (d := .int (ds[i].val w (rowWords w ws (ds.take i)))) rfl ?_ (by rw [List.length_map, hlen]; omega)), .fr ds[i].pv, ?_⟩
      · unfold dCallL
        rw [dCons_ok (x := ds[i].pv) rfl (dCons_ok (x := .lst ((rowWords w ws (ds.take i)).map PV.int)) rfl (dCons_ok (x := .int (w : Nat)) rfl rfl)), bind_ok, e4]
        rfl
      · rw [take_snoc hdi, rowWords_snoc, List.map_append]
        rfl
  obtain ⟨ρ', hf, x, rfl⟩ := loop
  rw [List.length_map, Nat.zero_add, List.take_length] at hf
  refine run_seq ((for_ok (ds := ds.map Deed.pv) (by rfl)).trans hf) ?_
  unfold sFrz
  exact ret_ok rfl
/-- _law_same over _law_integer -/
theorem f__law_sameI {m : Nat} (hm : 2 ≤ m) {ns : List Int} (hl : ns.length ≤ 1000000) : T m 19 [.tup (ns.map PV.int), .lst (ns.map PV.int)] = .ok (.bl true) := by
  obtain ⟨m, rfl, hk⟩ := pos_of hm
  rw [T19]
  refine fnDen_ok rfl ?_
  show s19 (T m) [.fr (.tup (ns.map PV.int)), .fr (.lst (ns.map PV.int)), .no] = _
  unfold s19
  refine run_seq (ρ1 := [.fr (.tup (ns.map PV.int)), .fr (.lst (ns.map PV.int)), .no]) ?_ ?_
  · have h1 : oIsi isiT [.tup] (.tup (ns.map PV.int)) = .ok (.bl true) := rfl
    rw [if_F (by simp [h1])]
    rfl
  have inv := forL_inv (g := gNm 2) (s := (sIf (dNotT (dTru (dCall (T m) 9 (dCons (dBin oIx (dVar 0) (dVar 2)) (dCons (dBin oIx (dVar 1) (dVar 2)) dNil))))) (sRet (dC (.bl false))) sNx))
    (fun i ρ => ∃ x, ρ = [.fr (.tup (ns.map PV.int)), .fr (.lst (ns.map PV.int)), x]) (rngP 0 ns.length) 0 [.fr (.tup (ns.map PV.int)), .fr (.lst (ns.map PV.int)), .no]
    ⟨.no, rfl⟩ fun i x ρ hd ⟨x0, e⟩ => by
      subst e
      have hi : i < ns.length := by have := (List.getElem?_eq_some_iff.mp hd).1; rwa [rngP_length] at this
      rw [rngP_get hi] at hd
      cases hd
      rw [Int.zero_add]
      have e3 := getD_of hi
      have e4 := f__law_integer hk (ns.getD i 0) (ns.getD i 0)
      rw [decide_eq_true rfl] at e4
      refine ⟨[.fr (.tup (ns.map PV.int)), .fr (.lst (ns.map PV.int)), .fr (.int (i : Nat))], _, rfl, .inl ?_, .fr (.int (i : Nat)), rfl⟩
      rw [if_F (by simp [e3, e4, -List.getD_eq_getElem?_getD])]
      rfl
  obtain ⟨ρ', h1, x, rfl⟩ := inv
  refine run_seq ((for_ok (ds := rngP 0 ns.length) ((dRng1_ok (j := (ns.length : Nat)) (by simp) (by omega) (by omega)).trans (by rw [Int.toNat_natCast]))).trans h1) ?_
  exact ret_ok rfl
/-- the number that M writes: its low bits -/
theorem lets_low {ws : List Int} {low w : Nat} (h : low ≤ w) : nlets (lowOf low ws) low = (nlets ws w).take low := by
  unfold nlets lettersOf
  rw [← List.map_take, ← List.map_take, List.take_range, Nat.min_eq_left h, List.map_map, List.map_map]
  apply List.map_congr_left
  intro p hp
  have hp := List.mem_range.mp hp
  show (letterOf (lowOf low ws) p).toNat = (letterOf ws p).toNat
  unfold letterOf
  have hl : (lowOf low ws).length = ws.length := by unfold lowOf; rw [List.length_map]
  rw [hl]
  congr 1
  refine bsum_congr fun k _ => ?_
  unfold bitOf
  rw [lowOf_getD, mod_bit hp]
theorem Mac.bits_take {M : Mac} : ∀ {ls : List Nat} {s k : Nat}, M.bits s (ls.take k) = (M.bits s ls).take k
  | _, _, 0 => by simp [Mac.bits]
  | [], _, _ + 1 => by simp [Mac.bits]
  | a :: r, s, k + 1 => by
    rw [List.take_succ_cons, Mac.bits, Mac.bits, List.take_succ_cons, Mac.bits_take (ls := r)]
theorem Mac.num_low {M : Mac} (h : M.ok) {ws : List Int} {low w : Nat} (hl : low ≤ w) (hn : ws.length = M.n) : M.num w ws % 2 ^ low = M.num low (lowOf low ws) := by
  unfold Mac.num
  have hb := Mac.bits_b h (ls := nlets ws w) (s := 0) (by have := h.2.1; omega) (nlets_lt hn)
  rw [bsum_low (fun k => ?_) hl]
  · refine bsum_congr fun k hk => ?_
    rw [lets_low hl, Mac.bits_take, List.getD_eq_getElem?_getD, List.getD_eq_getElem?_getD, List.getElem?_take, if_pos hk]
  · rw [List.getD_eq_getElem?_getD]
    cases hx : (M.bits 0 (nlets ws w))[k]? with
    | none => exact ⟨by decide, by decide⟩
    | some b =>
      have := hb b (List.mem_of_getElem? hx)
      show (0 : Int) ≤ (b : Int) ∧ (b : Int) ≤ 1
      omega
theorem f__law_drawsN {m : Nat} (hm : 2 ≤ m) (c : Int) (ss : List Nat) (hs : ∀ b ∈ ss, 0 < b ∧ b < 1073741824) (hl : ss.length ≤ 1000000) : ∃ ds, T m 2 [.int c, .lst (natsP ss)] = .ok (.lst (natsP ds)) ∧ DrawsN ss ds := by
  obtain ⟨ds, h, h1, h2⟩ := f__law_draws hm c (ss.map fun (i : Nat) => (i : Int)) (fun b hb => by
    obtain ⟨x, hx, rfl⟩ := List.mem_map.mp hb
    have := hs x hx
    omega) (by rw [List.length_map]; exact hl)
  have e1 : natsP ss = (ss.map fun (i : Nat) => (i : Int)).map PV.int := by unfold natsP; rw [List.map_map]; rfl
  have hnn : ∀ x ∈ ds, 0 ≤ x := fun x hx => by
    obtain ⟨j, hj, rfl⟩ := List.getElem_of_mem hx
    rw [List.length_map] at h1
    exact (h2 j _ ((ss.map fun (i : Nat) => (i : Int))[j]'(by rw [List.length_map]; omega)) (List.getElem?_eq_getElem hj) (List.getElem?_eq_getElem _)).1
  have e2 : ds.map PV.int = natsP (ds.map Int.toNat) := by
    unfold natsP
    rw [List.map_map]
    exact List.map_congr_left fun x hx => by
      show PV.int x = PV.int (x.toNat : Int)
      rw [Int.toNat_of_nonneg (hnn x hx)]
  rw [List.length_map] at h1
  refine ⟨ds.map Int.toNat, by rw [e1, h, e2], DrawsN.of (by rw [List.length_map, h1]) fun i a d ha hd => ?_⟩
  rw [List.getElem?_map] at hd
  obtain ⟨x, hx, rfl⟩ := Option.map_eq_some_iff.mp hd
  have := h2 i x (a : Int) hx (by rw [List.getElem?_map, ha]; rfl)
  omega
theorem cells {m : Nat} (hm : 1 ≤ m) (ns : List Int) : ∃ C : Nat → Int, (∀ k : Nat, T m 5 [.scr (ns.map PV.int), .int (k : Nat)] = .ok (.int (C k))) ∧ ∀ n : Nat, T m 5 [.scr (ns.map PV.int), .int (no_index (@OfNat.ofNat Int n (@instOfNat n)))] = .ok (.int (C (@OfNat.ofNat Nat n (instOfNatNat n)))) := by
  obtain ⟨C, hC⟩ := Classical.axiomOfChoice fun k : Nat => f__law_cell hm ns (k : Nat) (Int.natCast_nonneg k)
  exact ⟨C, hC, fun n => hC n⟩
theorem wordsAt {m : Nat} (hm : 2 ≤ m) {w : Nat} (hw : w ≤ 1000) : ∃ W : Int → Int, ∀ c : Int, T m 6 [.int c, .int (w : Nat)] = .ok (.int (W c)) ∧ InW w (W c) :=
  Classical.axiomOfChoice fun c : Int => f__law_word hm c hw
theorem ROWS : (∀ (t : List (Nat × Nat)) (n : Nat) (ds : List Deed) (o : Nat), oFld t (rowOf n ds o) = (R.ofOpt (t.lookup 0)).bind fun i => .ofOpt ([PV.int (n : Nat), .tup (ds.map Deed.pv), .int (o : Nat)] : List PV)[i]?) ∧
  (∀ (Γ : Tab) (t : List (Nat × Nat)) (n : Nat) (ds : List Deed) (o : Nat) (xs : List PV), methR Γ t (.ok (rowOf n ds o)) (.ok xs) = (R.ofOpt (t.lookup 0)).bind fun i => Γ i (rowOf n ds o :: xs)) ∧
  (∀ (Γ : Tab) (t : List (Nat × Nat)) (n : Nat) (ds : List Deed) (o : Nat) (xs : List PV), methLR Γ t (.ok (rowOf n ds o)) (.ok xs) = (R.ofOpt (t.lookup 0)).bind fun i => lf (exb (Γ i (rowOf n ds o :: xs)))) :=
  ⟨fun t n ds o => by unfold rowOf; simp only [ISI, EV0, EV1, EV2, EV3, EV4, EV5, EV6, EV7, EV8, EV9, EV10, EV11, SN, Nat.le_add_left, Nat.add_one_sub_one, reduceIte, Bool.false_eq_true, Nat.zero_le, eq_self, List.singleton_append, List.take_succ_cons, List.take_zero, List.drop_succ_cons, List.drop_zero, List.take_nil, List.drop_nil, Nat.reduceAdd, Nat.reduceSub, Nat.reduceMul, Nat.reduceDiv, Nat.reduceMod, Nat.reducePow, Nat.reduceLT, Nat.reduceLeDiff, Nat.reduceEqDiff, Int.reduceAdd, Int.reduceSub, Int.reduceMul, Int.reduceNeg, Int.reducePow, Int.reduceLT, Int.reduceLE, Int.reduceEq, Int.reduceToNat, List.length_cons, List.length_nil, List.length_append, List.length_map, List.length_replicate, List.map_cons, List.map_nil, List.getElem?_map, Option.map_some, List.cons_append, List.nil_append, decide_true, decide_false, Bool.not_true, Bool.not_false, Bool.and_true, Bool.true_and, Bool.and_false, Bool.false_and, Bool.or_true, Bool.true_or, Bool.or_false, Bool.false_or, Bool.not_not, ne_eq, not_false_eq_true, not_true_eq_false, true_and, and_true, List.append_assoc, Int.toNat_natCast, natsP_len], fun Γ t n ds o xs => by unfold rowOf; simp only [ISI, EV0, EV1, EV2, EV3, EV4, EV5, EV6, EV7, EV8, EV9, EV10, EV11, SN, Nat.le_add_left, Nat.add_one_sub_one, reduceIte, Bool.false_eq_true, Nat.zero_le, eq_self, List.singleton_append, List.take_succ_cons, List.take_zero, List.drop_succ_cons, List.drop_zero, List.take_nil, List.drop_nil, Nat.reduceAdd, Nat.reduceSub, Nat.reduceMul, Nat.reduceDiv, Nat.reduceMod, Nat.reducePow, Nat.reduceLT, Nat.reduceLeDiff, Nat.reduceEqDiff, Int.reduceAdd, Int.reduceSub, Int.reduceMul, Int.reduceNeg, Int.reducePow, Int.reduceLT, Int.reduceLE, Int.reduceEq, Int.reduceToNat, List.length_cons, List.length_nil, List.length_append, List.length_map, List.length_replicate, List.map_cons, List.map_nil, List.getElem?_map, Option.map_some, List.cons_append, List.nil_append, decide_true, decide_false, Bool.not_true, Bool.not_false, Bool.and_true, Bool.true_and, Bool.and_false, Bool.false_and, Bool.or_true, Bool.true_or, Bool.or_false, Bool.false_or, Bool.not_not, ne_eq, not_false_eq_true, not_true_eq_false, true_and, and_true, List.append_assoc, Int.toNat_natCast, natsP_len], fun Γ t n ds o xs => by unfold rowOf; simp only [ISI, EV0, EV1, EV2, EV3, EV4, EV5, EV6, EV7, EV8, EV9, EV10, EV11, SN, Nat.le_add_left, Nat.add_one_sub_one, reduceIte, Bool.false_eq_true, Nat.zero_le, eq_self, List.singleton_append, List.take_succ_cons, List.take_zero, List.drop_succ_cons, List.drop_zero, List.take_nil, List.drop_nil, Nat.reduceAdd, Nat.reduceSub, Nat.reduceMul, Nat.reduceDiv, Nat.reduceMod, Nat.reducePow, Nat.reduceLT, Nat.reduceLeDiff, Nat.reduceEqDiff, Int.reduceAdd, Int.reduceSub, Int.reduceMul, Int.reduceNeg, Int.reducePow, Int.reduceLT, Int.reduceLE, Int.reduceEq, Int.reduceToNat, List.length_cons, List.length_nil, List.length_append, List.length_map, List.length_replicate, List.map_cons, List.map_nil, List.getElem?_map, Option.map_some, List.cons_append, List.nil_append, decide_true, decide_false, Bool.not_true, Bool.not_false, Bool.and_true, Bool.true_and, Bool.and_false, Bool.false_and, Bool.or_true, Bool.true_or, Bool.or_false, Bool.false_or, Bool.not_not, ne_eq, not_false_eq_true, not_true_eq_false, true_and, and_true, List.append_assoc, Int.toNat_natCast, natsP_len]⟩
theorem f_below {m : Nat} (hm : 2 ≤ m) (a b : Nat) : T m 15 [.int (a : Nat), .int (b : Nat)] = .ok (.bl (decide (a < b))) := by
  rw [f_is_below hm rfl]
  congr 2
  unfold below
  by_cases h : a < b <;> simp [h]
def runM (n : Nat) (ds : List Deed) (ms : List Nat) (ls : List Nat) : List Nat := ls.foldl (fun ms l => (stepsD ms (lbits n l) ds).2) ms
theorem runM_snoc {n l : Nat} {ds : List Deed} {ms ls : List Nat} : runM n ds ms (ls ++ [l]) = (stepsD (runM n ds ms ls) (lbits n l) ds).2 := by
  unfold runM
  rw [List.foldl_append]
  rfl
theorem runM_ok {n : Nat} {ds : List Deed} (hd : DeedsOk n ds) : ∀ {ls ms : List Nat}, DrawsN ((mdeeds ds).map Deed.lim) ms → DrawsN ((mdeeds ds).map Deed.lim) (runM n ds ms ls)
  | [], _, h => h
  | l :: r, ms, h => runM_ok hd (ls := r) (stepsD_lim _ rfl hd)
theorem zeros_ok {n : Nat} {ds : List Deed} (hd : DeedsOk n ds) : DrawsN ((mdeeds ds).map Deed.lim) (List.replicate (mdeeds ds).length 0) := by
  rw [← marksF_zero (W := [])]
  exact marksF_ok hd
theorem afterF_len {bs : List Bool} {M : List Nat} : ∀ (k : Nat) {ds : List Deed}, ds.length = k → (afterF bs M ds).length = (mdeeds ds).length
  | 0, ds, h => by rw [List.eq_nil_of_length_eq_zero h]; rfl
  | k + 1, ds, h => by
    have hne : ds ≠ [] := by rintro rfl; simp at h
    rw [← List.dropLast_concat_getLast hne, afterF_snoc, mdeeds_snoc]
    have ih := afterF_len (bs := bs) (M := M) k (ds := ds.dropLast) (by rw [List.length_dropLast, h]; rfl)
    cases (ds.getLast hne).marked
    · exact ih
    · simp only [if_true, List.length_append, ih, List.length_singleton]
def packed (n : Nat) (L : List Nat) : List Int := (List.range n).map fun k => bsum (fun p => ((L.getD p 0 / 2 ^ k % 2 : Nat) : Int)) L.length
theorem packed_len {n : Nat} {L : List Nat} : (packed n L).length = n := by unfold packed; rw [List.length_map, List.length_range]
theorem packed_in {n : Nat} {L : List Nat} : ∀ x ∈ packed n L, InW L.length x := by
  intro x hx
  obtain ⟨k, _, rfl⟩ := List.mem_map.mp hx
  exact bsum_bound fun p _ => by omega
theorem packed_bits {n p : Nat} {L : List Nat} (h : p < L.length) : lbits n (L.getD p 0) = bitsAt (packed n L) p := by
  unfold lbits bitsAt packed
  rw [List.map_map]
  apply List.map_congr_left
  intro k _
  show _ = bitI (bsum _ _) p
  unfold bitI
  rw [bsum_bit (fun k _ => by omega) h, Nat.testBit_eq_decide_div_mod_eq]
  exact decide_eq_decide.mpr (by omega)
theorem cd_nats (l : List Nat) : Cd 1 (.tup (natsP l)) ∧ Cd 1 (.lst (natsP l)) :=
  have h : ∀ x ∈ natsP l, Cd 0 x := fun x hx => by obtain ⟨i, _, rfl⟩ := List.mem_map.mp hx; exact cd_int _
  ⟨Cd.tup h, Cd.lst h⟩
theorem nats_inj {a b : List Nat} : natsP a = natsP b ↔ a = b :=
  ⟨fun h => by
    have := congrArg (List.map fun x : PV => match x with | .int i => i.toNat | _ => 0) h
    unfold natsP at this
    rw [List.map_map, List.map_map] at this
    simpa [Function.comp_def] using this, fun h => by rw [h]⟩
theorem cd_lines (ls : List (List Nat)) : Cd 2 (.tup (linesP ls)) ∧ Cd 2 (.lst (linesP ls)) :=
  have h : ∀ x ∈ linesP ls, Cd 1 x := fun x hx => by obtain ⟨i, _, rfl⟩ := List.mem_map.mp hx; exact (cd_nats _).1
  ⟨Cd.tup h, Cd.lst h⟩
theorem lines_inj {a b : List (List Nat)} : linesP a = linesP b ↔ a = b := by
  refine ⟨fun h => ?_, fun h => by rw [h]⟩
  induction a generalizing b with
  | nil => cases b with
    | nil => rfl
    | cons _ _ => cases h
  | cons x xs ih => cases b with
    | nil => cases h
    | cons y ys =>
      have h1 := List.cons.inj (show PV.tup (natsP x) :: linesP xs = PV.tup (natsP y) :: linesP ys from h)
      have h2 : natsP x = natsP y := by injection h1.1
      rw [nats_inj.mp h2, ih h1.2]
theorem lines_eq (a b : List (List Nat)) : oEq (.tup (linesP a)) (.tup (linesP b)) = .ok (.bl (decide (a = b))) := by
  rw [((cd_lines a).1.dec (cd_lines b).1 (by decide)).1]
  congr 2
  rw [decide_eq_decide]
  exact ⟨fun h => lines_inj.mp (by injection h), fun h => by rw [h]⟩
theorem lines_len (ls : List (List Nat)) : (linesP ls).length = ls.length := List.length_map _
theorem lines_get {ls : List (List Nat)} {i : Nat} (h : i < ls.length) : (linesP ls)[i]? = some (.tup (natsP (ls.getD i []))) := by
  unfold linesP
  rw [List.getElem?_map, List.getElem?_eq_getElem h, List.getD_eq_getElem?_getD, List.getElem?_eq_getElem h]
  rfl
theorem nats_getD {l : List Nat} {i : Nat} (h : i < l.length) : (natsP l)[i]? = some (.int ((l.getD i 0 : Nat) : Int)) := nats_get h
theorem lfrees_all : ∀ {xs : List PV}, (∀ x ∈ xs, lfree x = true) → lfrees xs = true
  | [], _ => by unfold lfrees; rfl
  | x :: r, h => by
    unfold lfrees
    rw [h x List.mem_cons_self, lfrees_all fun y hy => h y (List.mem_cons_of_mem _ hy)]
    rfl
theorem lfree_nats (l : List Nat) : lfree (.tup (natsP l)) = true := by
  unfold lfree
  exact lfrees_all fun x hx => by obtain ⟨i, _, rfl⟩ := List.mem_map.mp hx; unfold lfree; rfl
theorem lfree_lines (ls : List (List Nat)) : lfree (.tup (linesP ls)) = true := by
  unfold lfree
  exact lfrees_all fun x hx => by obtain ⟨i, _, rfl⟩ := List.mem_map.mp hx; exact lfree_nats i
theorem ROWS2 :
  (∀ (Γ : Tab) (t : List (Nat × List Nat × Nat)) (n : Nat) (dl : List Deed) (o : Nat) (ds es : List PV), methK Γ t (.ok (rowOf n dl o)) (.ok ds) (.ok es) = (R.ofOpt (t.lookup 0)).bind fun q => Γ q.2 (pick q.1 (rowOf n dl o :: (ds ++ es)))) ∧
  (∀ (Γ : Tab) (t : List (Nat × Nat)) (ne : Bool) (n : Nat) (dl : List Deed) (o : Nat) (y : PV), oOwnE Γ t ne (rowOf n dl o) y = (R.ofOpt (t.lookup 0)).bind fun i => ownA ne y (Γ i [rowOf n dl o, y])) ∧
  (∀ (Γ : Tab) (t : List (Nat × Nat)) (n : Nat) (dl : List Deed) (o : Nat), oOwnL Γ t (rowOf n dl o) = (R.ofOpt (t.lookup 0)).bind fun i => ownN (Γ i [rowOf n dl o])) ∧
  (∀ (n : Nat) (dl : List Deed) (o : Nat) (b : Bool), ownA false (rowOf n dl o) (.ok (.bl b)) = .ok (.bl b)) ∧
  (∀ (n : Nat) (dl : List Deed) (o : Nat) (b : Bool), ownA true (rowOf n dl o) (.ok (.bl b)) = .ok (.bl (!b))) :=
  ⟨fun Γ t n dl o ds es => by unfold rowOf; simp only [ISI, EV0, EV1, EV2, EV3, EV4, EV5, EV6, EV7, EV8, EV9, EV10, EV11, SN, Nat.le_add_left, Nat.add_one_sub_one, reduceIte, Bool.false_eq_true, Nat.zero_le, eq_self, List.singleton_append, List.take_succ_cons, List.take_zero, List.drop_succ_cons, List.drop_zero, List.take_nil, List.drop_nil, Nat.reduceAdd, Nat.reduceSub, Nat.reduceMul, Nat.reduceDiv, Nat.reduceMod, Nat.reducePow, Nat.reduceLT, Nat.reduceLeDiff, Nat.reduceEqDiff, Int.reduceAdd, Int.reduceSub, Int.reduceMul, Int.reduceNeg, Int.reducePow, Int.reduceLT, Int.reduceLE, Int.reduceEq, Int.reduceToNat, List.length_cons, List.length_nil, List.length_append, List.length_map, List.length_replicate, List.map_cons, List.map_nil, List.getElem?_map, Option.map_some, List.cons_append, List.nil_append, decide_true, decide_false, Bool.not_true, Bool.not_false, Bool.and_true, Bool.true_and, Bool.and_false, Bool.false_and, Bool.or_true, Bool.true_or, Bool.or_false, Bool.false_or, Bool.not_not, ne_eq, not_false_eq_true, not_true_eq_false, true_and, and_true, List.append_assoc, Int.toNat_natCast, natsP_len], fun Γ t ne n dl o y => by unfold rowOf; simp only [ISI, EV0, EV1, EV2, EV3, EV4, EV5, EV6, EV7, EV8, EV9, EV10, EV11, SN, Nat.le_add_left, Nat.add_one_sub_one, reduceIte, Bool.false_eq_true, Nat.zero_le, eq_self, List.singleton_append, List.take_succ_cons, List.take_zero, List.drop_succ_cons, List.drop_zero, List.take_nil, List.drop_nil, Nat.reduceAdd, Nat.reduceSub, Nat.reduceMul, Nat.reduceDiv, Nat.reduceMod, Nat.reducePow, Nat.reduceLT, Nat.reduceLeDiff, Nat.reduceEqDiff, Int.reduceAdd, Int.reduceSub, Int.reduceMul, Int.reduceNeg, Int.reducePow, Int.reduceLT, Int.reduceLE, Int.reduceEq, Int.reduceToNat, List.length_cons, List.length_nil, List.length_append, List.length_map, List.length_replicate, List.map_cons, List.map_nil, List.getElem?_map, Option.map_some, List.cons_append, List.nil_append, decide_true, decide_false, Bool.not_true, Bool.not_false, Bool.and_true, Bool.true_and, Bool.and_false, Bool.false_and, Bool.or_true, Bool.true_or, Bool.or_false, Bool.false_or, Bool.not_not, ne_eq, not_false_eq_true, not_true_eq_false, true_and, and_true, List.append_assoc, Int.toNat_natCast, natsP_len], fun Γ t n dl o => by unfold rowOf; simp only [ISI, EV0, EV1, EV2, EV3, EV4, EV5, EV6, EV7, EV8, EV9, EV10, EV11, SN, Nat.le_add_left, Nat.add_one_sub_one, reduceIte, Bool.false_eq_true, Nat.zero_le, eq_self, List.singleton_append, List.take_succ_cons, List.take_zero, List.drop_succ_cons, List.drop_zero, List.take_nil, List.drop_nil, Nat.reduceAdd, Nat.reduceSub, Nat.reduceMul, Nat.reduceDiv, Nat.reduceMod, Nat.reducePow, Nat.reduceLT, Nat.reduceLeDiff, Nat.reduceEqDiff, Int.reduceAdd, Int.reduceSub, Int.reduceMul, Int.reduceNeg, Int.reducePow, Int.reduceLT, Int.reduceLE, Int.reduceEq, Int.reduceToNat, List.length_cons, List.length_nil, List.length_append, List.length_map, List.length_replicate, List.map_cons, List.map_nil, List.getElem?_map, Option.map_some, List.cons_append, List.nil_append, decide_true, decide_false, Bool.not_true, Bool.not_false, Bool.and_true, Bool.true_and, Bool.and_false, Bool.false_and, Bool.or_true, Bool.true_or, Bool.or_false, Bool.false_or, Bool.not_not, ne_eq, not_false_eq_true, not_true_eq_false, true_and, and_true, List.append_assoc, Int.toNat_natCast, natsP_len], fun n dl o b => by unfold rowOf; simp only [ISI, EV0, EV1, EV2, EV3, EV4, EV5, EV6, EV7, EV8, EV9, EV10, EV11, SN, Nat.le_add_left, Nat.add_one_sub_one, reduceIte, Bool.false_eq_true, Nat.zero_le, eq_self, List.singleton_append, List.take_succ_cons, List.take_zero, List.drop_succ_cons, List.drop_zero, List.take_nil, List.drop_nil, Nat.reduceAdd, Nat.reduceSub, Nat.reduceMul, Nat.reduceDiv, Nat.reduceMod, Nat.reducePow, Nat.reduceLT, Nat.reduceLeDiff, Nat.reduceEqDiff, Int.reduceAdd, Int.reduceSub, Int.reduceMul, Int.reduceNeg, Int.reducePow, Int.reduceLT, Int.reduceLE, Int.reduceEq, Int.reduceToNat, List.length_cons, List.length_nil, List.length_append, List.length_map, List.length_replicate, List.map_cons, List.map_nil, List.getElem?_map, Option.map_some, List.cons_append, List.nil_append, decide_true, decide_false, Bool.not_true, Bool.not_false, Bool.and_true, Bool.true_and, Bool.and_false, Bool.false_and, Bool.or_true, Bool.true_or, Bool.or_false, Bool.false_or, Bool.not_not, ne_eq, not_false_eq_true, not_true_eq_false, true_and, and_true, List.append_assoc, Int.toNat_natCast, natsP_len], fun n dl o b => by unfold rowOf; simp only [ISI, EV0, EV1, EV2, EV3, EV4, EV5, EV6, EV7, EV8, EV9, EV10, EV11, SN, Nat.le_add_left, Nat.add_one_sub_one, reduceIte, Bool.false_eq_true, Nat.zero_le, eq_self, List.singleton_append, List.take_succ_cons, List.take_zero, List.drop_succ_cons, List.drop_zero, List.take_nil, List.drop_nil, Nat.reduceAdd, Nat.reduceSub, Nat.reduceMul, Nat.reduceDiv, Nat.reduceMod, Nat.reducePow, Nat.reduceLT, Nat.reduceLeDiff, Nat.reduceEqDiff, Int.reduceAdd, Int.reduceSub, Int.reduceMul, Int.reduceNeg, Int.reducePow, Int.reduceLT, Int.reduceLE, Int.reduceEq, Int.reduceToNat, List.length_cons, List.length_nil, List.length_append, List.length_map, List.length_replicate, List.map_cons, List.map_nil, List.getElem?_map, Option.map_some, List.cons_append, List.nil_append, decide_true, decide_false, Bool.not_true, Bool.not_false, Bool.and_true, Bool.true_and, Bool.and_false, Bool.false_and, Bool.or_true, Bool.true_or, Bool.or_false, Bool.false_or, Bool.not_not, ne_eq, not_false_eq_true, not_true_eq_false, true_and, and_true, List.append_assoc, Int.toNat_natCast, natsP_len]⟩
theorem Mac.ok_at {M : Mac} (h : M.ok) {s l : Nat} (hs : s < M.nexts.length) (hl : l < 2 ^ M.n) : (linesP M.nexts)[s]? = some (.tup (natsP (M.nexts.getD s []))) ∧ (natsP (M.nexts.getD s []))[l]? = some (.int (M.nxt s l : Nat)) ∧ (linesP M.outs)[s]? = some (.tup (natsP (M.outs.getD s []))) ∧ (natsP (M.outs.getD s []))[l]? = some (.int (M.out s l : Nat)) ∧ M.nxt s l < M.nexts.length ∧ M.out s l < 2 := by
  obtain ⟨h1, h2, h3, h4, h5⟩ := h
  have ho : s < M.outs.length := by omega
  have g1 : M.nexts.getD s [] ∈ M.nexts := by rw [List.getD_eq_getElem?_getD, List.getElem?_eq_getElem hs]; exact List.getElem_mem _
  have g2 : M.outs.getD s [] ∈ M.outs := by rw [List.getD_eq_getElem?_getD, List.getElem?_eq_getElem ho]; exact List.getElem_mem _
  obtain ⟨a1, a2⟩ := h4 _ g1
  obtain ⟨b1, b2⟩ := h5 _ g2
  have l1 : l < (M.nexts.getD s []).length := by rw [a1]; exact hl
  have l2 : l < (M.outs.getD s []).length := by rw [b1]; exact hl
  refine ⟨lines_get hs, nats_getD l1, lines_get ho, nats_getD l2, a2 _ ?_, b2 _ ?_⟩
  · unfold Mac.nxt; rw [List.getD_eq_getElem?_getD (l := M.nexts.getD s []), List.getElem?_eq_getElem l1]; exact List.getElem_mem _
  · unfold Mac.out; rw [List.getD_eq_getElem?_getD (l := M.outs.getD s []), List.getElem?_eq_getElem l2]; exact List.getElem_mem _
theorem f_Row____len__ {m : Nat} (hm : 1 ≤ m) (n : Nat) (ds : List Deed) (o : Nat) : T m 21 [rowOf n ds o] = .ok (.int (ds.length : Nat)) := by
  obtain ⟨m, rfl, hk⟩ := pos_of hm
  rw [T21]
  refine fn_eq rfl ?_
  simp only [ISI, EV0, EV1, EV2, EV3, EV4, EV5, EV6, EV7, EV8, EV9, EV10, EV11, SN, Nat.le_add_left, Nat.add_one_sub_one, reduceIte, Bool.false_eq_true, Nat.zero_le, eq_self, List.singleton_append, List.take_succ_cons, List.take_zero, List.drop_succ_cons, List.drop_zero, List.take_nil, List.drop_nil, Nat.reduceAdd, Nat.reduceSub, Nat.reduceMul, Nat.reduceDiv, Nat.reduceMod, Nat.reducePow, Nat.reduceLT, Nat.reduceLeDiff, Nat.reduceEqDiff, Int.reduceAdd, Int.reduceSub, Int.reduceMul, Int.reduceNeg, Int.reducePow, Int.reduceLT, Int.reduceLE, Int.reduceEq, Int.reduceToNat, List.length_cons, List.length_nil, List.length_append, List.length_map, List.length_replicate, List.map_cons, List.map_nil, List.getElem?_map, Option.map_some, List.cons_append, List.nil_append, decide_true, decide_false, Bool.not_true, Bool.not_false, Bool.and_true, Bool.true_and, Bool.and_false, Bool.false_and, Bool.or_true, Bool.true_or, Bool.or_false, Bool.false_or, Bool.not_not, ne_eq, not_false_eq_true, not_true_eq_false, true_and, and_true, List.append_assoc, Int.toNat_natCast, natsP_len, NC, s21, List.replicate, ROWS]
theorem f__law_same2 {m : Nat} (hm : 2 ≤ m) {l : List Nat} (hl : l.length ≤ 1000000) (d : PV) (hd : d = .tup (natsP l) ∨ d = .lst (natsP l)) : T m 19 [.tup (natsP l), d] = .ok (.bl true) := by
  obtain ⟨m, rfl, hk⟩ := pos_of hm
  rw [T19]
  refine fn_eq rfl ?_
  rcases hd with rfl | rfl
  all_goals
    simp only [ISI, EV0, EV1, EV2, EV3, EV4, EV5, EV6, EV7, EV8, EV9, EV10, EV11, SN, Nat.le_add_left, Nat.add_one_sub_one, reduceIte, Bool.false_eq_true, Nat.zero_le, eq_self, List.singleton_append, List.take_succ_cons, List.take_zero, List.drop_succ_cons, List.drop_zero, List.take_nil, List.drop_nil, Nat.reduceAdd, Nat.reduceSub, Nat.reduceMul, Nat.reduceDiv, Nat.reduceMod, Nat.reducePow, Nat.reduceLT, Nat.reduceLeDiff, Nat.reduceEqDiff, Int.reduceAdd, Int.reduceSub, Int.reduceMul, Int.reduceNeg, Int.reducePow, Int.reduceLT, Int.reduceLE, Int.reduceEq, Int.reduceToNat, List.length_cons, List.length_nil, List.length_append, List.length_map, List.length_replicate, List.map_cons, List.map_nil, List.getElem?_map, Option.map_some, List.cons_append, List.nil_append, decide_true, decide_false, Bool.not_true, Bool.not_false, Bool.and_true, Bool.true_and, Bool.and_false, Bool.false_and, Bool.or_true, Bool.true_or, Bool.or_false, Bool.false_or, Bool.not_not, ne_eq, not_false_eq_true, not_true_eq_false, true_and, and_true, List.append_assoc, Int.toNat_natCast, natsP_len, NC, s19, List.replicate, natsP_len, (show l.length ≤ 1000000000 by omega)]
    refine loop_rng (fun e i ρ' => ∃ x, ρ' = e.set 2 x) ?_ ?_ ?_
    · exact ⟨.no, rfl⟩
    · rintro i _ hi ⟨x, rfl⟩
      simp only [ISI, EV0, EV1, EV2, EV3, EV4, EV5, EV6, EV7, EV8, EV9, EV10, EV11, SN, Nat.le_add_left, Nat.add_one_sub_one, reduceIte, Bool.false_eq_true, Nat.zero_le, eq_self, List.singleton_append, List.take_succ_cons, List.take_zero, List.drop_succ_cons, List.drop_zero, List.take_nil, List.drop_nil, Nat.reduceAdd, Nat.reduceSub, Nat.reduceMul, Nat.reduceDiv, Nat.reduceMod, Nat.reducePow, Nat.reduceLT, Nat.reduceLeDiff, Nat.reduceEqDiff, Int.reduceAdd, Int.reduceSub, Int.reduceMul, Int.reduceNeg, Int.reducePow, Int.reduceLT, Int.reduceLE, Int.reduceEq, Int.reduceToNat, List.length_cons, List.length_nil, List.length_append, List.length_map, List.length_replicate, List.map_cons, List.map_nil, List.getElem?_map, Option.map_some, List.cons_append, List.nil_append, decide_true, decide_false, Bool.not_true, Bool.not_false, Bool.and_true, Bool.true_and, Bool.and_false, Bool.false_and, Bool.or_true, Bool.true_or, Bool.or_false, Bool.false_or, Bool.not_not, ne_eq, not_false_eq_true, not_true_eq_false, true_and, and_true, List.append_assoc, Int.toNat_natCast, natsP_len, NC, nats_get hi, f__law_integer hk]
      exact ⟨_, rfl⟩
    · rintro _ ⟨x, rfl⟩
      simp only [ISI, EV0, EV1, EV2, EV3, EV4, EV5, EV6, EV7, EV8, EV9, EV10, EV11, SN, Nat.le_add_left, Nat.add_one_sub_one, reduceIte, Bool.false_eq_true, Nat.zero_le, eq_self, List.singleton_append, List.take_succ_cons, List.take_zero, List.drop_succ_cons, List.drop_zero, List.take_nil, List.drop_nil, Nat.reduceAdd, Nat.reduceSub, Nat.reduceMul, Nat.reduceDiv, Nat.reduceMod, Nat.reducePow, Nat.reduceLT, Nat.reduceLeDiff, Nat.reduceEqDiff, Int.reduceAdd, Int.reduceSub, Int.reduceMul, Int.reduceNeg, Int.reducePow, Int.reduceLT, Int.reduceLE, Int.reduceEq, Int.reduceToNat, List.length_cons, List.length_nil, List.length_append, List.length_map, List.length_replicate, List.map_cons, List.map_nil, List.getElem?_map, Option.map_some, List.cons_append, List.nil_append, decide_true, decide_false, Bool.not_true, Bool.not_false, Bool.and_true, Bool.true_and, Bool.and_false, Bool.false_and, Bool.or_true, Bool.true_or, Bool.or_false, Bool.false_or, Bool.not_not, ne_eq, not_false_eq_true, not_true_eq_false, true_and, and_true, List.append_assoc, Int.toNat_natCast, natsP_len]
theorem lines_set {ls : List (List Nat)} {i : Nat} {l : List Nat} : (linesP ls).set i (.tup (natsP l)) = linesP (ls.set i l) := by
  unfold linesP
  rw [List.map_set]
theorem nats_set {l : List Nat} {i x : Nat} : (natsP l).set i (.int (x : Nat)) = natsP (l.set i x) := by
  unfold natsP
  rw [List.map_set]
theorem lets_packed {n : Nat} {L : List Nat} (h : ∀ l ∈ L, l < 2 ^ n) : nlets (packed n L) L.length = L := by
  apply List.ext_getElem?
  intro p
  unfold nlets lettersOf
  rw [List.getElem?_map, List.getElem?_map]
  by_cases hp : p < L.length
  · rw [List.getElem?_range hp, List.getElem?_eq_getElem hp]
    show some (letterOf (packed n L) p).toNat = some L[p]
    congr 1
    have hg : L.getD p 0 = L[p] := by rw [List.getD_eq_getElem?_getD, List.getElem?_eq_getElem hp]; rfl
    have hlt : L[p] < 2 ^ n := h _ (List.getElem_mem hp)
    have e : letterOf (packed n L) p = ((L[p] : Nat) : Int) := by
      unfold letterOf
      rw [packed_len]
      have h2 := bsum_bits (w := n) (x := ((L[p] : Nat) : Int)) (Int.natCast_nonneg _) (inW_nat hlt).2
      refine Eq.trans (bsum_congr fun k hk => ?_) h2
      unfold bitOf packed
      rw [List.getD_eq_getElem?_getD, List.getElem?_map, List.getElem?_range hk]
      show bsum _ _ / 2 ^ p % 2 = _
      rw [bsum_bit (fun k _ => by omega) hp, hg]
      rw [Int.natCast_emod, Int.natCast_ediv, Int.natCast_pow]
      rfl
    rw [e]
    rfl
  · rw [List.getElem?_eq_none (by simpa using hp), List.getElem?_eq_none (by omega)]
    rfl
theorem getD_set_self {l : List Nat} {i x : Nat} (h : i < l.length) : (l.set i x).getD i 0 = x := by
  rw [List.getD_eq_getElem?_getD, List.getElem?_set_self h]; rfl
theorem set_ne {l : List Nat} {i x : Nat} (h : i < l.length) (hx : l.getD i 0 ≠ x) : l.set i x ≠ l := fun e => by
  have : (l.set i x).getD i 0 = l.getD i 0 := by rw [e]
  rw [getD_set_self h] at this
  exact hx this.symm
theorem lset_ne {ls : List (List Nat)} {i : Nat} {l : List Nat} (h : i < ls.length) (hx : ls.getD i [] ≠ l) : ls.set i l ≠ ls := fun e => by
  have : (ls.set i l).getD i [] = ls.getD i [] := by rw [e]
  rw [List.getD_eq_getElem?_getD (l := ls.set i l), List.getElem?_set_self h] at this
  exact hx this.symm
theorem Mac.ok_set_out {M : Mac} (h : M.ok) {i j x : Nat} (hi : i < M.nexts.length) (hx : x < 2) : Mac.ok ⟨M.n, M.nexts, M.outs.set i ((M.outs.getD i []).set j x)⟩ := by
  obtain ⟨h1, h2, h3, h4, h5⟩ := h
  refine ⟨h1, h2, by show (List.set _ _ _).length = _; rw [List.length_set]; exact h3, h4, fun l hl => ?_⟩
  have g2 : M.outs.getD i [] ∈ M.outs := by rw [List.getD_eq_getElem?_getD, List.getElem?_eq_getElem (show i < M.outs.length by omega)]; exact List.getElem_mem _
  rcases List.mem_or_eq_of_mem_set hl with hl | rfl
  · exact h5 l hl
  · refine ⟨by rw [List.length_set]; exact (h5 _ g2).1, fun b hb => ?_⟩
    rcases List.mem_or_eq_of_mem_set hb with hb | rfl
    · exact (h5 _ g2).2 b hb
    · exact hx
theorem Mac.ok_set_next {M : Mac} (h : M.ok) {i j x : Nat} (hi : i < M.nexts.length) (hx : x < M.nexts.length) : Mac.ok ⟨M.n, M.nexts.set i ((M.nexts.getD i []).set j x), M.outs⟩ := by
  obtain ⟨h1, h2, h3, h4, h5⟩ := h
  refine ⟨h1, by show _ ≤ (List.set _ _ _).length ∧ (List.set _ _ _).length ≤ _; rw [List.length_set]; exact h2, by show _ = (List.set _ _ _).length; rw [List.length_set]; exact h3, fun l hl => ?_, h5⟩
  have g2 : M.nexts.getD i [] ∈ M.nexts := by rw [List.getD_eq_getElem?_getD, List.getElem?_eq_getElem hi]; exact List.getElem_mem _
  show _ ∧ ∀ s ∈ l, s < (M.nexts.set i _).length
  rw [List.length_set]
  rcases List.mem_or_eq_of_mem_set hl with hl | rfl
  · exact h4 l hl
  · refine ⟨by rw [List.length_set]; exact (h4 _ g2).1, fun b hb => ?_⟩
    rcases List.mem_or_eq_of_mem_set hb with hb | rfl
    · exact (h4 _ g2).2 b hb
    · exact hx
/- 0 -/
theorem lf_row (n : Nat) (ds : List Deed) (o : Nat) : lf (.ok (rowOf n ds o)) = .ok (rowOf n ds o) := by
  have h : lfree (rowOf n ds o) = true := by
    unfold rowOf lfree
    exact lfrees_of fun x hx => by
      simp only [List.mem_cons, List.not_mem_nil, or_false] at hx
      rcases hx with rfl | rfl | rfl
      · unfold lfree; rfl
      · exact lfree_deeds _
      · unfold lfree; rfl
  exact if_pos h
theorem isi_row (n : Nat) (ds : List Deed) (o : Nat) : oIsi isiT [.cls 0] (rowOf n ds o) = .ok (.bl true) := rfl
theorem f_Row____eq__ {m : Nat} (hm : 1 ≤ m) (n n' o o' : Nat) (ds ds' : List Deed) : T m 23 [rowOf n ds o, rowOf n' ds' o'] = .ok (.bl (decide (n = n') && (decide (ds = ds') && decide (o = o')))) := by
  obtain ⟨m, rfl, hk⟩ := pos_of hm
  rw [T23]
  refine fn_eq rfl ?_
  simp only [ISI, EV0, EV1, EV2, EV3, EV4, EV5, EV6, EV7, EV8, EV9, EV10, EV11, SN, Nat.le_add_left, Nat.add_one_sub_one, reduceIte, Bool.false_eq_true, Nat.zero_le, eq_self, List.singleton_append, List.take_succ_cons, List.take_zero, List.drop_succ_cons, List.drop_zero, List.take_nil, List.drop_nil, Nat.reduceAdd, Nat.reduceSub, Nat.reduceMul, Nat.reduceDiv, Nat.reduceMod, Nat.reducePow, Nat.reduceLT, Nat.reduceLeDiff, Nat.reduceEqDiff, Int.reduceAdd, Int.reduceSub, Int.reduceMul, Int.reduceNeg, Int.reducePow, Int.reduceLT, Int.reduceLE, Int.reduceEq, Int.reduceToNat, List.length_cons, List.length_nil, List.length_append, List.length_map, List.length_replicate, List.map_cons, List.map_nil, List.getElem?_map, Option.map_some, List.cons_append, List.nil_append, decide_true, decide_false, Bool.not_true, Bool.not_false, Bool.and_true, Bool.true_and, Bool.and_false, Bool.false_and, Bool.or_true, Bool.true_or, Bool.or_false, Bool.false_or, Bool.not_not, ne_eq, not_false_eq_true, not_true_eq_false, true_and, and_true, List.append_assoc, Int.toNat_natCast, natsP_len, NC, s23, List.replicate, ROWS, deeds_eq, isi_row]
theorem f_Row____eq__o {m : Nat} (hm : 1 ≤ m) (n o : Nat) (ds : List Deed) {y : PV} (h : oIsi isiT [.cls 0] y = .ok (.bl false)) : T m 23 [rowOf n ds o, y] = .ok (.bl false) := by
  obtain ⟨m, rfl, hk⟩ := pos_of hm
  rw [T23]
  refine fn_eq rfl ?_
  simp only [ISI, EV0, EV1, EV2, EV3, EV4, EV5, EV6, EV7, EV8, EV9, EV10, EV11, SN, Nat.le_add_left, Nat.add_one_sub_one, reduceIte, Bool.false_eq_true, Nat.zero_le, eq_self, List.singleton_append, List.take_succ_cons, List.take_zero, List.drop_succ_cons, List.drop_zero, List.take_nil, List.drop_nil, Nat.reduceAdd, Nat.reduceSub, Nat.reduceMul, Nat.reduceDiv, Nat.reduceMod, Nat.reducePow, Nat.reduceLT, Nat.reduceLeDiff, Nat.reduceEqDiff, Int.reduceAdd, Int.reduceSub, Int.reduceMul, Int.reduceNeg, Int.reducePow, Int.reduceLT, Int.reduceLE, Int.reduceEq, Int.reduceToNat, List.length_cons, List.length_nil, List.length_append, List.length_map, List.length_replicate, List.map_cons, List.map_nil, List.getElem?_map, Option.map_some, List.cons_append, List.nil_append, decide_true, decide_false, Bool.not_true, Bool.not_false, Bool.and_true, Bool.true_and, Bool.and_false, Bool.false_and, Bool.or_true, Bool.true_or, Bool.or_false, Bool.false_or, Bool.not_not, ne_eq, not_false_eq_true, not_true_eq_false, true_and, and_true, List.append_assoc, Int.toNat_natCast, natsP_len, NC, s23, List.replicate, h]
def szs (n : Nat) : Nat → List Nat
  | 0 => []
  | k + 1 => szs n k ++ [10, n + k, n + k]
theorem szs_len (n : Nat) : ∀ k, (szs n k).length = 3 * k
  | 0 => rfl
  | k + 1 => by rw [szs, List.length_append, szs_len n k]; rfl
theorem szs_at (n : Nat) : ∀ {k i : Nat}, i < k → (szs n k)[3 * i]? = some 10 ∧ (szs n k)[3 * i + 1]? = some (n + i) ∧ (szs n k)[3 * i + 2]? = some (n + i)
  | k + 1, i, h => by
    have hl := szs_len n k
    rw [szs]
    by_cases hi : i < k
    · obtain ⟨a, b, c⟩ := szs_at n hi
      exact ⟨by rw [List.getElem?_append_left (by omega)]; exact a, by rw [List.getElem?_append_left (by omega)]; exact b, by rw [List.getElem?_append_left (by omega)]; exact c⟩
    · have e : i = k := by omega
      subst e
      exact ⟨by rw [List.getElem?_append_right (by omega), hl, Nat.sub_self]; rfl, by rw [List.getElem?_append_right (by omega), hl, show 3 * i + 1 - 3 * i = 1 by omega]; rfl, by rw [List.getElem?_append_right (by omega), hl, show 3 * i + 2 - 3 * i = 2 by omega]; rfl⟩
theorem szs_lt {n : Nat} : ∀ {k : Nat} {b : Nat}, b ∈ szs n k → b = 10 ∨ (n ≤ b ∧ b < n + k)
  | k + 1, b, h => by
    rcases List.mem_append.mp h with h | h
    · rcases szs_lt h with h | h
      · exact .inl h
      · exact .inr (by omega)
    · simp only [List.mem_cons, List.not_mem_nil, or_false] at h
      omega
theorem allWords {m : Nat} (hm : 2 ≤ m) : ∃ W : Nat → Int → Int, ∀ w : Nat, w ≤ 1000 → ∀ c : Int, T m 6 [.int c, .int (w : Nat)] = .ok (.int (W w c)) ∧ InW w (W w c) := by
  have wa : ∀ w : Nat, ∃ W : Int → Int, w ≤ 1000 → ∀ c : Int, T m 6 [.int c, .int (w : Nat)] = .ok (.int (W c)) ∧ InW w (W c) := fun w => by
    by_cases h : w ≤ 1000
    · obtain ⟨W, hW⟩ := wordsAt hm h
      exact ⟨W, fun _ => hW⟩
    · exact ⟨fun _ => 0, fun z => absurd z h⟩
  exact Classical.axiomOfChoice wa
theorem f__law_deed {m : Nat} (hm : 1 ≤ m) {n : Nat} (hn : 1 ≤ n) {ds : List Nat} (hd : DrawsN [20, 11, 11, 3, 11, 11, 3, 30, 4] ds) : ∃ d : Deed, T m 12 [.lst (natsP ds), .int (n : Nat)] = .ok d.pv ∧ d.ok n := by
  obtain ⟨m, rfl, hk⟩ := pos_of hm
  obtain ⟨d0, d1, d2, d3, d4, d5, d6, d7, d8, rfl, h0, h1, h2, h3, h4, h5, h6, h7, h8⟩ := hd.d9
  rw [T12]
  suffices h : ∃ d, fnDen 2 7 (s12 (T m)) [.lst (natsP [d0, d1, d2, d3, d4, d5, d6, d7, d8]), .int (n : Nat)] = .ok d ∧ ∃ e : Deed, d = e.pv ∧ e.ok n by
    obtain ⟨_, h, e, rfl, h'⟩ := h
    exact ⟨e, h, h'⟩
  refine fn_has rfl ?_
  have hn1 : ¬ n = 0 := by omega
  have b1 : d1 % n < n := Nat.mod_lt _ hn
  have b2 : d2 % n < n := Nat.mod_lt _ hn
  have b4 : d4 % n < n := Nat.mod_lt _ hn
  have b5 : d5 % n < n := Nat.mod_lt _ hn
  simp only [ISI, EV0, EV1, EV2, EV3, EV4, EV5, EV6, EV7, EV8, EV9, EV10, EV11, SN, Nat.le_add_left, Nat.add_one_sub_one, reduceIte, Bool.false_eq_true, Nat.zero_le, eq_self, List.singleton_append, List.take_succ_cons, List.take_zero, List.drop_succ_cons, List.drop_zero, List.take_nil, List.drop_nil, Nat.reduceAdd, Nat.reduceSub, Nat.reduceMul, Nat.reduceDiv, Nat.reduceMod, Nat.reducePow, Nat.reduceLT, Nat.reduceLeDiff, Nat.reduceEqDiff, Int.reduceAdd, Int.reduceSub, Int.reduceMul, Int.reduceNeg, Int.reducePow, Int.reduceLT, Int.reduceLE, Int.reduceEq, Int.reduceToNat, List.length_cons, List.length_nil, List.length_append, List.length_map, List.length_replicate, List.map_cons, List.map_nil, List.getElem?_map, Option.map_some, List.cons_append, List.nil_append, decide_true, decide_false, Bool.not_true, Bool.not_false, Bool.and_true, Bool.true_and, Bool.and_false, Bool.false_and, Bool.or_true, Bool.true_or, Bool.or_false, Bool.false_or, Bool.not_not, ne_eq, not_false_eq_true, not_true_eq_false, true_and, and_true, List.append_assoc, Int.toNat_natCast, natsP_len, NC, s12, natsP_cons, natsP_nil, List.replicate, hn1]
  by_cases h : 10 ≤ d0
  · simp only [ISI, EV0, EV1, EV2, EV3, EV4, EV5, EV6, EV7, EV8, EV9, EV10, EV11, SN, Nat.le_add_left, Nat.add_one_sub_one, reduceIte, Bool.false_eq_true, Nat.zero_le, eq_self, List.singleton_append, List.take_succ_cons, List.take_zero, List.drop_succ_cons, List.drop_zero, List.take_nil, List.drop_nil, Nat.reduceAdd, Nat.reduceSub, Nat.reduceMul, Nat.reduceDiv, Nat.reduceMod, Nat.reducePow, Nat.reduceLT, Nat.reduceLeDiff, Nat.reduceEqDiff, Int.reduceAdd, Int.reduceSub, Int.reduceMul, Int.reduceNeg, Int.reducePow, Int.reduceLT, Int.reduceLE, Int.reduceEq, Int.reduceToNat, List.length_cons, List.length_nil, List.length_append, List.length_map, List.length_replicate, List.map_cons, List.map_nil, List.getElem?_map, Option.map_some, List.cons_append, List.nil_append, decide_true, decide_false, Bool.not_true, Bool.not_false, Bool.and_true, Bool.true_and, Bool.and_false, Bool.false_and, Bool.or_true, Bool.true_or, Bool.or_false, Bool.false_or, Bool.not_not, ne_eq, not_false_eq_true, not_true_eq_false, true_and, and_true, List.append_assoc, Int.toNat_natCast, natsP_len, NC, h]
    have hp : ∃ p : Nat, (p = 2 ∨ p = 3 ∨ p = 5) ∧ [PV.int 2, .int 3, .int 5][d3]? = some (.int (p : Nat)) := by
      rcases (by omega : d3 = 0 ∨ d3 = 1 ∨ d3 = 2) with rfl | rfl | rfl
      · exact ⟨2, .inl rfl, rfl⟩
      · exact ⟨3, .inr (.inl rfl), rfl⟩
      · exact ⟨5, .inr (.inr rfl), rfl⟩
    obtain ⟨p, hp1, hp2⟩ := hp
    simp only [ISI, EV0, EV1, EV2, EV3, EV4, EV5, EV6, EV7, EV8, EV9, EV10, EV11, SN, Nat.le_add_left, Nat.add_one_sub_one, reduceIte, Bool.false_eq_true, Nat.zero_le, eq_self, List.singleton_append, List.take_succ_cons, List.take_zero, List.drop_succ_cons, List.drop_zero, List.take_nil, List.drop_nil, Nat.reduceAdd, Nat.reduceSub, Nat.reduceMul, Nat.reduceDiv, Nat.reduceMod, Nat.reducePow, Nat.reduceLT, Nat.reduceLeDiff, Nat.reduceEqDiff, Int.reduceAdd, Int.reduceSub, Int.reduceMul, Int.reduceNeg, Int.reducePow, Int.reduceLT, Int.reduceLE, Int.reduceEq, Int.reduceToNat, List.length_cons, List.length_nil, List.length_append, List.length_map, List.length_replicate, List.map_cons, List.map_nil, List.getElem?_map, Option.map_some, List.cons_append, List.nil_append, decide_true, decide_false, Bool.not_true, Bool.not_false, Bool.and_true, Bool.true_and, Bool.and_false, Bool.false_and, Bool.or_true, Bool.true_or, Bool.or_false, Bool.false_or, Bool.not_not, ne_eq, not_false_eq_true, not_true_eq_false, true_and, and_true, List.append_assoc, Int.toNat_natCast, natsP_len, NC, hp2, hn1]
    refine if_cut (fun e ρ' => ∃ a b c d : Nat, a < n ∧ b < n ∧ c < n ∧ d < n ∧ ρ' = e.set 6 (.fr (.lst [.int (a : Nat), .int (b : Nat), .int (c : Nat), .int (d : Nat)]))) ?_ ?_
    · by_cases hz : d6 = 0
      · subst hz; simp only [ISI, EV0, EV1, EV2, EV3, EV4, EV5, EV6, EV7, EV8, EV9, EV10, EV11, SN, Nat.le_add_left, Nat.add_one_sub_one, reduceIte, Bool.false_eq_true, Nat.zero_le, eq_self, List.singleton_append, List.take_succ_cons, List.take_zero, List.drop_succ_cons, List.drop_zero, List.take_nil, List.drop_nil, Nat.reduceAdd, Nat.reduceSub, Nat.reduceMul, Nat.reduceDiv, Nat.reduceMod, Nat.reducePow, Nat.reduceLT, Nat.reduceLeDiff, Nat.reduceEqDiff, Int.reduceAdd, Int.reduceSub, Int.reduceMul, Int.reduceNeg, Int.reducePow, Int.reduceLT, Int.reduceLE, Int.reduceEq, Int.reduceToNat, List.length_cons, List.length_nil, List.length_append, List.length_map, List.length_replicate, List.map_cons, List.map_nil, List.getElem?_map, Option.map_some, List.cons_append, List.nil_append, decide_true, decide_false, Bool.not_true, Bool.not_false, Bool.and_true, Bool.true_and, Bool.and_false, Bool.false_and, Bool.or_true, Bool.true_or, Bool.or_false, Bool.false_or, Bool.not_not, ne_eq, not_false_eq_true, not_true_eq_false, true_and, and_true, List.append_assoc, Int.toNat_natCast, natsP_len, NC]; exact ⟨_, _, _, _, b1, b2, b1, b2, rfl⟩
      · simp only [ISI, EV0, EV1, EV2, EV3, EV4, EV5, EV6, EV7, EV8, EV9, EV10, EV11, SN, Nat.le_add_left, Nat.add_one_sub_one, reduceIte, Bool.false_eq_true, Nat.zero_le, eq_self, List.singleton_append, List.take_succ_cons, List.take_zero, List.drop_succ_cons, List.drop_zero, List.take_nil, List.drop_nil, Nat.reduceAdd, Nat.reduceSub, Nat.reduceMul, Nat.reduceDiv, Nat.reduceMod, Nat.reducePow, Nat.reduceLT, Nat.reduceLeDiff, Nat.reduceEqDiff, Int.reduceAdd, Int.reduceSub, Int.reduceMul, Int.reduceNeg, Int.reducePow, Int.reduceLT, Int.reduceLE, Int.reduceEq, Int.reduceToNat, List.length_cons, List.length_nil, List.length_append, List.length_map, List.length_replicate, List.map_cons, List.map_nil, List.getElem?_map, Option.map_some, List.cons_append, List.nil_append, decide_true, decide_false, Bool.not_true, Bool.not_false, Bool.and_true, Bool.true_and, Bool.and_false, Bool.false_and, Bool.or_true, Bool.true_or, Bool.or_false, Bool.false_or, Bool.not_not, ne_eq, not_false_eq_true, not_true_eq_false, true_and, and_true, List.append_assoc, Int.toNat_natCast, natsP_len, NC, hz]; exact ⟨_, _, _, _, b1, b2, b4, b5, rfl⟩
    rintro _ ⟨a, b, c, d, ha, hb, hc, hdd, rfl⟩
    have key : ∀ ps : List Nat, 1 ≤ ps.length → ps.length ≤ 4 → (∀ i ∈ ps, i < n) → (Deed.count p (d7 % p) ps).ok n := fun ps h1 h2 h3 => ⟨hp1, Nat.mod_lt _ (by omega), h1, h2, h3⟩
    have k1 : ∀ i ∈ [a], i < n := by simp [ha]
    have k2 : ∀ i ∈ [a, b], i < n := by simp [ha, hb]
    have k3 : ∀ i ∈ [a, b, c], i < n := by simp [ha, hb, hc]
    have k4 : ∀ i ∈ [a, b, c, d], i < n := by simp [ha, hb, hc, hdd]
    rcases (by omega : d8 = 0 ∨ d8 = 1 ∨ d8 = 2 ∨ d8 = 3) with rfl | rfl | rfl | rfl
    all_goals simp only [ISI, EV0, EV1, EV2, EV3, EV4, EV5, EV6, EV7, EV8, EV9, EV10, EV11, SN, Nat.le_add_left, Nat.add_one_sub_one, reduceIte, Bool.false_eq_true, Nat.zero_le, eq_self, List.singleton_append, List.take_succ_cons, List.take_zero, List.drop_succ_cons, List.drop_zero, List.take_nil, List.drop_nil, Nat.reduceAdd, Nat.reduceSub, Nat.reduceMul, Nat.reduceDiv, Nat.reduceMod, Nat.reducePow, Nat.reduceLT, Nat.reduceLeDiff, Nat.reduceEqDiff, Int.reduceAdd, Int.reduceSub, Int.reduceMul, Int.reduceNeg, Int.reducePow, Int.reduceLT, Int.reduceLE, Int.reduceEq, Int.reduceToNat, List.length_cons, List.length_nil, List.length_append, List.length_map, List.length_replicate, List.map_cons, List.map_nil, List.getElem?_map, Option.map_some, List.cons_append, List.nil_append, decide_true, decide_false, Bool.not_true, Bool.not_false, Bool.and_true, Bool.true_and, Bool.and_false, Bool.false_and, Bool.or_true, Bool.true_or, Bool.or_false, Bool.false_or, Bool.not_not, ne_eq, not_false_eq_true, not_true_eq_false, true_and, and_true, List.append_assoc, Int.toNat_natCast, natsP_len, NC, (show ¬ p = 0 by omega)]
    · exact ⟨.count p (d7 % p) [a], rfl, key _ (Nat.le_of_ble_eq_true rfl) (Nat.le_of_ble_eq_true rfl) k1⟩
    · exact ⟨.count p (d7 % p) [a, b], rfl, key _ (Nat.le_of_ble_eq_true rfl) (Nat.le_of_ble_eq_true rfl) k2⟩
    · exact ⟨.count p (d7 % p) [a, b, c], rfl, key _ (Nat.le_of_ble_eq_true rfl) (Nat.le_of_ble_eq_true rfl) k3⟩
    · exact ⟨.count p (d7 % p) [a, b, c, d], rfl, key _ (Nat.le_of_ble_eq_true rfl) (Nat.le_of_ble_eq_true rfl) k4⟩
  · rcases (by omega : d0 = 0 ∨ d0 = 1 ∨ d0 = 2 ∨ d0 = 3 ∨ d0 = 4 ∨ d0 = 5 ∨ d0 = 6 ∨ d0 = 7 ∨ d0 = 8 ∨ d0 = 9) with rfl | rfl | rfl | rfl | rfl | rfl | rfl | rfl | rfl | rfl
    all_goals simp only [ISI, EV0, EV1, EV2, EV3, EV4, EV5, EV6, EV7, EV8, EV9, EV10, EV11, SN, Nat.le_add_left, Nat.add_one_sub_one, reduceIte, Bool.false_eq_true, Nat.zero_le, eq_self, List.singleton_append, List.take_succ_cons, List.take_zero, List.drop_succ_cons, List.drop_zero, List.take_nil, List.drop_nil, Nat.reduceAdd, Nat.reduceSub, Nat.reduceMul, Nat.reduceDiv, Nat.reduceMod, Nat.reducePow, Nat.reduceLT, Nat.reduceLeDiff, Nat.reduceEqDiff, Int.reduceAdd, Int.reduceSub, Int.reduceMul, Int.reduceNeg, Int.reducePow, Int.reduceLT, Int.reduceLE, Int.reduceEq, Int.reduceToNat, List.length_cons, List.length_nil, List.length_append, List.length_map, List.length_replicate, List.map_cons, List.map_nil, List.getElem?_map, Option.map_some, List.cons_append, List.nil_append, decide_true, decide_false, Bool.not_true, Bool.not_false, Bool.and_true, Bool.true_and, Bool.and_false, Bool.false_and, Bool.or_true, Bool.true_or, Bool.or_false, Bool.false_or, Bool.not_not, ne_eq, not_false_eq_true, not_true_eq_false, true_and, and_true, List.append_assoc, Int.toNat_natCast, natsP_len, NC, hn1]
    · exact ⟨.zero, rfl, trivial⟩
    · exact ⟨.ones, rfl, trivial⟩
    · exact ⟨.not (d1 % n), rfl, b1⟩
    · exact ⟨.and (d1 % n) (d2 % n), rfl, ⟨b1, b2⟩⟩
    · exact ⟨.or (d1 % n) (d2 % n), rfl, ⟨b1, b2⟩⟩
    · exact ⟨.xor (d1 % n) (d2 % n), rfl, ⟨b1, b2⟩⟩
    · exact ⟨.shift (d1 % n), rfl, b1⟩
    · exact ⟨.minus (d1 % n), rfl, b1⟩
    · exact ⟨.add (d1 % n) (d2 % n), rfl, ⟨b1, b2⟩⟩
    · exact ⟨.sub (d1 % n) (d2 % n), rfl, ⟨b1, b2⟩⟩
theorem f__law_deeds {m : Nat} (hm : 4 ≤ m) (ns : List Int) {k0 n k : Nat} (hn : 1 ≤ n) (hk2 : k ≤ 1000) : ∃ ds : List Deed, T m 3 [.scr (ns.map PV.int), .int (k0 : Nat), .int (n : Nat), .int (k : Nat)] = .ok (.lst (ds.map Deed.pv)) ∧ DeedsOk n ds ∧ ds.length = k := by
  obtain ⟨m, rfl, hk⟩ := pos_of hm
  rw [T3]
  obtain ⟨C, hC, hC'⟩ := cells (m := m) (by omega) ns
  suffices h : ∃ d, fnDen 4 7 (s3 (T m)) [.scr (ns.map PV.int), .int (k0 : Nat), .int (n : Nat), .int (k : Nat)] = .ok d ∧ ∃ ds : List Deed, d = .lst (ds.map Deed.pv) ∧ DeedsOk n ds ∧ ds.length = k by
    obtain ⟨_, h, ds, rfl, h'⟩ := h
    exact ⟨ds, h, h'⟩
  refine fn_has rfl ?_
  simp only [ISI, EV0, EV1, EV2, EV3, EV4, EV5, EV6, EV7, EV8, EV9, EV10, EV11, SN, Nat.le_add_left, Nat.add_one_sub_one, reduceIte, Bool.false_eq_true, Nat.zero_le, eq_self, List.singleton_append, List.take_succ_cons, List.take_zero, List.drop_succ_cons, List.drop_zero, List.take_nil, List.drop_nil, Nat.reduceAdd, Nat.reduceSub, Nat.reduceMul, Nat.reduceDiv, Nat.reduceMod, Nat.reducePow, Nat.reduceLT, Nat.reduceLeDiff, Nat.reduceEqDiff, Int.reduceAdd, Int.reduceSub, Int.reduceMul, Int.reduceNeg, Int.reducePow, Int.reduceLT, Int.reduceLE, Int.reduceEq, Int.reduceToNat, List.length_cons, List.length_nil, List.length_append, List.length_map, List.length_replicate, List.map_cons, List.map_nil, List.getElem?_map, Option.map_some, List.cons_append, List.nil_append, decide_true, decide_false, Bool.not_true, Bool.not_false, Bool.and_true, Bool.true_and, Bool.and_false, Bool.false_and, Bool.or_true, Bool.true_or, Bool.or_false, Bool.false_or, Bool.not_not, ne_eq, not_false_eq_true, not_true_eq_false, true_and, and_true, List.append_assoc, Int.toNat_natCast, natsP_len, NC, s3, List.replicate, (show k ≤ 1000000000 by omega)]
  refine loop_rng (fun e i ρ' => ∃ (dl : List Deed) (x y : Slot), dl.length = i ∧ DeedsOk n dl ∧ ρ' = ((e.set 4 (.ow (.lst (dl.map Deed.pv)))).set 5 x).set 6 y) ?_ ?_ ?_
  · exact ⟨[], .no, .no, rfl, trivial, rfl⟩
  · rintro i _ hi ⟨dl, x, y, hl, ho, rfl⟩
    obtain ⟨es, he, hes⟩ := f__law_drawsN (m := m) (by omega) (C (k0 + i)) [20, 11, 11, 3, 11, 11, 3, 30, 4] (by decide) (by decide)
    obtain ⟨d, hdd, hdo⟩ := f__law_deed (m := m) (by omega) (n := n + i) (by omega) hes
    simp only [ISI, EV0, EV1, EV2, EV3, EV4, EV5, EV6, EV7, EV8, EV9, EV10, EV11, SN, Nat.le_add_left, Nat.add_one_sub_one, reduceIte, Bool.false_eq_true, Nat.zero_le, eq_self, List.singleton_append, List.take_succ_cons, List.take_zero, List.drop_succ_cons, List.drop_zero, List.take_nil, List.drop_nil, Nat.reduceAdd, Nat.reduceSub, Nat.reduceMul, Nat.reduceDiv, Nat.reduceMod, Nat.reducePow, Nat.reduceLT, Nat.reduceLeDiff, Nat.reduceEqDiff, Int.reduceAdd, Int.reduceSub, Int.reduceMul, Int.reduceNeg, Int.reducePow, Int.reduceLT, Int.reduceLE, Int.reduceEq, Int.reduceToNat, List.length_cons, List.length_nil, List.length_append, List.length_map, List.length_replicate, List.map_cons, List.map_nil, List.getElem?_map, Option.map_some, List.cons_append, List.nil_append, decide_true, decide_false, Bool.not_true, Bool.not_false, Bool.and_true, Bool.true_and, Bool.and_false, Bool.false_and, Bool.or_true, Bool.true_or, Bool.or_false, Bool.false_or, Bool.not_not, ne_eq, not_false_eq_true, not_true_eq_false, true_and, and_true, List.append_assoc, Int.toNat_natCast, natsP_len, NC, natsP_cons, natsP_nil] at he
    simp only [ISI, EV0, EV1, EV2, EV3, EV4, EV5, EV6, EV7, EV8, EV9, EV10, EV11, SN, Nat.le_add_left, Nat.add_one_sub_one, reduceIte, Bool.false_eq_true, Nat.zero_le, eq_self, List.singleton_append, List.take_succ_cons, List.take_zero, List.drop_succ_cons, List.drop_zero, List.take_nil, List.drop_nil, Nat.reduceAdd, Nat.reduceSub, Nat.reduceMul, Nat.reduceDiv, Nat.reduceMod, Nat.reducePow, Nat.reduceLT, Nat.reduceLeDiff, Nat.reduceEqDiff, Int.reduceAdd, Int.reduceSub, Int.reduceMul, Int.reduceNeg, Int.reducePow, Int.reduceLT, Int.reduceLE, Int.reduceEq, Int.reduceToNat, List.length_cons, List.length_nil, List.length_append, List.length_map, List.length_replicate, List.map_cons, List.map_nil, List.getElem?_map, Option.map_some, List.cons_append, List.nil_append, decide_true, decide_false, Bool.not_true, Bool.not_false, Bool.and_true, Bool.true_and, Bool.and_false, Bool.false_and, Bool.or_true, Bool.true_or, Bool.or_false, Bool.false_or, Bool.not_not, ne_eq, not_false_eq_true, not_true_eq_false, true_and, and_true, List.append_assoc, Int.toNat_natCast, natsP_len, NC, hC, he, hdd, hl, (show i < 16777216 by omega)]
    refine ⟨dl ++ [d], .fr (.int (i : Nat)), .fr (.lst (natsP es)), by simp [hl], ho.snoc (by rw [hl]; exact hdo), ?_⟩
    rw [List.map_append]
    rfl
  rintro _ ⟨dl, x, y, hl, ho, rfl⟩
  simp only [ISI, EV0, EV1, EV2, EV3, EV4, EV5, EV6, EV7, EV8, EV9, EV10, EV11, SN, Nat.le_add_left, Nat.add_one_sub_one, reduceIte, Bool.false_eq_true, Nat.zero_le, eq_self, List.singleton_append, List.take_succ_cons, List.take_zero, List.drop_succ_cons, List.drop_zero, List.take_nil, List.drop_nil, Nat.reduceAdd, Nat.reduceSub, Nat.reduceMul, Nat.reduceDiv, Nat.reduceMod, Nat.reducePow, Nat.reduceLT, Nat.reduceLeDiff, Nat.reduceEqDiff, Int.reduceAdd, Int.reduceSub, Int.reduceMul, Int.reduceNeg, Int.reducePow, Int.reduceLT, Int.reduceLE, Int.reduceEq, Int.reduceToNat, List.length_cons, List.length_nil, List.length_append, List.length_map, List.length_replicate, List.map_cons, List.map_nil, List.getElem?_map, Option.map_some, List.cons_append, List.nil_append, decide_true, decide_false, Bool.not_true, Bool.not_false, Bool.and_true, Bool.true_and, Bool.and_false, Bool.false_and, Bool.or_true, Bool.true_or, Bool.or_false, Bool.false_or, Bool.not_not, ne_eq, not_false_eq_true, not_true_eq_false, true_and, and_true, List.append_assoc, Int.toNat_natCast, natsP_len]
  exact ⟨dl, rfl, ho, hl⟩
theorem count_pv (p r : Nat) (ps : List Nat) : (Deed.count p r ps).pv = .tup [.str "count", .int (p : Nat), .int (r : Nat), .tup (natsP ps)] := rfl
theorem nats_cmp (a b : List Nat) : oNe (.tup (natsP a)) (.tup (natsP b)) = .ok (.bl (!decide (a = b))) := by
  rw [((cd_nats a).1.dec (cd_nats b).1 (by decide)).2]
  congr 3
  rw [decide_eq_decide]
  exact ⟨fun h => nats_inj.mp (by injection h), fun h => by rw [h]⟩
theorem natsP_rev (a : List Nat) : (natsP a).reverse = natsP a.reverse := by unfold natsP; rw [List.map_reverse]
theorem natsP_last (a : List Nat) : (natsP a).dropLast = natsP a.dropLast := by unfold natsP; rw [List.map_dropLast]
theorem natsP_app (a : List Nat) (x : Nat) : natsP a ++ [PV.int (x : Nat)] = natsP (a ++ [x]) := by unfold natsP; rw [List.map_append]; rfl
theorem f__law_kept {m : Nat} (hm : 4 ≤ m) {n o : Nat} {ds : List Deed} (hl : ds.length ≤ 100000) (hq : ∀ d ∈ ds, ∀ p r ps, d = .count p r ps → ps.length ≤ 4) : T m 8 [rowOf n ds o, .lst (ds.map Deed.pv)] = .ok (.bl true) := by
  obtain ⟨m, rfl, hk⟩ := pos_of hm
  rw [T8]
  refine fn_eq rfl ?_
  simp only [ISI, EV0, EV1, EV2, EV3, EV4, EV5, EV6, EV7, EV8, EV9, EV10, EV11, SN, Nat.le_add_left, Nat.add_one_sub_one, reduceIte, Bool.false_eq_true, Nat.zero_le, eq_self, List.singleton_append, List.take_succ_cons, List.take_zero, List.drop_succ_cons, List.drop_zero, List.take_nil, List.drop_nil, Nat.reduceAdd, Nat.reduceSub, Nat.reduceMul, Nat.reduceDiv, Nat.reduceMod, Nat.reducePow, Nat.reduceLT, Nat.reduceLeDiff, Nat.reduceEqDiff, Int.reduceAdd, Int.reduceSub, Int.reduceMul, Int.reduceNeg, Int.reducePow, Int.reduceLT, Int.reduceLE, Int.reduceEq, Int.reduceToNat, List.length_cons, List.length_nil, List.length_append, List.length_map, List.length_replicate, List.map_cons, List.map_nil, List.getElem?_map, Option.map_some, List.cons_append, List.nil_append, decide_true, decide_false, Bool.not_true, Bool.not_false, Bool.and_true, Bool.true_and, Bool.and_false, Bool.false_and, Bool.or_true, Bool.true_or, Bool.or_false, Bool.false_or, Bool.not_not, ne_eq, not_false_eq_true, not_true_eq_false, true_and, and_true, List.append_assoc, Int.toNat_natCast, natsP_len, NC, s8, List.replicate, ROWS, ROWS2, f_Row____len__ (m := m) (by omega), (show ds.length ≤ 1000000000 by omega)]
  refine loop_rng (fun e i ρ' => ∃ x y, ρ' = (e.set 2 x).set 3 y) ?_ ?_ ?_
  · exact ⟨.no, .no, rfl⟩
  · rintro i _ hi ⟨x, y, rfl⟩
    have hd : ds[i]? = some ds[i] := List.getElem?_eq_getElem hi
    have hcd := hq ds[i] (List.getElem_mem hi)
    have q0 := f__law_same2 (m := m) (by omega) (l := []) (by decide) _ (.inl rfl)
    have q1 := fun a => f__law_same2 (m := m) (by omega) (l := [a]) (Nat.le_of_ble_eq_true rfl) _ (.inl rfl)
    have q2 := fun a b => f__law_same2 (m := m) (by omega) (l := [a, b]) (Nat.le_of_ble_eq_true rfl) _ (.inl rfl)
    simp only [natsP_cons, natsP_nil] at q0 q1 q2
    generalize ds[i] = d at hd hcd
    cases d with
    | count p r ps =>
      have q3 := f__law_same2 (m := m) (by omega) (l := ps) (by have := hcd p r ps rfl; omega) _ (.inl rfl)
      simp only [ISI, EV0, EV1, EV2, EV3, EV4, EV5, EV6, EV7, EV8, EV9, EV10, EV11, SN, Nat.le_add_left, Nat.add_one_sub_one, reduceIte, Bool.false_eq_true, Nat.zero_le, eq_self, List.singleton_append, List.take_succ_cons, List.take_zero, List.drop_succ_cons, List.drop_zero, List.take_nil, List.drop_nil, Nat.reduceAdd, Nat.reduceSub, Nat.reduceMul, Nat.reduceDiv, Nat.reduceMod, Nat.reducePow, Nat.reduceLT, Nat.reduceLeDiff, Nat.reduceEqDiff, Int.reduceAdd, Int.reduceSub, Int.reduceMul, Int.reduceNeg, Int.reducePow, Int.reduceLT, Int.reduceLE, Int.reduceEq, Int.reduceToNat, List.length_cons, List.length_nil, List.length_append, List.length_map, List.length_replicate, List.map_cons, List.map_nil, List.getElem?_map, Option.map_some, List.cons_append, List.nil_append, decide_true, decide_false, Bool.not_true, Bool.not_false, Bool.and_true, Bool.true_and, Bool.and_false, Bool.false_and, Bool.or_true, Bool.true_or, Bool.or_false, Bool.false_or, Bool.not_not, ne_eq, not_false_eq_true, not_true_eq_false, true_and, and_true, List.append_assoc, Int.toNat_natCast, natsP_len, NC, ROWS, hd, count_pv, q2, q3]
      exact ⟨_, _, rfl⟩
    | _ =>
      simp only [ISI, EV0, EV1, EV2, EV3, EV4, EV5, EV6, EV7, EV8, EV9, EV10, EV11, SN, Nat.le_add_left, Nat.add_one_sub_one, reduceIte, Bool.false_eq_true, Nat.zero_le, eq_self, List.singleton_append, List.take_succ_cons, List.take_zero, List.drop_succ_cons, List.drop_zero, List.take_nil, List.drop_nil, Nat.reduceAdd, Nat.reduceSub, Nat.reduceMul, Nat.reduceDiv, Nat.reduceMod, Nat.reducePow, Nat.reduceLT, Nat.reduceLeDiff, Nat.reduceEqDiff, Int.reduceAdd, Int.reduceSub, Int.reduceMul, Int.reduceNeg, Int.reducePow, Int.reduceLT, Int.reduceLE, Int.reduceEq, Int.reduceToNat, List.length_cons, List.length_nil, List.length_append, List.length_map, List.length_replicate, List.map_cons, List.map_nil, List.getElem?_map, Option.map_some, List.cons_append, List.nil_append, decide_true, decide_false, Bool.not_true, Bool.not_false, Bool.and_true, Bool.true_and, Bool.and_false, Bool.false_and, Bool.or_true, Bool.true_or, Bool.or_false, Bool.false_or, Bool.not_not, ne_eq, not_false_eq_true, not_true_eq_false, true_and, and_true, List.append_assoc, Int.toNat_natCast, natsP_len, NC, ROWS, hd, Deed.pv, q0, q1, q2]
      exact ⟨_, _, rfl⟩
  · rintro _ ⟨x, y, rfl⟩
    simp only [ISI, EV0, EV1, EV2, EV3, EV4, EV5, EV6, EV7, EV8, EV9, EV10, EV11, SN, Nat.le_add_left, Nat.add_one_sub_one, reduceIte, Bool.false_eq_true, Nat.zero_le, eq_self, List.singleton_append, List.take_succ_cons, List.take_zero, List.drop_succ_cons, List.drop_zero, List.take_nil, List.drop_nil, Nat.reduceAdd, Nat.reduceSub, Nat.reduceMul, Nat.reduceDiv, Nat.reduceMod, Nat.reducePow, Nat.reduceLT, Nat.reduceLeDiff, Nat.reduceEqDiff, Int.reduceAdd, Int.reduceSub, Int.reduceMul, Int.reduceNeg, Int.reducePow, Int.reduceLT, Int.reduceLE, Int.reduceEq, Int.reduceToNat, List.length_cons, List.length_nil, List.length_append, List.length_map, List.length_replicate, List.map_cons, List.map_nil, List.getElem?_map, Option.map_some, List.cons_append, List.nil_append, decide_true, decide_false, Bool.not_true, Bool.not_false, Bool.and_true, Bool.true_and, Bool.and_false, Bool.false_and, Bool.or_true, Bool.true_or, Bool.or_false, Bool.false_or, Bool.not_not, ne_eq, not_false_eq_true, not_true_eq_false, true_and, and_true, List.append_assoc, Int.toNat_natCast, natsP_len]
theorem f__law_told {m : Nat} (hm : 8 ≤ m) {n o w : Nat} {ds : List Deed} {ws : List Int} (hd : DeedsOk ws.length ds) (hws : ∀ x ∈ ws, InW w x) (hn : ws.length = n) (hw : w ≤ 1000) (hl : ws.length + ds.length ≤ 100000) (hl1 : ws.length ≤ 1000) (ho : o < ws.length + ds.length) : T m 7 [rowOf n ds o, .int (w : Nat), .lst (ws.map PV.int), .lst (ds.map Deed.pv), .int (o : Nat)] = .ok (.bl true) := by
  obtain ⟨m, rfl, hk⟩ := pos_of hm
  rw [T7]
  refine fn_eq rfl ?_
  have a1 := f_Row__all_words (m := m) (by omega) (out := o) hd hws hn hw hl hl1 _ (.inl rfl)
  have a2 := f_Row__all_words (m := m) (by omega) (out := o) hd hws hn hw hl hl1 _ (.inr rfl)
  have b1 := f_Row__write (m := m) (by omega) (out := o) hd hws hn hw hl hl1 ho _ (.inl rfl)
  have b2 := f_Row__write (m := m) (by omega) (out := o) hd hws hn hw hl hl1 ho _ (.inr rfl)
  have s1 := f__law_sameI (m := m) (by omega) (ns := rowWords w ws ds) (by rw [rowWords_len]; omega)
  have n1 := f__law_numbers (m := m) (by omega) (w := w) (ds := ds) (ws := ws) hd hws hw hl
  simp only [ISI, EV0, EV1, EV2, EV3, EV4, EV5, EV6, EV7, EV8, EV9, EV10, EV11, SN, Nat.le_add_left, Nat.add_one_sub_one, reduceIte, Bool.false_eq_true, Nat.zero_le, eq_self, List.singleton_append, List.take_succ_cons, List.take_zero, List.drop_succ_cons, List.drop_zero, List.take_nil, List.drop_nil, Nat.reduceAdd, Nat.reduceSub, Nat.reduceMul, Nat.reduceDiv, Nat.reduceMod, Nat.reducePow, Nat.reduceLT, Nat.reduceLeDiff, Nat.reduceEqDiff, Int.reduceAdd, Int.reduceSub, Int.reduceMul, Int.reduceNeg, Int.reducePow, Int.reduceLT, Int.reduceLE, Int.reduceEq, Int.reduceToNat, List.length_cons, List.length_nil, List.length_append, List.length_map, List.length_replicate, List.map_cons, List.map_nil, List.getElem?_map, Option.map_some, List.cons_append, List.nil_append, decide_true, decide_false, Bool.not_true, Bool.not_false, Bool.and_true, Bool.true_and, Bool.and_false, Bool.false_and, Bool.or_true, Bool.true_or, Bool.or_false, Bool.false_or, Bool.not_not, ne_eq, not_false_eq_true, not_true_eq_false, true_and, and_true, List.append_assoc, Int.toNat_natCast, natsP_len, s7, List.replicate, ROWS, ROWS2, n1, a1, a2, b1, b2, s1, (lay_ints ws).ne (by decide), ints_get (show o < (rowWords w ws ds).length by rw [rowWords_len]; exact ho), f__law_integer (m := m) (by omega)]
theorem f__law_near {m : Nat} (hm : 1 ≤ m) {n p r : Nat} {ps : List Nat} (h : (Deed.count p r ps).ok n) {d0 d1 d2 d3 : Nat} : ∃ es : List Deed, T m 22 [(Deed.count p r ps).pv, .int (n : Nat), .lst (natsP [d0, d1, d2, d3])] = .ok (.lst (es.map Deed.pv)) ∧ (∀ e ∈ es, e.ok n ∧ e ≠ Deed.count p r ps) ∧ es.length ≤ 10 := by
  obtain ⟨m, rfl, hk⟩ := pos_of hm
  rw [T22]
  suffices h : ∃ d, fnDen 3 11 (s22 (T m)) [(Deed.count p r ps).pv, .int (n : Nat), .lst (natsP [d0, d1, d2, d3])] = .ok d ∧ ∃ es : List Deed, d = .lst (es.map Deed.pv) ∧ (∀ e ∈ es, e.ok n ∧ e ≠ Deed.count p r ps) ∧ es.length ≤ 10 by
    obtain ⟨_, h, ds, rfl, h'⟩ := h
    exact ⟨ds, h, h'⟩
  refine fn_has rfl ?_
  obtain ⟨hp, hr, hl1, hl4, hpn⟩ := id h
  have hn0 : 0 < n := by
    cases ps with
    | nil => simp at hl1
    | cons a t => exact Nat.lt_of_le_of_lt (Nat.zero_le _) (hpn a List.mem_cons_self)
  have m2 : ∀ k : Nat, min2 (r : Int) (k : Int) = ((min r k : Nat) : Int) := fun k => by unfold min2; split <;> omega
  have mk : ∀ (q : Nat) (l : List Nat), q < p → 1 ≤ l.length → l.length ≤ 4 → (∀ i ∈ l, i < n) → (Deed.count p q l).ok n := fun q l a b c d => ⟨hp, a, b, c, d⟩
  let G : Nat → List Deed → Prop := fun k es => (∀ e ∈ es, e.ok n ∧ e ≠ Deed.count p r ps) ∧ es.length ≤ k
  have snoc : ∀ {k : Nat} {es : List Deed} {e : Deed}, G k es → e.ok n → e ≠ Deed.count p r ps → G (k + 1) (es ++ [e]) := fun h a b => ⟨fun e he => by
    rcases List.mem_append.mp he with he | he
    · exact h.1 e he
    · rw [List.mem_singleton.mp he]; exact ⟨a, b⟩, by rw [List.length_append]; show _ + 1 ≤ _; have := h.2; omega⟩
  have step : ∀ (es : List Deed) (e : Deed), es.map Deed.pv ++ [e.pv] = (es ++ [e]).map Deed.pv := fun es e => by rw [List.map_append]; rfl
  have up : ∀ {k : Nat} {es : List Deed}, G k es → G (k + 1) es := fun h => ⟨h.1, by have := h.2; omega⟩
  obtain ⟨w1, w2⟩ := mod_ne (z := d0) hr (by omega)
  have k0 : G 0 [] := ⟨fun e he => by simp at he, Nat.le_refl _⟩
  have oth : ∀ q : Nat, (q = 2 ∨ q = 3 ∨ q = 5) → q ≠ p → (Deed.count q (min r (q - 1)) ps).ok n ∧ Deed.count q (min r (q - 1)) ps ≠ Deed.count p r ps := fun q hq hne => ⟨⟨hq, by omega, hl1, hl4, hpn⟩, fun e => hne (by injection e)⟩
  simp only [ISI, EV0, EV1, EV2, EV3, EV4, EV5, EV6, EV7, EV8, EV9, EV10, EV11, SN, Nat.le_add_left, Nat.add_one_sub_one, reduceIte, Bool.false_eq_true, Nat.zero_le, eq_self, List.singleton_append, List.take_succ_cons, List.take_zero, List.drop_succ_cons, List.drop_zero, List.take_nil, List.drop_nil, Nat.reduceAdd, Nat.reduceSub, Nat.reduceMul, Nat.reduceDiv, Nat.reduceMod, Nat.reducePow, Nat.reduceLT, Nat.reduceLeDiff, Nat.reduceEqDiff, Int.reduceAdd, Int.reduceSub, Int.reduceMul, Int.reduceNeg, Int.reducePow, Int.reduceLT, Int.reduceLE, Int.reduceEq, Int.reduceToNat, List.length_cons, List.length_nil, List.length_append, List.length_map, List.length_replicate, List.map_cons, List.map_nil, List.getElem?_map, Option.map_some, List.cons_append, List.nil_append, decide_true, decide_false, Bool.not_true, Bool.not_false, Bool.and_true, Bool.true_and, Bool.and_false, Bool.false_and, Bool.or_true, Bool.true_or, Bool.or_false, Bool.false_or, Bool.not_not, ne_eq, not_false_eq_true, not_true_eq_false, true_and, and_true, List.append_assoc, Int.toNat_natCast, natsP_len, NC, s22, List.replicate, count_pv, natsP_cons, natsP_nil]
  refine loop_at (fun e i ρ' => ∃ (es : List Deed) (x : Slot), G i es ∧ ρ' = (e.set 7 (.ow (.lst (es.map Deed.pv)))).set 8 x) ?_ ?_ ?_
  · exact ⟨[], .no, k0, rfl⟩
  · rintro i d _ hd ⟨es, x, hG, rfl⟩
    have hq : ∃ q : Nat, (q = 2 ∨ q = 3 ∨ q = 5) ∧ d = .int (q : Nat) := by
      match i, hd with
      | 0, hd => exact ⟨2, by simp, by cases hd; rfl⟩
      | 1, hd => exact ⟨3, by simp, by cases hd; rfl⟩
      | 2, hd => exact ⟨5, by simp, by cases hd; rfl⟩
      | i + 3, hd => simp at hd
    obtain ⟨q, hq, rfl⟩ := hq
    by_cases hqp : q = p
    · simp only [ISI, EV0, EV1, EV2, EV3, EV4, EV5, EV6, EV7, EV8, EV9, EV10, EV11, SN, Nat.le_add_left, Nat.add_one_sub_one, reduceIte, Bool.false_eq_true, Nat.zero_le, eq_self, List.singleton_append, List.take_succ_cons, List.take_zero, List.drop_succ_cons, List.drop_zero, List.take_nil, List.drop_nil, Nat.reduceAdd, Nat.reduceSub, Nat.reduceMul, Nat.reduceDiv, Nat.reduceMod, Nat.reducePow, Nat.reduceLT, Nat.reduceLeDiff, Nat.reduceEqDiff, Int.reduceAdd, Int.reduceSub, Int.reduceMul, Int.reduceNeg, Int.reducePow, Int.reduceLT, Int.reduceLE, Int.reduceEq, Int.reduceToNat, List.length_cons, List.length_nil, List.length_append, List.length_map, List.length_replicate, List.map_cons, List.map_nil, List.getElem?_map, Option.map_some, List.cons_append, List.nil_append, decide_true, decide_false, Bool.not_true, Bool.not_false, Bool.and_true, Bool.true_and, Bool.and_false, Bool.false_and, Bool.or_true, Bool.true_or, Bool.or_false, Bool.false_or, Bool.not_not, ne_eq, not_false_eq_true, not_true_eq_false, true_and, and_true, List.append_assoc, Int.toNat_natCast, natsP_len, NC, hqp]
      exact ⟨es, _, up hG, rfl⟩
    · have hi3 : i < 3 := (List.getElem?_eq_some_iff.mp hd).1
      simp only [ISI, EV0, EV1, EV2, EV3, EV4, EV5, EV6, EV7, EV8, EV9, EV10, EV11, SN, Nat.le_add_left, Nat.add_one_sub_one, reduceIte, Bool.false_eq_true, Nat.zero_le, eq_self, List.singleton_append, List.take_succ_cons, List.take_zero, List.drop_succ_cons, List.drop_zero, List.take_nil, List.drop_nil, Nat.reduceAdd, Nat.reduceSub, Nat.reduceMul, Nat.reduceDiv, Nat.reduceMod, Nat.reducePow, Nat.reduceLT, Nat.reduceLeDiff, Nat.reduceEqDiff, Int.reduceAdd, Int.reduceSub, Int.reduceMul, Int.reduceNeg, Int.reducePow, Int.reduceLT, Int.reduceLE, Int.reduceEq, Int.reduceToNat, List.length_cons, List.length_nil, List.length_append, List.length_map, List.length_replicate, List.map_cons, List.map_nil, List.getElem?_map, Option.map_some, List.cons_append, List.nil_append, decide_true, decide_false, Bool.not_true, Bool.not_false, Bool.and_true, Bool.true_and, Bool.and_false, Bool.false_and, Bool.or_true, Bool.true_or, Bool.or_false, Bool.false_or, Bool.not_not, ne_eq, not_false_eq_true, not_true_eq_false, true_and, and_true, List.append_assoc, Int.toNat_natCast, natsP_len, NC, hqp, (show 1 ≤ q by omega), m2, (show es.length < 16777216 by have := hG.2; omega)]
      refine ⟨es ++ [Deed.count q (min r (q - 1)) ps], .fr (.int (q : Nat)), snoc hG (oth q hq hqp).1 (oth q hq hqp).2, ?_⟩
      rw [← step, count_pv]
  rintro _ ⟨es, x, hG, rfl⟩
  have hG : G 3 es := hG
  have hesl := hG.2
  simp only [ISI, EV0, EV1, EV2, EV3, EV4, EV5, EV6, EV7, EV8, EV9, EV10, EV11, SN, Nat.le_add_left, Nat.add_one_sub_one, reduceIte, Bool.false_eq_true, Nat.zero_le, eq_self, List.singleton_append, List.take_succ_cons, List.take_zero, List.drop_succ_cons, List.drop_zero, List.take_nil, List.drop_nil, Nat.reduceAdd, Nat.reduceSub, Nat.reduceMul, Nat.reduceDiv, Nat.reduceMod, Nat.reducePow, Nat.reduceLT, Nat.reduceLeDiff, Nat.reduceEqDiff, Int.reduceAdd, Int.reduceSub, Int.reduceMul, Int.reduceNeg, Int.reducePow, Int.reduceLT, Int.reduceLE, Int.reduceEq, Int.reduceToNat, List.length_cons, List.length_nil, List.length_append, List.length_map, List.length_replicate, List.map_cons, List.map_nil, List.getElem?_map, Option.map_some, List.cons_append, List.nil_append, decide_true, decide_false, Bool.not_true, Bool.not_false, Bool.and_true, Bool.true_and, Bool.and_false, Bool.false_and, Bool.or_true, Bool.true_or, Bool.or_false, Bool.false_or, Bool.not_not, ne_eq, not_false_eq_true, not_true_eq_false, true_and, and_true, List.append_assoc, Int.toNat_natCast, natsP_len, NC, (show 1 ≤ p by omega), (show ¬ p - 1 = 0 by omega), (show ¬ p = 0 by omega), (show es.length < 16777216 by omega)]
  have c4 : es.map Deed.pv ++ [PV.tup [.str "count", .int (p : Nat), .int (((r + 1 + d0 % (p - 1)) % p : Nat) : Int), .tup (natsP ps)]] = (es ++ [Deed.count p ((r + 1 + d0 % (p - 1)) % p) ps]).map Deed.pv := by rw [← step, count_pv]
  rw [c4]
  have hG4 : G 4 (es ++ [Deed.count p ((r + 1 + d0 % (p - 1)) % p) ps]) := snoc hG (mk _ ps w2 hl1 hl4 hpn) (fun e => w1 (by injection e))
  generalize es ++ [Deed.count p ((r + 1 + d0 % (p - 1)) % p) ps] = es4 at hG4 ⊢
  have h4l := hG4.2
  refine if_cut (fun e ρ' => ∃ (es : List Deed), G 5 es ∧ ρ' = e.set 7 (.ow (.lst (es.map Deed.pv)))) ?_ ?_
  · by_cases hz : ps.length < 4
    · simp only [ISI, EV0, EV1, EV2, EV3, EV4, EV5, EV6, EV7, EV8, EV9, EV10, EV11, SN, Nat.le_add_left, Nat.add_one_sub_one, reduceIte, Bool.false_eq_true, Nat.zero_le, eq_self, List.singleton_append, List.take_succ_cons, List.take_zero, List.drop_succ_cons, List.drop_zero, List.take_nil, List.drop_nil, Nat.reduceAdd, Nat.reduceSub, Nat.reduceMul, Nat.reduceDiv, Nat.reduceMod, Nat.reducePow, Nat.reduceLT, Nat.reduceLeDiff, Nat.reduceEqDiff, Int.reduceAdd, Int.reduceSub, Int.reduceMul, Int.reduceNeg, Int.reducePow, Int.reduceLT, Int.reduceLE, Int.reduceEq, Int.reduceToNat, List.length_cons, List.length_nil, List.length_append, List.length_map, List.length_replicate, List.map_cons, List.map_nil, List.getElem?_map, Option.map_some, List.cons_append, List.nil_append, decide_true, decide_false, Bool.not_true, Bool.not_false, Bool.and_true, Bool.true_and, Bool.and_false, Bool.false_and, Bool.or_true, Bool.true_or, Bool.or_false, Bool.false_or, Bool.not_not, ne_eq, not_false_eq_true, not_true_eq_false, true_and, and_true, List.append_assoc, Int.toNat_natCast, natsP_len, NC, hz, (show ¬ n = 0 by omega), (show es4.length < 16777216 by omega), (show ps.length + 1 ≤ 1000000 by omega), natsP_app]
      refine ⟨es4 ++ [Deed.count p r (ps ++ [d1 % n])], snoc hG4 (mk r _ hr (by rw [List.length_append]; omega) (by rw [List.length_append]; show ps.length + 1 ≤ 4; omega) fun i hi => ?_) (fun e => ?_), by rw [← step, count_pv]⟩
      · rcases List.mem_append.mp hi with hi | hi
        · exact hpn i hi
        · rw [List.mem_singleton.mp hi]; exact Nat.mod_lt _ hn0
      · have : ps ++ [d1 % n] = ps := by injection e
        have := congrArg List.length this
        rw [List.length_append] at this
        simp at this
    · simp only [ISI, EV0, EV1, EV2, EV3, EV4, EV5, EV6, EV7, EV8, EV9, EV10, EV11, SN, Nat.le_add_left, Nat.add_one_sub_one, reduceIte, Bool.false_eq_true, Nat.zero_le, eq_self, List.singleton_append, List.take_succ_cons, List.take_zero, List.drop_succ_cons, List.drop_zero, List.take_nil, List.drop_nil, Nat.reduceAdd, Nat.reduceSub, Nat.reduceMul, Nat.reduceDiv, Nat.reduceMod, Nat.reducePow, Nat.reduceLT, Nat.reduceLeDiff, Nat.reduceEqDiff, Int.reduceAdd, Int.reduceSub, Int.reduceMul, Int.reduceNeg, Int.reducePow, Int.reduceLT, Int.reduceLE, Int.reduceEq, Int.reduceToNat, List.length_cons, List.length_nil, List.length_append, List.length_map, List.length_replicate, List.map_cons, List.map_nil, List.getElem?_map, Option.map_some, List.cons_append, List.nil_append, decide_true, decide_false, Bool.not_true, Bool.not_false, Bool.and_true, Bool.true_and, Bool.and_false, Bool.false_and, Bool.or_true, Bool.true_or, Bool.or_false, Bool.false_or, Bool.not_not, ne_eq, not_false_eq_true, not_true_eq_false, true_and, and_true, List.append_assoc, Int.toNat_natCast, natsP_len, NC, hz]
      exact ⟨es4, up hG4, rfl⟩
  rintro _ ⟨es5, hG5, rfl⟩
  have h5l := hG5.2
  simp only [ISI, EV0, EV1, EV2, EV3, EV4, EV5, EV6, EV7, EV8, EV9, EV10, EV11, SN, Nat.le_add_left, Nat.add_one_sub_one, reduceIte, Bool.false_eq_true, Nat.zero_le, eq_self, List.singleton_append, List.take_succ_cons, List.take_zero, List.drop_succ_cons, List.drop_zero, List.take_nil, List.drop_nil, Nat.reduceAdd, Nat.reduceSub, Nat.reduceMul, Nat.reduceDiv, Nat.reduceMod, Nat.reducePow, Nat.reduceLT, Nat.reduceLeDiff, Nat.reduceEqDiff, Int.reduceAdd, Int.reduceSub, Int.reduceMul, Int.reduceNeg, Int.reducePow, Int.reduceLT, Int.reduceLE, Int.reduceEq, Int.reduceToNat, List.length_cons, List.length_nil, List.length_append, List.length_map, List.length_replicate, List.map_cons, List.map_nil, List.getElem?_map, Option.map_some, List.cons_append, List.nil_append, decide_true, decide_false, Bool.not_true, Bool.not_false, Bool.and_true, Bool.true_and, Bool.and_false, Bool.false_and, Bool.or_true, Bool.true_or, Bool.or_false, Bool.false_or, Bool.not_not, ne_eq, not_false_eq_true, not_true_eq_false, true_and, and_true, List.append_assoc, Int.toNat_natCast, natsP_len, NC]
  refine if_cut (fun e ρ' => ∃ (es : List Deed), G 6 es ∧ ρ' = e.set 7 (.ow (.lst (es.map Deed.pv)))) ?_ ?_
  · by_cases hz : 1 < ps.length
    · simp only [ISI, EV0, EV1, EV2, EV3, EV4, EV5, EV6, EV7, EV8, EV9, EV10, EV11, SN, Nat.le_add_left, Nat.add_one_sub_one, reduceIte, Bool.false_eq_true, Nat.zero_le, eq_self, List.singleton_append, List.take_succ_cons, List.take_zero, List.drop_succ_cons, List.drop_zero, List.take_nil, List.drop_nil, Nat.reduceAdd, Nat.reduceSub, Nat.reduceMul, Nat.reduceDiv, Nat.reduceMod, Nat.reducePow, Nat.reduceLT, Nat.reduceLeDiff, Nat.reduceEqDiff, Int.reduceAdd, Int.reduceSub, Int.reduceMul, Int.reduceNeg, Int.reducePow, Int.reduceLT, Int.reduceLE, Int.reduceEq, Int.reduceToNat, List.length_cons, List.length_nil, List.length_append, List.length_map, List.length_replicate, List.map_cons, List.map_nil, List.getElem?_map, Option.map_some, List.cons_append, List.nil_append, decide_true, decide_false, Bool.not_true, Bool.not_false, Bool.and_true, Bool.true_and, Bool.and_false, Bool.false_and, Bool.or_true, Bool.true_or, Bool.or_false, Bool.false_or, Bool.not_not, ne_eq, not_false_eq_true, not_true_eq_false, true_and, and_true, List.append_assoc, Int.toNat_natCast, natsP_len, NC, hz, (show es5.length < 16777216 by omega), natsP_last]
      refine ⟨es5 ++ [Deed.count p r ps.dropLast], snoc hG5 (mk r _ hr (by rw [List.length_dropLast]; omega) (by rw [List.length_dropLast]; omega) fun i hi => hpn i (List.dropLast_subset _ hi)) (fun e => ?_), by rw [← step, count_pv]⟩
      have : ps.dropLast = ps := by injection e
      have := congrArg List.length this
      rw [List.length_dropLast] at this
      omega
    · simp only [ISI, EV0, EV1, EV2, EV3, EV4, EV5, EV6, EV7, EV8, EV9, EV10, EV11, SN, Nat.le_add_left, Nat.add_one_sub_one, reduceIte, Bool.false_eq_true, Nat.zero_le, eq_self, List.singleton_append, List.take_succ_cons, List.take_zero, List.drop_succ_cons, List.drop_zero, List.take_nil, List.drop_nil, Nat.reduceAdd, Nat.reduceSub, Nat.reduceMul, Nat.reduceDiv, Nat.reduceMod, Nat.reducePow, Nat.reduceLT, Nat.reduceLeDiff, Nat.reduceEqDiff, Int.reduceAdd, Int.reduceSub, Int.reduceMul, Int.reduceNeg, Int.reducePow, Int.reduceLT, Int.reduceLE, Int.reduceEq, Int.reduceToNat, List.length_cons, List.length_nil, List.length_append, List.length_map, List.length_replicate, List.map_cons, List.map_nil, List.getElem?_map, Option.map_some, List.cons_append, List.nil_append, decide_true, decide_false, Bool.not_true, Bool.not_false, Bool.and_true, Bool.true_and, Bool.and_false, Bool.false_and, Bool.or_true, Bool.true_or, Bool.or_false, Bool.false_or, Bool.not_not, ne_eq, not_false_eq_true, not_true_eq_false, true_and, and_true, List.append_assoc, Int.toNat_natCast, natsP_len, NC, hz]
      exact ⟨es5, up hG5, rfl⟩
  rintro _ ⟨es6, hG6, rfl⟩
  have h6l := hG6.2
  simp only [ISI, EV0, EV1, EV2, EV3, EV4, EV5, EV6, EV7, EV8, EV9, EV10, EV11, SN, Nat.le_add_left, Nat.add_one_sub_one, reduceIte, Bool.false_eq_true, Nat.zero_le, eq_self, List.singleton_append, List.take_succ_cons, List.take_zero, List.drop_succ_cons, List.drop_zero, List.take_nil, List.drop_nil, Nat.reduceAdd, Nat.reduceSub, Nat.reduceMul, Nat.reduceDiv, Nat.reduceMod, Nat.reducePow, Nat.reduceLT, Nat.reduceLeDiff, Nat.reduceEqDiff, Int.reduceAdd, Int.reduceSub, Int.reduceMul, Int.reduceNeg, Int.reducePow, Int.reduceLT, Int.reduceLE, Int.reduceEq, Int.reduceToNat, List.length_cons, List.length_nil, List.length_append, List.length_map, List.length_replicate, List.map_cons, List.map_nil, List.getElem?_map, Option.map_some, List.cons_append, List.nil_append, decide_true, decide_false, Bool.not_true, Bool.not_false, Bool.and_true, Bool.true_and, Bool.and_false, Bool.false_and, Bool.or_true, Bool.true_or, Bool.or_false, Bool.false_or, Bool.not_not, ne_eq, not_false_eq_true, not_true_eq_false, true_and, and_true, List.append_assoc, Int.toNat_natCast, natsP_len, NC, natsP_rev, nats_cmp]
  refine if_cut (fun e ρ' => ∃ (es : List Deed), G 7 es ∧ ρ' = e.set 7 (.ow (.lst (es.map Deed.pv)))) ?_ ?_
  · by_cases hz : ps = ps.reverse
    · have hb : decide (ps = ps.reverse) = true := decide_eq_true hz
      simp only [ISI, EV0, EV1, EV2, EV3, EV4, EV5, EV6, EV7, EV8, EV9, EV10, EV11, SN, Nat.le_add_left, Nat.add_one_sub_one, reduceIte, Bool.false_eq_true, Nat.zero_le, eq_self, List.singleton_append, List.take_succ_cons, List.take_zero, List.drop_succ_cons, List.drop_zero, List.take_nil, List.drop_nil, Nat.reduceAdd, Nat.reduceSub, Nat.reduceMul, Nat.reduceDiv, Nat.reduceMod, Nat.reducePow, Nat.reduceLT, Nat.reduceLeDiff, Nat.reduceEqDiff, Int.reduceAdd, Int.reduceSub, Int.reduceMul, Int.reduceNeg, Int.reducePow, Int.reduceLT, Int.reduceLE, Int.reduceEq, Int.reduceToNat, List.length_cons, List.length_nil, List.length_append, List.length_map, List.length_replicate, List.map_cons, List.map_nil, List.getElem?_map, Option.map_some, List.cons_append, List.nil_append, decide_true, decide_false, Bool.not_true, Bool.not_false, Bool.and_true, Bool.true_and, Bool.and_false, Bool.false_and, Bool.or_true, Bool.true_or, Bool.or_false, Bool.false_or, Bool.not_not, ne_eq, not_false_eq_true, not_true_eq_false, true_and, and_true, List.append_assoc, Int.toNat_natCast, natsP_len, NC, hb]
      exact ⟨es6, up hG6, rfl⟩
    · have hb : decide (ps = ps.reverse) = false := decide_eq_false hz
      simp only [ISI, EV0, EV1, EV2, EV3, EV4, EV5, EV6, EV7, EV8, EV9, EV10, EV11, SN, Nat.le_add_left, Nat.add_one_sub_one, reduceIte, Bool.false_eq_true, Nat.zero_le, eq_self, List.singleton_append, List.take_succ_cons, List.take_zero, List.drop_succ_cons, List.drop_zero, List.take_nil, List.drop_nil, Nat.reduceAdd, Nat.reduceSub, Nat.reduceMul, Nat.reduceDiv, Nat.reduceMod, Nat.reducePow, Nat.reduceLT, Nat.reduceLeDiff, Nat.reduceEqDiff, Int.reduceAdd, Int.reduceSub, Int.reduceMul, Int.reduceNeg, Int.reducePow, Int.reduceLT, Int.reduceLE, Int.reduceEq, Int.reduceToNat, List.length_cons, List.length_nil, List.length_append, List.length_map, List.length_replicate, List.map_cons, List.map_nil, List.getElem?_map, Option.map_some, List.cons_append, List.nil_append, decide_true, decide_false, Bool.not_true, Bool.not_false, Bool.and_true, Bool.true_and, Bool.and_false, Bool.false_and, Bool.or_true, Bool.true_or, Bool.or_false, Bool.false_or, Bool.not_not, ne_eq, not_false_eq_true, not_true_eq_false, true_and, and_true, List.append_assoc, Int.toNat_natCast, natsP_len, NC, hb, natsP_rev, (show es6.length < 16777216 by omega)]
      refine ⟨es6 ++ [Deed.count p r ps.reverse], snoc hG6 (mk r _ hr (by rw [List.length_reverse]; exact hl1) (by rw [List.length_reverse]; exact hl4) fun i hi => hpn i (List.mem_reverse.mp hi)) (fun e => hz ?_), by rw [← step, count_pv]⟩
      have : ps.reverse = ps := by injection e
      exact this.symm
  rintro _ ⟨es7, hG7, rfl⟩
  have h7l := hG7.2
  simp only [ISI, EV0, EV1, EV2, EV3, EV4, EV5, EV6, EV7, EV8, EV9, EV10, EV11, SN, Nat.le_add_left, Nat.add_one_sub_one, reduceIte, Bool.false_eq_true, Nat.zero_le, eq_self, List.singleton_append, List.take_succ_cons, List.take_zero, List.drop_succ_cons, List.drop_zero, List.take_nil, List.drop_nil, Nat.reduceAdd, Nat.reduceSub, Nat.reduceMul, Nat.reduceDiv, Nat.reduceMod, Nat.reducePow, Nat.reduceLT, Nat.reduceLeDiff, Nat.reduceEqDiff, Int.reduceAdd, Int.reduceSub, Int.reduceMul, Int.reduceNeg, Int.reducePow, Int.reduceLT, Int.reduceLE, Int.reduceEq, Int.reduceToNat, List.length_cons, List.length_nil, List.length_append, List.length_map, List.length_replicate, List.map_cons, List.map_nil, List.getElem?_map, Option.map_some, List.cons_append, List.nil_append, decide_true, decide_false, Bool.not_true, Bool.not_false, Bool.and_true, Bool.true_and, Bool.and_false, Bool.false_and, Bool.or_true, Bool.true_or, Bool.or_false, Bool.false_or, Bool.not_not, ne_eq, not_false_eq_true, not_true_eq_false, true_and, and_true, List.append_assoc, Int.toNat_natCast, natsP_len, NC]
  refine if_cut (fun e ρ' => ∃ (es : List Deed) (x y : Slot), G 8 es ∧ ρ' = ((e.set 7 (.ow (.lst (es.map Deed.pv)))).set 9 x).set 10 y) ?_ ?_
  · by_cases hz : 1 < n
    · have hlt : d1 % ps.length < ps.length := Nat.mod_lt _ (by omega)
      simp only [ISI, EV0, EV1, EV2, EV3, EV4, EV5, EV6, EV7, EV8, EV9, EV10, EV11, SN, Nat.le_add_left, Nat.add_one_sub_one, reduceIte, Bool.false_eq_true, Nat.zero_le, eq_self, List.singleton_append, List.take_succ_cons, List.take_zero, List.drop_succ_cons, List.drop_zero, List.take_nil, List.drop_nil, Nat.reduceAdd, Nat.reduceSub, Nat.reduceMul, Nat.reduceDiv, Nat.reduceMod, Nat.reducePow, Nat.reduceLT, Nat.reduceLeDiff, Nat.reduceEqDiff, Int.reduceAdd, Int.reduceSub, Int.reduceMul, Int.reduceNeg, Int.reducePow, Int.reduceLT, Int.reduceLE, Int.reduceEq, Int.reduceToNat, List.length_cons, List.length_nil, List.length_append, List.length_map, List.length_replicate, List.map_cons, List.map_nil, List.getElem?_map, Option.map_some, List.cons_append, List.nil_append, decide_true, decide_false, Bool.not_true, Bool.not_false, Bool.and_true, Bool.true_and, Bool.and_false, Bool.false_and, Bool.or_true, Bool.true_or, Bool.or_false, Bool.false_or, Bool.not_not, ne_eq, not_false_eq_true, not_true_eq_false, true_and, and_true, List.append_assoc, Int.toNat_natCast, natsP_len, NC, hz, (show ¬ ps.length = 0 by omega), nats_get hlt, (show 1 ≤ n by omega), (show ¬ n - 1 = 0 by omega), (show ¬ n = 0 by omega), List.length_take, List.length_drop, (show min (d1 % ps.length) ps.length + 1 ≤ 1000000 by omega), (show min (d1 % ps.length) ps.length + 1 + (ps.length - (d1 % ps.length + 1)) ≤ 1000000 by omega), (show es7.length < 16777216 by omega)]
      generalize d1 % ps.length = i at hlt ⊢
      have hin := hpn _ (getD_memN hlt)
      obtain ⟨v1, v2⟩ := mod_ne (z := d2) hin hz
      have hg : ps[i]? = some (ps.getD i 0) := by rw [List.getD_eq_getElem?_getD, List.getElem?_eq_getElem hlt]; rfl
      generalize ps.getD i 0 = a at hin v1 v2 hg ⊢
      generalize (a + 1 + d2 % (n - 1)) % n = b at v1 v2 ⊢
      have e9 : (natsP ps).take i ++ PV.int (b : Nat) :: (natsP ps).drop (i + 1) = natsP (ps.set i b) := by
        rw [← nats_set, List.set_eq_take_append_cons_drop, if_pos (by rw [natsP_len]; exact hlt)]
      rw [e9]
      refine ⟨es7 ++ [Deed.count p r (ps.set i b)], _, _, snoc hG7 (mk r _ hr (by rw [List.length_set]; exact hl1) (by rw [List.length_set]; exact hl4) fun j hj => ?_) (fun e => v1 ?_), by rw [← step, count_pv]⟩
      · rcases List.mem_or_eq_of_mem_set hj with hj | rfl
        · exact hpn j hj
        · exact v2
      · have e2 : ps.set i b = ps := by injection e
        have : (ps.set i b)[i]? = some a := by rw [e2]; exact hg
        rw [List.getElem?_set_self hlt] at this
        exact Option.some.inj this
    · simp only [ISI, EV0, EV1, EV2, EV3, EV4, EV5, EV6, EV7, EV8, EV9, EV10, EV11, SN, Nat.le_add_left, Nat.add_one_sub_one, reduceIte, Bool.false_eq_true, Nat.zero_le, eq_self, List.singleton_append, List.take_succ_cons, List.take_zero, List.drop_succ_cons, List.drop_zero, List.take_nil, List.drop_nil, Nat.reduceAdd, Nat.reduceSub, Nat.reduceMul, Nat.reduceDiv, Nat.reduceMod, Nat.reducePow, Nat.reduceLT, Nat.reduceLeDiff, Nat.reduceEqDiff, Int.reduceAdd, Int.reduceSub, Int.reduceMul, Int.reduceNeg, Int.reducePow, Int.reduceLT, Int.reduceLE, Int.reduceEq, Int.reduceToNat, List.length_cons, List.length_nil, List.length_append, List.length_map, List.length_replicate, List.map_cons, List.map_nil, List.getElem?_map, Option.map_some, List.cons_append, List.nil_append, decide_true, decide_false, Bool.not_true, Bool.not_false, Bool.and_true, Bool.true_and, Bool.and_false, Bool.false_and, Bool.or_true, Bool.true_or, Bool.or_false, Bool.false_or, Bool.not_not, ne_eq, not_false_eq_true, not_true_eq_false, true_and, and_true, List.append_assoc, Int.toNat_natCast, natsP_len, NC, hz]
      exact ⟨es7, _, _, up hG7, rfl⟩
  rintro _ ⟨es8, x, y, hG8, rfl⟩
  simp only [ISI, EV0, EV1, EV2, EV3, EV4, EV5, EV6, EV7, EV8, EV9, EV10, EV11, SN, Nat.le_add_left, Nat.add_one_sub_one, reduceIte, Bool.false_eq_true, Nat.zero_le, eq_self, List.singleton_append, List.take_succ_cons, List.take_zero, List.drop_succ_cons, List.drop_zero, List.take_nil, List.drop_nil, Nat.reduceAdd, Nat.reduceSub, Nat.reduceMul, Nat.reduceDiv, Nat.reduceMod, Nat.reducePow, Nat.reduceLT, Nat.reduceLeDiff, Nat.reduceEqDiff, Int.reduceAdd, Int.reduceSub, Int.reduceMul, Int.reduceNeg, Int.reducePow, Int.reduceLT, Int.reduceLE, Int.reduceEq, Int.reduceToNat, List.length_cons, List.length_nil, List.length_append, List.length_map, List.length_replicate, List.map_cons, List.map_nil, List.getElem?_map, Option.map_some, List.cons_append, List.nil_append, decide_true, decide_false, Bool.not_true, Bool.not_false, Bool.and_true, Bool.true_and, Bool.and_false, Bool.false_and, Bool.or_true, Bool.true_or, Bool.or_false, Bool.false_or, Bool.not_not, ne_eq, not_false_eq_true, not_true_eq_false, true_and, and_true, List.append_assoc, Int.toNat_natCast, natsP_len, NC]
  exact ⟨es8, rfl, hG8.1, by have := hG8.2; omega⟩
theorem f__law_equal_rightly {m : Nat} (hm : 12 ≤ m) {n o : Nat} {ds : List Deed} (hd : DeedsOk n ds) (hn : 1 ≤ n ∧ n ≤ 3) (hl : ds.length ≤ 10000) (ho : o < n + ds.length) {d0 d1 d2 d3 : Nat} : T m 10 [rowOf n ds o, .int (n : Nat), .lst (ds.map Deed.pv), .int (o : Nat), .lst (natsP [d0, d1, d2, d3])] = .ok (.bl true) := by
  obtain ⟨m, rfl, hk⟩ := pos_of hm
  rw [T10]
  refine fn_eq rfl ?_
  have ini := fun {es : List Deed} (h2 : DeedsOk n es) (h3 : o < n + es.length) => f_Row____init__ (m := m) (by omega) hn h2 h3 (.lst (es.map Deed.pv)) (.inr rfl)
  have ini2 := f_Row____init__ (m := m) (by omega) hn hd ho (.tup (ds.map Deed.pv)) (.inl rfl)
  have eq1 := f_Row____eq__ (m := m) (by omega) n n o o ds ds
  simp only [decide_true, Bool.and_true] at eq1
  let isC : Deed → Bool := fun d => match d with
    | .count _ _ _ => true
    | _ => false
  simp only [ISI, EV0, EV1, EV2, EV3, EV4, EV5, EV6, EV7, EV8, EV9, EV10, EV11, SN, Nat.le_add_left, Nat.add_one_sub_one, reduceIte, Bool.false_eq_true, Nat.zero_le, eq_self, List.singleton_append, List.take_succ_cons, List.take_zero, List.drop_succ_cons, List.drop_zero, List.take_nil, List.drop_nil, Nat.reduceAdd, Nat.reduceSub, Nat.reduceMul, Nat.reduceDiv, Nat.reduceMod, Nat.reducePow, Nat.reduceLT, Nat.reduceLeDiff, Nat.reduceEqDiff, Int.reduceAdd, Int.reduceSub, Int.reduceMul, Int.reduceNeg, Int.reducePow, Int.reduceLT, Int.reduceLE, Int.reduceEq, Int.reduceToNat, List.length_cons, List.length_nil, List.length_append, List.length_map, List.length_replicate, List.map_cons, List.map_nil, List.getElem?_map, Option.map_some, List.cons_append, List.nil_append, decide_true, decide_false, Bool.not_true, Bool.not_false, Bool.and_true, Bool.true_and, Bool.and_false, Bool.false_and, Bool.or_true, Bool.true_or, Bool.or_false, Bool.false_or, Bool.not_not, ne_eq, not_false_eq_true, not_true_eq_false, true_and, and_true, List.append_assoc, Int.toNat_natCast, natsP_len, NC, s10, List.replicate, natsP_cons, natsP_nil, ini2, ROWS2, eq1, (show ds.length ≤ 1000000000 by omega)]
  rw [lc_fltN (fun i => isC (ds.getD i .zero)) (by omega) (fun i hi => by
    have h1 := deeds_at hi
    generalize ds.getD i .zero = d at h1 ⊢
    cases d <;> (simp only [ISI, EV0, EV1, EV2, EV3, EV4, EV5, EV6, EV7, EV8, EV9, EV10, EV11, SN, Nat.le_add_left, Nat.add_one_sub_one, reduceIte, Bool.false_eq_true, Nat.zero_le, eq_self, List.singleton_append, List.take_succ_cons, List.take_zero, List.drop_succ_cons, List.drop_zero, List.take_nil, List.drop_nil, Nat.reduceAdd, Nat.reduceSub, Nat.reduceMul, Nat.reduceDiv, Nat.reduceMod, Nat.reducePow, Nat.reduceLT, Nat.reduceLeDiff, Nat.reduceEqDiff, Int.reduceAdd, Int.reduceSub, Int.reduceMul, Int.reduceNeg, Int.reducePow, Int.reduceLT, Int.reduceLE, Int.reduceEq, Int.reduceToNat, List.length_cons, List.length_nil, List.length_append, List.length_map, List.length_replicate, List.map_cons, List.map_nil, List.getElem?_map, Option.map_some, List.cons_append, List.nil_append, decide_true, decide_false, Bool.not_true, Bool.not_false, Bool.and_true, Bool.true_and, Bool.and_false, Bool.false_and, Bool.or_true, Bool.true_or, Bool.or_false, Bool.false_or, Bool.not_not, ne_eq, not_false_eq_true, not_true_eq_false, true_and, and_true, List.append_assoc, Int.toNat_natCast, natsP_len, NC, h1, Deed.pv]; rfl))]
  simp only [ISI, EV0, EV1, EV2, EV3, EV4, EV5, EV6, EV7, EV8, EV9, EV10, EV11, SN, Nat.le_add_left, Nat.add_one_sub_one, reduceIte, Bool.false_eq_true, Nat.zero_le, eq_self, List.singleton_append, List.take_succ_cons, List.take_zero, List.drop_succ_cons, List.drop_zero, List.take_nil, List.drop_nil, Nat.reduceAdd, Nat.reduceSub, Nat.reduceMul, Nat.reduceDiv, Nat.reduceMod, Nat.reducePow, Nat.reduceLT, Nat.reduceLeDiff, Nat.reduceEqDiff, Int.reduceAdd, Int.reduceSub, Int.reduceMul, Int.reduceNeg, Int.reducePow, Int.reduceLT, Int.reduceLE, Int.reduceEq, Int.reduceToNat, List.length_cons, List.length_nil, List.length_append, List.length_map, List.length_replicate, List.map_cons, List.map_nil, List.getElem?_map, Option.map_some, List.cons_append, List.nil_append, decide_true, decide_false, Bool.not_true, Bool.not_false, Bool.and_true, Bool.true_and, Bool.and_false, Bool.false_and, Bool.or_true, Bool.true_or, Bool.or_false, Bool.false_or, Bool.not_not, ne_eq, not_false_eq_true, not_true_eq_false, true_and, and_true, List.append_assoc, Int.toNat_natCast, natsP_len, NC]
  generalize hP : (List.range ds.length).filter (fun i => isC (ds.getD i .zero)) = P
  have hPm : ∀ i ∈ P, i < ds.length ∧ ∃ p r ps, ds.getD i .zero = .count p r ps := fun i hi => by
    rw [← hP] at hi
    obtain ⟨h1, h2⟩ := List.mem_filter.mp hi
    refine ⟨List.mem_range.mp h1, ?_⟩
    generalize ds.getD i .zero = d at h2 ⊢
    cases d with
    | count p r ps => exact ⟨p, r, ps, rfl⟩
    | _ => cases h2
  by_cases hz : P.length = 0
  · simp only [ISI, EV0, EV1, EV2, EV3, EV4, EV5, EV6, EV7, EV8, EV9, EV10, EV11, SN, Nat.le_add_left, Nat.add_one_sub_one, reduceIte, Bool.false_eq_true, Nat.zero_le, eq_self, List.singleton_append, List.take_succ_cons, List.take_zero, List.drop_succ_cons, List.drop_zero, List.take_nil, List.drop_nil, Nat.reduceAdd, Nat.reduceSub, Nat.reduceMul, Nat.reduceDiv, Nat.reduceMod, Nat.reducePow, Nat.reduceLT, Nat.reduceLeDiff, Nat.reduceEqDiff, Int.reduceAdd, Int.reduceSub, Int.reduceMul, Int.reduceNeg, Int.reducePow, Int.reduceLT, Int.reduceLE, Int.reduceEq, Int.reduceToNat, List.length_cons, List.length_nil, List.length_append, List.length_map, List.length_replicate, List.map_cons, List.map_nil, List.getElem?_map, Option.map_some, List.cons_append, List.nil_append, decide_true, decide_false, Bool.not_true, Bool.not_false, Bool.and_true, Bool.true_and, Bool.and_false, Bool.false_and, Bool.or_true, Bool.true_or, Bool.or_false, Bool.false_or, Bool.not_not, ne_eq, not_false_eq_true, not_true_eq_false, true_and, and_true, List.append_assoc, Int.toNat_natCast, natsP_len, NC, hz]
  have hlt : d3 % P.length < P.length := Nat.mod_lt _ (by omega)
  have hmem := getD_memN hlt
  simp only [ISI, EV0, EV1, EV2, EV3, EV4, EV5, EV6, EV7, EV8, EV9, EV10, EV11, SN, Nat.le_add_left, Nat.add_one_sub_one, reduceIte, Bool.false_eq_true, Nat.zero_le, eq_self, List.singleton_append, List.take_succ_cons, List.take_zero, List.drop_succ_cons, List.drop_zero, List.take_nil, List.drop_nil, Nat.reduceAdd, Nat.reduceSub, Nat.reduceMul, Nat.reduceDiv, Nat.reduceMod, Nat.reducePow, Nat.reduceLT, Nat.reduceLeDiff, Nat.reduceEqDiff, Int.reduceAdd, Int.reduceSub, Int.reduceMul, Int.reduceNeg, Int.reducePow, Int.reduceLT, Int.reduceLE, Int.reduceEq, Int.reduceToNat, List.length_cons, List.length_nil, List.length_append, List.length_map, List.length_replicate, List.map_cons, List.map_nil, List.getElem?_map, Option.map_some, List.cons_append, List.nil_append, decide_true, decide_false, Bool.not_true, Bool.not_false, Bool.and_true, Bool.true_and, Bool.and_false, Bool.false_and, Bool.or_true, Bool.true_or, Bool.or_false, Bool.false_or, Bool.not_not, ne_eq, not_false_eq_true, not_true_eq_false, true_and, and_true, List.append_assoc, Int.toNat_natCast, natsP_len, NC, hz, nats_get hlt]
  generalize P.getD (d3 % P.length) 0 = at_ at hmem ⊢
  obtain ⟨hp3, p, r, ps, hc⟩ := hPm at_ hmem
  have hat := deeds_at hp3
  rw [hc] at hat
  have hok := hd.get hat
  obtain ⟨es, hnr, hes, hel⟩ := f__law_near (m := m) (by omega) hok (d0 := d0) (d1 := d1) (d2 := d2) (d3 := d3)
  simp only [natsP_cons, natsP_nil] at hnr
  simp only [ISI, EV0, EV1, EV2, EV3, EV4, EV5, EV6, EV7, EV8, EV9, EV10, EV11, SN, Nat.le_add_left, Nat.add_one_sub_one, reduceIte, Bool.false_eq_true, Nat.zero_le, eq_self, List.singleton_append, List.take_succ_cons, List.take_zero, List.drop_succ_cons, List.drop_zero, List.take_nil, List.drop_nil, Nat.reduceAdd, Nat.reduceSub, Nat.reduceMul, Nat.reduceDiv, Nat.reduceMod, Nat.reducePow, Nat.reduceLT, Nat.reduceLeDiff, Nat.reduceEqDiff, Int.reduceAdd, Int.reduceSub, Int.reduceMul, Int.reduceNeg, Int.reducePow, Int.reduceLT, Int.reduceLE, Int.reduceEq, Int.reduceToNat, List.length_cons, List.length_nil, List.length_append, List.length_map, List.length_replicate, List.map_cons, List.map_nil, List.getElem?_map, Option.map_some, List.cons_append, List.nil_append, decide_true, decide_false, Bool.not_true, Bool.not_false, Bool.and_true, Bool.true_and, Bool.and_false, Bool.false_and, Bool.or_true, Bool.true_or, Bool.or_false, Bool.false_or, Bool.not_not, ne_eq, not_false_eq_true, not_true_eq_false, true_and, and_true, List.append_assoc, Int.toNat_natCast, natsP_len, NC, hat, hnr]
  refine loop_map (fun e i ρ' => ∃ x y, ρ' = (e.set 8 x).set 9 y) ?_ ?_ ?_
  · exact ⟨.no, .no, rfl⟩
  · rintro i d _ hdd ⟨x, y, rfl⟩
    obtain ⟨e1, e2⟩ := hes d (List.mem_of_getElem? hdd)
    have hgd := good_set hd ho hat e1 e2
    have q := ini hgd.1 hgd.2.2
    rw [List.map_append, List.map_cons, List.map_take, List.map_drop] at q
    have q1 := f_Row____eq__ (m := m) (by omega) n n o o ds (ds.take at_ ++ d :: ds.drop (at_ + 1))
    have q2 := f_Row____eq__ (m := m) (by omega) n n o o (ds.take at_ ++ d :: ds.drop (at_ + 1)) ds
    rw [decide_eq_false (Ne.symm hgd.2.1)] at q1
    rw [decide_eq_false hgd.2.1] at q2
    simp only [decide_true, Bool.true_and, Bool.false_and, Bool.and_true] at q1 q2
    simp only [ISI, EV0, EV1, EV2, EV3, EV4, EV5, EV6, EV7, EV8, EV9, EV10, EV11, SN, Nat.le_add_left, Nat.add_one_sub_one, reduceIte, Bool.false_eq_true, Nat.zero_le, eq_self, List.singleton_append, List.take_succ_cons, List.take_zero, List.drop_succ_cons, List.drop_zero, List.take_nil, List.drop_nil, Nat.reduceAdd, Nat.reduceSub, Nat.reduceMul, Nat.reduceDiv, Nat.reduceMod, Nat.reducePow, Nat.reduceLT, Nat.reduceLeDiff, Nat.reduceEqDiff, Int.reduceAdd, Int.reduceSub, Int.reduceMul, Int.reduceNeg, Int.reducePow, Int.reduceLT, Int.reduceLE, Int.reduceEq, Int.reduceToNat, List.length_cons, List.length_nil, List.length_append, List.length_map, List.length_replicate, List.map_cons, List.map_nil, List.getElem?_map, Option.map_some, List.cons_append, List.nil_append, decide_true, decide_false, Bool.not_true, Bool.not_false, Bool.and_true, Bool.true_and, Bool.and_false, Bool.false_and, Bool.or_true, Bool.true_or, Bool.or_false, Bool.false_or, Bool.not_not, ne_eq, not_false_eq_true, not_true_eq_false, true_and, and_true, List.append_assoc, Int.toNat_natCast, natsP_len, NC, ROWS2, q, q1, q2, List.length_take, List.length_drop, (show min at_ ds.length + 1 ≤ 1000000 by omega), (show min at_ ds.length + 1 + (ds.length - (at_ + 1)) ≤ 1000000 by omega)]
    exact ⟨_, _, rfl⟩
  · rintro _ ⟨x, y, rfl⟩
    simp only [ISI, EV0, EV1, EV2, EV3, EV4, EV5, EV6, EV7, EV8, EV9, EV10, EV11, SN, Nat.le_add_left, Nat.add_one_sub_one, reduceIte, Bool.false_eq_true, Nat.zero_le, eq_self, List.singleton_append, List.take_succ_cons, List.take_zero, List.drop_succ_cons, List.drop_zero, List.take_nil, List.drop_nil, Nat.reduceAdd, Nat.reduceSub, Nat.reduceMul, Nat.reduceDiv, Nat.reduceMod, Nat.reducePow, Nat.reduceLT, Nat.reduceLeDiff, Nat.reduceEqDiff, Int.reduceAdd, Int.reduceSub, Int.reduceMul, Int.reduceNeg, Int.reducePow, Int.reduceLT, Int.reduceLE, Int.reduceEq, Int.reduceToNat, List.length_cons, List.length_nil, List.length_append, List.length_map, List.length_replicate, List.map_cons, List.map_nil, List.getElem?_map, Option.map_some, List.cons_append, List.nil_append, decide_true, decide_false, Bool.not_true, Bool.not_false, Bool.and_true, Bool.true_and, Bool.and_false, Bool.false_and, Bool.or_true, Bool.true_or, Bool.or_false, Bool.false_or, Bool.not_not, ne_eq, not_false_eq_true, not_true_eq_false, true_and, and_true, List.append_assoc, Int.toNat_natCast, natsP_len]
theorem f__law_holds {m : Nat} (hm : 20 ≤ m) (ns : List Int) : T m 1 [.scr (ns.map PV.int)] = .ok (.bl true) := by
  obtain ⟨m, rfl, hk⟩ := pos_of hm
  rw [T1]
  obtain ⟨C, hC, hC'⟩ := cells (m := m) (by omega) ns
  obtain ⟨ds, hd, hds⟩ := f__law_drawsN (m := m) (by omega) (C 0) [3, 8, 65, 3, 4, 11, 3, 60, 60, 60, 60] (by decide) (by decide)
  obtain ⟨d0, d1, d2, d3, d4, d5, d6, d7, d8, d9, d10, rfl, h0, h1, h2, h3, h4, h5, h6, h7, h8, h9, h10⟩ := hds.d11
  simp only [ISI, EV0, EV1, EV2, EV3, EV4, EV5, EV6, EV7, EV8, EV9, EV10, EV11, SN, Nat.le_add_left, Nat.add_one_sub_one, reduceIte, Bool.false_eq_true, Nat.zero_le, eq_self, List.singleton_append, List.take_succ_cons, List.take_zero, List.drop_succ_cons, List.drop_zero, List.take_nil, List.drop_nil, Nat.reduceAdd, Nat.reduceSub, Nat.reduceMul, Nat.reduceDiv, Nat.reduceMod, Nat.reducePow, Nat.reduceLT, Nat.reduceLeDiff, Nat.reduceEqDiff, Int.reduceAdd, Int.reduceSub, Int.reduceMul, Int.reduceNeg, Int.reducePow, Int.reduceLT, Int.reduceLE, Int.reduceEq, Int.reduceToNat, List.length_cons, List.length_nil, List.length_append, List.length_map, List.length_replicate, List.map_cons, List.map_nil, List.getElem?_map, Option.map_some, List.cons_append, List.nil_append, decide_true, decide_false, Bool.not_true, Bool.not_false, Bool.and_true, Bool.true_and, Bool.and_false, Bool.false_and, Bool.or_true, Bool.true_or, Bool.or_false, Bool.false_or, Bool.not_not, ne_eq, not_false_eq_true, not_true_eq_false, true_and, and_true, List.append_assoc, Int.toNat_natCast, natsP_len, NC, natsP_cons, natsP_nil] at hd
  obtain ⟨WW, hWW⟩ := allWords (m := m) (by omega)
  refine fn_eq rfl ?_
  simp only [ISI, EV0, EV1, EV2, EV3, EV4, EV5, EV6, EV7, EV8, EV9, EV10, EV11, SN, Nat.le_add_left, Nat.add_one_sub_one, reduceIte, Bool.false_eq_true, Nat.zero_le, eq_self, List.singleton_append, List.take_succ_cons, List.take_zero, List.drop_succ_cons, List.drop_zero, List.take_nil, List.drop_nil, Nat.reduceAdd, Nat.reduceSub, Nat.reduceMul, Nat.reduceDiv, Nat.reduceMod, Nat.reducePow, Nat.reduceLT, Nat.reduceLeDiff, Nat.reduceEqDiff, Int.reduceAdd, Int.reduceSub, Int.reduceMul, Int.reduceNeg, Int.reducePow, Int.reduceLT, Int.reduceLE, Int.reduceEq, Int.reduceToNat, List.length_cons, List.length_nil, List.length_append, List.length_map, List.length_replicate, List.map_cons, List.map_nil, List.getElem?_map, Option.map_some, List.cons_append, List.nil_append, decide_true, decide_false, Bool.not_true, Bool.not_false, Bool.and_true, Bool.true_and, Bool.and_false, Bool.false_and, Bool.or_true, Bool.true_or, Bool.or_false, Bool.false_or, Bool.not_not, ne_eq, not_false_eq_true, not_true_eq_false, true_and, and_true, List.append_assoc, Int.toNat_natCast, natsP_len, NC, s1, List.replicate, hC, hC', hd]
  refine if_cut (fun e ρ' => ∃ w : Nat, w ≤ 64 ∧ ρ' = e.set 4 (.fr (.int (w : Nat)))) ?_ ?_
  · by_cases hz : d3 = 0
    · subst hz
      rcases (by omega : d4 = 0 ∨ d4 = 1 ∨ d4 = 2 ∨ d4 = 3) with rfl | rfl | rfl | rfl
      · simp only [ISI, EV0, EV1, EV2, EV3, EV4, EV5, EV6, EV7, EV8, EV9, EV10, EV11, SN, Nat.le_add_left, Nat.add_one_sub_one, reduceIte, Bool.false_eq_true, Nat.zero_le, eq_self, List.singleton_append, List.take_succ_cons, List.take_zero, List.drop_succ_cons, List.drop_zero, List.take_nil, List.drop_nil, Nat.reduceAdd, Nat.reduceSub, Nat.reduceMul, Nat.reduceDiv, Nat.reduceMod, Nat.reducePow, Nat.reduceLT, Nat.reduceLeDiff, Nat.reduceEqDiff, Int.reduceAdd, Int.reduceSub, Int.reduceMul, Int.reduceNeg, Int.reducePow, Int.reduceLT, Int.reduceLE, Int.reduceEq, Int.reduceToNat, List.length_cons, List.length_nil, List.length_append, List.length_map, List.length_replicate, List.map_cons, List.map_nil, List.getElem?_map, Option.map_some, List.cons_append, List.nil_append, decide_true, decide_false, Bool.not_true, Bool.not_false, Bool.and_true, Bool.true_and, Bool.and_false, Bool.false_and, Bool.or_true, Bool.true_or, Bool.or_false, Bool.false_or, Bool.not_not, ne_eq, not_false_eq_true, not_true_eq_false, true_and, and_true, List.append_assoc, Int.toNat_natCast, natsP_len, NC]; exact ⟨0, by omega, rfl⟩
      · simp only [ISI, EV0, EV1, EV2, EV3, EV4, EV5, EV6, EV7, EV8, EV9, EV10, EV11, SN, Nat.le_add_left, Nat.add_one_sub_one, reduceIte, Bool.false_eq_true, Nat.zero_le, eq_self, List.singleton_append, List.take_succ_cons, List.take_zero, List.drop_succ_cons, List.drop_zero, List.take_nil, List.drop_nil, Nat.reduceAdd, Nat.reduceSub, Nat.reduceMul, Nat.reduceDiv, Nat.reduceMod, Nat.reducePow, Nat.reduceLT, Nat.reduceLeDiff, Nat.reduceEqDiff, Int.reduceAdd, Int.reduceSub, Int.reduceMul, Int.reduceNeg, Int.reducePow, Int.reduceLT, Int.reduceLE, Int.reduceEq, Int.reduceToNat, List.length_cons, List.length_nil, List.length_append, List.length_map, List.length_replicate, List.map_cons, List.map_nil, List.getElem?_map, Option.map_some, List.cons_append, List.nil_append, decide_true, decide_false, Bool.not_true, Bool.not_false, Bool.and_true, Bool.true_and, Bool.and_false, Bool.false_and, Bool.or_true, Bool.true_or, Bool.or_false, Bool.false_or, Bool.not_not, ne_eq, not_false_eq_true, not_true_eq_false, true_and, and_true, List.append_assoc, Int.toNat_natCast, natsP_len, NC]; exact ⟨1, by omega, rfl⟩
      · simp only [ISI, EV0, EV1, EV2, EV3, EV4, EV5, EV6, EV7, EV8, EV9, EV10, EV11, SN, Nat.le_add_left, Nat.add_one_sub_one, reduceIte, Bool.false_eq_true, Nat.zero_le, eq_self, List.singleton_append, List.take_succ_cons, List.take_zero, List.drop_succ_cons, List.drop_zero, List.take_nil, List.drop_nil, Nat.reduceAdd, Nat.reduceSub, Nat.reduceMul, Nat.reduceDiv, Nat.reduceMod, Nat.reducePow, Nat.reduceLT, Nat.reduceLeDiff, Nat.reduceEqDiff, Int.reduceAdd, Int.reduceSub, Int.reduceMul, Int.reduceNeg, Int.reducePow, Int.reduceLT, Int.reduceLE, Int.reduceEq, Int.reduceToNat, List.length_cons, List.length_nil, List.length_append, List.length_map, List.length_replicate, List.map_cons, List.map_nil, List.getElem?_map, Option.map_some, List.cons_append, List.nil_append, decide_true, decide_false, Bool.not_true, Bool.not_false, Bool.and_true, Bool.true_and, Bool.and_false, Bool.false_and, Bool.or_true, Bool.true_or, Bool.or_false, Bool.false_or, Bool.not_not, ne_eq, not_false_eq_true, not_true_eq_false, true_and, and_true, List.append_assoc, Int.toNat_natCast, natsP_len, NC]; exact ⟨2, by omega, rfl⟩
      · simp only [ISI, EV0, EV1, EV2, EV3, EV4, EV5, EV6, EV7, EV8, EV9, EV10, EV11, SN, Nat.le_add_left, Nat.add_one_sub_one, reduceIte, Bool.false_eq_true, Nat.zero_le, eq_self, List.singleton_append, List.take_succ_cons, List.take_zero, List.drop_succ_cons, List.drop_zero, List.take_nil, List.drop_nil, Nat.reduceAdd, Nat.reduceSub, Nat.reduceMul, Nat.reduceDiv, Nat.reduceMod, Nat.reducePow, Nat.reduceLT, Nat.reduceLeDiff, Nat.reduceEqDiff, Int.reduceAdd, Int.reduceSub, Int.reduceMul, Int.reduceNeg, Int.reducePow, Int.reduceLT, Int.reduceLE, Int.reduceEq, Int.reduceToNat, List.length_cons, List.length_nil, List.length_append, List.length_map, List.length_replicate, List.map_cons, List.map_nil, List.getElem?_map, Option.map_some, List.cons_append, List.nil_append, decide_true, decide_false, Bool.not_true, Bool.not_false, Bool.and_true, Bool.true_and, Bool.and_false, Bool.false_and, Bool.or_true, Bool.true_or, Bool.or_false, Bool.false_or, Bool.not_not, ne_eq, not_false_eq_true, not_true_eq_false, true_and, and_true, List.append_assoc, Int.toNat_natCast, natsP_len, NC]; exact ⟨64, by omega, rfl⟩
    · simp only [ISI, EV0, EV1, EV2, EV3, EV4, EV5, EV6, EV7, EV8, EV9, EV10, EV11, SN, Nat.le_add_left, Nat.add_one_sub_one, reduceIte, Bool.false_eq_true, Nat.zero_le, eq_self, List.singleton_append, List.take_succ_cons, List.take_zero, List.drop_succ_cons, List.drop_zero, List.take_nil, List.drop_nil, Nat.reduceAdd, Nat.reduceSub, Nat.reduceMul, Nat.reduceDiv, Nat.reduceMod, Nat.reducePow, Nat.reduceLT, Nat.reduceLeDiff, Nat.reduceEqDiff, Int.reduceAdd, Int.reduceSub, Int.reduceMul, Int.reduceNeg, Int.reducePow, Int.reduceLT, Int.reduceLE, Int.reduceEq, Int.reduceToNat, List.length_cons, List.length_nil, List.length_append, List.length_map, List.length_replicate, List.map_cons, List.map_nil, List.getElem?_map, Option.map_some, List.cons_append, List.nil_append, decide_true, decide_false, Bool.not_true, Bool.not_false, Bool.and_true, Bool.true_and, Bool.and_false, Bool.false_and, Bool.or_true, Bool.true_or, Bool.or_false, Bool.false_or, Bool.not_not, ne_eq, not_false_eq_true, not_true_eq_false, true_and, and_true, List.append_assoc, Int.toNat_natCast, natsP_len, NC, hz]; exact ⟨d2, by omega, rfl⟩
  rintro _ ⟨w, hw, rfl⟩
  have hn : 1 ≤ 1 + d0 ∧ 1 + d0 ≤ 3 := by omega
  have hk1 : 1 + d1 ≤ 8 := by omega
  generalize hN : 1 + d0 = n at hn
  generalize hK : 1 + d1 = k at hk1
  obtain ⟨dl, hdl, hok, hlen⟩ := f__law_deeds (m := m) (by omega) ns (k0 := 4) (n := n) (k := k) hn.1 (by omega)
  simp only [ISI, EV0, EV1, EV2, EV3, EV4, EV5, EV6, EV7, EV8, EV9, EV10, EV11, SN, Nat.le_add_left, Nat.add_one_sub_one, reduceIte, Bool.false_eq_true, Nat.zero_le, eq_self, List.singleton_append, List.take_succ_cons, List.take_zero, List.drop_succ_cons, List.drop_zero, List.take_nil, List.drop_nil, Nat.reduceAdd, Nat.reduceSub, Nat.reduceMul, Nat.reduceDiv, Nat.reduceMod, Nat.reducePow, Nat.reduceLT, Nat.reduceLeDiff, Nat.reduceEqDiff, Int.reduceAdd, Int.reduceSub, Int.reduceMul, Int.reduceNeg, Int.reducePow, Int.reduceLT, Int.reduceLE, Int.reduceEq, Int.reduceToNat, List.length_cons, List.length_nil, List.length_append, List.length_map, List.length_replicate, List.map_cons, List.map_nil, List.getElem?_map, Option.map_some, List.cons_append, List.nil_append, decide_true, decide_false, Bool.not_true, Bool.not_false, Bool.and_true, Bool.true_and, Bool.and_false, Bool.false_and, Bool.or_true, Bool.true_or, Bool.or_false, Bool.false_or, Bool.not_not, ne_eq, not_false_eq_true, not_true_eq_false, true_and, and_true, List.append_assoc, Int.toNat_natCast, natsP_len, NC] at hdl
  simp only [ISI, EV0, EV1, EV2, EV3, EV4, EV5, EV6, EV7, EV8, EV9, EV10, EV11, SN, Nat.le_add_left, Nat.add_one_sub_one, reduceIte, Bool.false_eq_true, Nat.zero_le, eq_self, List.singleton_append, List.take_succ_cons, List.take_zero, List.drop_succ_cons, List.drop_zero, List.take_nil, List.drop_nil, Nat.reduceAdd, Nat.reduceSub, Nat.reduceMul, Nat.reduceDiv, Nat.reduceMod, Nat.reducePow, Nat.reduceLT, Nat.reduceLeDiff, Nat.reduceEqDiff, Int.reduceAdd, Int.reduceSub, Int.reduceMul, Int.reduceNeg, Int.reducePow, Int.reduceLT, Int.reduceLE, Int.reduceEq, Int.reduceToNat, List.length_cons, List.length_nil, List.length_append, List.length_map, List.length_replicate, List.map_cons, List.map_nil, List.getElem?_map, Option.map_some, List.cons_append, List.nil_append, decide_true, decide_false, Bool.not_true, Bool.not_false, Bool.and_true, Bool.true_and, Bool.and_false, Bool.false_and, Bool.or_true, Bool.true_or, Bool.or_false, Bool.false_or, Bool.not_not, ne_eq, not_false_eq_true, not_true_eq_false, true_and, and_true, List.append_assoc, Int.toNat_natCast, natsP_len, NC, hN, hK, hC, hC', hdl, (show ¬ n + k = 0 by omega)]
  refine if_cut (fun e ρ' => ∃ o : Nat, o < n + k ∧ ρ' = e.set 6 (.fr (.int (o : Nat)))) ?_ ?_
  · by_cases hz : 0 < d6
    · simp only [ISI, EV0, EV1, EV2, EV3, EV4, EV5, EV6, EV7, EV8, EV9, EV10, EV11, SN, Nat.le_add_left, Nat.add_one_sub_one, reduceIte, Bool.false_eq_true, Nat.zero_le, eq_self, List.singleton_append, List.take_succ_cons, List.take_zero, List.drop_succ_cons, List.drop_zero, List.take_nil, List.drop_nil, Nat.reduceAdd, Nat.reduceSub, Nat.reduceMul, Nat.reduceDiv, Nat.reduceMod, Nat.reducePow, Nat.reduceLT, Nat.reduceLeDiff, Nat.reduceEqDiff, Int.reduceAdd, Int.reduceSub, Int.reduceMul, Int.reduceNeg, Int.reducePow, Int.reduceLT, Int.reduceLE, Int.reduceEq, Int.reduceToNat, List.length_cons, List.length_nil, List.length_append, List.length_map, List.length_replicate, List.map_cons, List.map_nil, List.getElem?_map, Option.map_some, List.cons_append, List.nil_append, decide_true, decide_false, Bool.not_true, Bool.not_false, Bool.and_true, Bool.true_and, Bool.and_false, Bool.false_and, Bool.or_true, Bool.true_or, Bool.or_false, Bool.false_or, Bool.not_not, ne_eq, not_false_eq_true, not_true_eq_false, true_and, and_true, List.append_assoc, Int.toNat_natCast, natsP_len, NC, hz, (show 1 ≤ n + k by omega)]; exact ⟨n + k - 1, by omega, rfl⟩
    · simp only [ISI, EV0, EV1, EV2, EV3, EV4, EV5, EV6, EV7, EV8, EV9, EV10, EV11, SN, Nat.le_add_left, Nat.add_one_sub_one, reduceIte, Bool.false_eq_true, Nat.zero_le, eq_self, List.singleton_append, List.take_succ_cons, List.take_zero, List.drop_succ_cons, List.drop_zero, List.take_nil, List.drop_nil, Nat.reduceAdd, Nat.reduceSub, Nat.reduceMul, Nat.reduceDiv, Nat.reduceMod, Nat.reducePow, Nat.reduceLT, Nat.reduceLeDiff, Nat.reduceEqDiff, Int.reduceAdd, Int.reduceSub, Int.reduceMul, Int.reduceNeg, Int.reducePow, Int.reduceLT, Int.reduceLE, Int.reduceEq, Int.reduceToNat, List.length_cons, List.length_nil, List.length_append, List.length_map, List.length_replicate, List.map_cons, List.map_nil, List.getElem?_map, Option.map_some, List.cons_append, List.nil_append, decide_true, decide_false, Bool.not_true, Bool.not_false, Bool.and_true, Bool.true_and, Bool.and_false, Bool.false_and, Bool.or_true, Bool.true_or, Bool.or_false, Bool.false_or, Bool.not_not, ne_eq, not_false_eq_true, not_true_eq_false, true_and, and_true, List.append_assoc, Int.toNat_natCast, natsP_len, NC, hz]; exact ⟨d5 % (n + k), Nat.mod_lt _ (by omega), rfl⟩
  rintro _ ⟨o, ho, rfl⟩
  have hw2 : w ≤ 1000 := by omega
  let W1 : Nat → Int := fun i => WW w (C (1 + i))
  let W2 : Nat → Int := fun i => WW w (C (12 + i))
  have hW1 : ∀ i, T m 6 [.int (C (1 + i)), .int (w : Nat)] = .ok (.int (W1 i)) ∧ 0 ≤ W1 i ∧ W1 i < 2 ^ w := fun i => hWW w hw2 _
  have hW2 : ∀ i, T m 6 [.int (C (12 + i)), .int (w : Nat)] = .ok (.int (W2 i)) ∧ 0 ≤ W2 i ∧ W2 i < 2 ^ w := fun i => hWW w hw2 _
  clear_value W1 W2
  have wi : ∀ (W : Nat → Int) (c : Nat → Int), (∀ i, T m 6 [.int (c i), .int (w : Nat)] = .ok (.int (W i)) ∧ 0 ≤ W i ∧ W i < 2 ^ w) → ∀ x ∈ (List.range n).map W, InW w x := fun W c h x hx => by
    obtain ⟨i, _, rfl⟩ := List.mem_map.mp hx
    exact (h i).2
  have i1 := wi W1 _ hW1
  have i2 := wi W2 _ hW2
  have wl : ∀ W : Nat → Int, ((List.range n).map W).length = n := fun W => by rw [List.length_map, List.length_range]
  have c1 := fun i => (hW1 i).1
  have c2 := fun i => (hW2 i).1
  subst hlen
  simp only [ISI, EV0, EV1, EV2, EV3, EV4, EV5, EV6, EV7, EV8, EV9, EV10, EV11, SN, Nat.le_add_left, Nat.add_one_sub_one, reduceIte, Bool.false_eq_true, Nat.zero_le, eq_self, List.singleton_append, List.take_succ_cons, List.take_zero, List.drop_succ_cons, List.drop_zero, List.take_nil, List.drop_nil, Nat.reduceAdd, Nat.reduceSub, Nat.reduceMul, Nat.reduceDiv, Nat.reduceMod, Nat.reducePow, Nat.reduceLT, Nat.reduceLeDiff, Nat.reduceEqDiff, Int.reduceAdd, Int.reduceSub, Int.reduceMul, Int.reduceNeg, Int.reducePow, Int.reduceLT, Int.reduceLE, Int.reduceEq, Int.reduceToNat, List.length_cons, List.length_nil, List.length_append, List.length_map, List.length_replicate, List.map_cons, List.map_nil, List.getElem?_map, Option.map_some, List.cons_append, List.nil_append, decide_true, decide_false, Bool.not_true, Bool.not_false, Bool.and_true, Bool.true_and, Bool.and_false, Bool.false_and, Bool.or_true, Bool.true_or, Bool.or_false, Bool.false_or, Bool.not_not, ne_eq, not_false_eq_true, not_true_eq_false, true_and, and_true, List.append_assoc, Int.toNat_natCast, natsP_len, NC, (show n ≤ 1000000000 by omega)]
  rw [lc_rngI (fun i => W1 i) (by omega) (fun i hi => by simp only [ISI, EV0, EV1, EV2, EV3, EV4, EV5, EV6, EV7, EV8, EV9, EV10, EV11, SN, Nat.le_add_left, Nat.add_one_sub_one, reduceIte, Bool.false_eq_true, Nat.zero_le, eq_self, List.singleton_append, List.take_succ_cons, List.take_zero, List.drop_succ_cons, List.drop_zero, List.take_nil, List.drop_nil, Nat.reduceAdd, Nat.reduceSub, Nat.reduceMul, Nat.reduceDiv, Nat.reduceMod, Nat.reducePow, Nat.reduceLT, Nat.reduceLeDiff, Nat.reduceEqDiff, Int.reduceAdd, Int.reduceSub, Int.reduceMul, Int.reduceNeg, Int.reducePow, Int.reduceLT, Int.reduceLE, Int.reduceEq, Int.reduceToNat, List.length_cons, List.length_nil, List.length_append, List.length_map, List.length_replicate, List.map_cons, List.map_nil, List.getElem?_map, Option.map_some, List.cons_append, List.nil_append, decide_true, decide_false, Bool.not_true, Bool.not_false, Bool.and_true, Bool.true_and, Bool.and_false, Bool.false_and, Bool.or_true, Bool.true_or, Bool.or_false, Bool.false_or, Bool.not_not, ne_eq, not_false_eq_true, not_true_eq_false, true_and, and_true, List.append_assoc, Int.toNat_natCast, natsP_len, NC, hC, c1])]
  have hrow := f_Row____init__ (m := m) (by omega) (out := o) hn hok ho (.lst (dl.map Deed.pv)) (.inr rfl)
  have k1 := f__law_kept (m := m) (by omega) (n := n) (o := o) (ds := dl) (by omega) (fun d hd p r ps e => by
    obtain ⟨i, hi, rfl⟩ := List.getElem_of_mem hd
    have := hok.get (List.getElem?_eq_getElem hi)
    rw [e] at this
    exact this.2.2.2.1)
  have k3 := f__law_equal_rightly (m := m) (by omega) hok hn (by omega) ho (d0 := d7) (d1 := d8) (d2 := d9) (d3 := d10)
  simp only [natsP_cons, natsP_nil] at k3
  have tl := fun (w : Nat) (ws : List Int) (hw : w ≤ 1000) (hl : ws.length = n) (hi : ∀ x ∈ ws, InW w x) => f__law_told (m := m) (by omega) (n := n) (o := o) (w := w) (ds := dl) (ws := ws) (by rw [hl]; exact hok) hi hl hw (by omega) (by omega) (by omega)
  have t1 := tl w _ (by omega) (wl W1) i1
  have t2 := tl w _ (by omega) (wl W2) i2
  have i3 : ∀ x ∈ ((List.range n).map W1).map (fun x => x % 2 ^ (w / 2)), InW (w / 2) x := fun x hx => by
    obtain ⟨y, _, rfl⟩ := List.mem_map.mp hx
    exact inW_mod _ _
  have l3 : (((List.range n).map W1).map (fun x => x % 2 ^ (w / 2))).length = n := by rw [List.length_map, wl]
  have t3 := tl (w / 2) _ (by omega) l3 i3
  generalize hL1 : (List.range n).map W1 = ws1 at *
  generalize hL2 : (List.range n).map W2 = ws2 at *
  generalize hL3 : ws1.map (fun x => x % 2 ^ (w / 2)) = ws3 at *
  have hl1 : ws1.length ≤ 1000000 := by rw [← hL1, wl]; omega
  simp only [ISI, EV0, EV1, EV2, EV3, EV4, EV5, EV6, EV7, EV8, EV9, EV10, EV11, SN, Nat.le_add_left, Nat.add_one_sub_one, reduceIte, Bool.false_eq_true, Nat.zero_le, eq_self, List.singleton_append, List.take_succ_cons, List.take_zero, List.drop_succ_cons, List.drop_zero, List.take_nil, List.drop_nil, Nat.reduceAdd, Nat.reduceSub, Nat.reduceMul, Nat.reduceDiv, Nat.reduceMod, Nat.reducePow, Nat.reduceLT, Nat.reduceLeDiff, Nat.reduceEqDiff, Int.reduceAdd, Int.reduceSub, Int.reduceMul, Int.reduceNeg, Int.reducePow, Int.reduceLT, Int.reduceLE, Int.reduceEq, Int.reduceToNat, List.length_cons, List.length_nil, List.length_append, List.length_map, List.length_replicate, List.map_cons, List.map_nil, List.getElem?_map, Option.map_some, List.cons_append, List.nil_append, decide_true, decide_false, Bool.not_true, Bool.not_false, Bool.and_true, Bool.true_and, Bool.and_false, Bool.false_and, Bool.or_true, Bool.true_or, Bool.or_false, Bool.false_or, Bool.not_not, ne_eq, not_false_eq_true, not_true_eq_false, true_and, and_true, List.append_assoc, Int.toNat_natCast, natsP_len, NC, ROWS, hrow, k1, t1, k3, f__law_integer (m := m) (by omega), (show n ≤ 1000000000 by omega)]
  rw [lc_rngI (fun i => W2 i) (by omega) (fun i hi => by simp only [ISI, EV0, EV1, EV2, EV3, EV4, EV5, EV6, EV7, EV8, EV9, EV10, EV11, SN, Nat.le_add_left, Nat.add_one_sub_one, reduceIte, Bool.false_eq_true, Nat.zero_le, eq_self, List.singleton_append, List.take_succ_cons, List.take_zero, List.drop_succ_cons, List.drop_zero, List.take_nil, List.drop_nil, Nat.reduceAdd, Nat.reduceSub, Nat.reduceMul, Nat.reduceDiv, Nat.reduceMod, Nat.reducePow, Nat.reduceLT, Nat.reduceLeDiff, Nat.reduceEqDiff, Int.reduceAdd, Int.reduceSub, Int.reduceMul, Int.reduceNeg, Int.reducePow, Int.reduceLT, Int.reduceLE, Int.reduceEq, Int.reduceToNat, List.length_cons, List.length_nil, List.length_append, List.length_map, List.length_replicate, List.map_cons, List.map_nil, List.getElem?_map, Option.map_some, List.cons_append, List.nil_append, decide_true, decide_false, Bool.not_true, Bool.not_false, Bool.and_true, Bool.true_and, Bool.and_false, Bool.false_and, Bool.or_true, Bool.true_or, Bool.or_false, Bool.false_or, Bool.not_not, ne_eq, not_false_eq_true, not_true_eq_false, true_and, and_true, List.append_assoc, Int.toNat_natCast, natsP_len, NC, hC, c2]), hL2]
  simp only [ISI, EV0, EV1, EV2, EV3, EV4, EV5, EV6, EV7, EV8, EV9, EV10, EV11, SN, Nat.le_add_left, Nat.add_one_sub_one, reduceIte, Bool.false_eq_true, Nat.zero_le, eq_self, List.singleton_append, List.take_succ_cons, List.take_zero, List.drop_succ_cons, List.drop_zero, List.take_nil, List.drop_nil, Nat.reduceAdd, Nat.reduceSub, Nat.reduceMul, Nat.reduceDiv, Nat.reduceMod, Nat.reducePow, Nat.reduceLT, Nat.reduceLeDiff, Nat.reduceEqDiff, Int.reduceAdd, Int.reduceSub, Int.reduceMul, Int.reduceNeg, Int.reducePow, Int.reduceLT, Int.reduceLE, Int.reduceEq, Int.reduceToNat, List.length_cons, List.length_nil, List.length_append, List.length_map, List.length_replicate, List.map_cons, List.map_nil, List.getElem?_map, Option.map_some, List.cons_append, List.nil_append, decide_true, decide_false, Bool.not_true, Bool.not_false, Bool.and_true, Bool.true_and, Bool.and_false, Bool.false_and, Bool.or_true, Bool.true_or, Bool.or_false, Bool.false_or, Bool.not_not, ne_eq, not_false_eq_true, not_true_eq_false, true_and, and_true, List.append_assoc, Int.toNat_natCast, natsP_len, NC, t2, t1]
  rw [lc_intI (fun x => x % 2 ^ (w / 2)) hl1 (fun x hx => by simp only [ISI, EV0, EV1, EV2, EV3, EV4, EV5, EV6, EV7, EV8, EV9, EV10, EV11, SN, Nat.le_add_left, Nat.add_one_sub_one, reduceIte, Bool.false_eq_true, Nat.zero_le, eq_self, List.singleton_append, List.take_succ_cons, List.take_zero, List.drop_succ_cons, List.drop_zero, List.take_nil, List.drop_nil, Nat.reduceAdd, Nat.reduceSub, Nat.reduceMul, Nat.reduceDiv, Nat.reduceMod, Nat.reducePow, Nat.reduceLT, Nat.reduceLeDiff, Nat.reduceEqDiff, Int.reduceAdd, Int.reduceSub, Int.reduceMul, Int.reduceNeg, Int.reducePow, Int.reduceLT, Int.reduceLE, Int.reduceEq, Int.reduceToNat, List.length_cons, List.length_nil, List.length_append, List.length_map, List.length_replicate, List.map_cons, List.map_nil, List.getElem?_map, Option.map_some, List.cons_append, List.nil_append, decide_true, decide_false, Bool.not_true, Bool.not_false, Bool.and_true, Bool.true_and, Bool.and_false, Bool.false_and, Bool.or_true, Bool.true_or, Bool.or_false, Bool.false_or, Bool.not_not, ne_eq, not_false_eq_true, not_true_eq_false, true_and, and_true, List.append_assoc, Int.toNat_natCast, natsP_len, (show w / 2 ≤ 1000000 by omega), NC]), hL3]
  simp only [ISI, EV0, EV1, EV2, EV3, EV4, EV5, EV6, EV7, EV8, EV9, EV10, EV11, SN, Nat.le_add_left, Nat.add_one_sub_one, reduceIte, Bool.false_eq_true, Nat.zero_le, eq_self, List.singleton_append, List.take_succ_cons, List.take_zero, List.drop_succ_cons, List.drop_zero, List.take_nil, List.drop_nil, Nat.reduceAdd, Nat.reduceSub, Nat.reduceMul, Nat.reduceDiv, Nat.reduceMod, Nat.reducePow, Nat.reduceLT, Nat.reduceLeDiff, Nat.reduceEqDiff, Int.reduceAdd, Int.reduceSub, Int.reduceMul, Int.reduceNeg, Int.reducePow, Int.reduceLT, Int.reduceLE, Int.reduceEq, Int.reduceToNat, List.length_cons, List.length_nil, List.length_append, List.length_map, List.length_replicate, List.map_cons, List.map_nil, List.getElem?_map, Option.map_some, List.cons_append, List.nil_append, decide_true, decide_false, Bool.not_true, Bool.not_false, Bool.and_true, Bool.true_and, Bool.and_false, Bool.false_and, Bool.or_true, Bool.true_or, Bool.or_false, Bool.false_or, Bool.not_not, ne_eq, not_false_eq_true, not_true_eq_false, true_and, and_true, List.append_assoc, Int.toNat_natCast, natsP_len, NC, t3, t1, k1]
theorem law_pure {m : Nat} (hm : 31 ≤ m) (ns : List Int) : T m 0 [.scr (ns.map PV.int)] = .ok (.bl true) := by
  obtain ⟨m, rfl, hk⟩ := pos_of hm
  rw [T0]
  have h := f__law_holds (m := m) (by omega) ns
  refine fn_eq rfl ?_
  simp only [ISI, EV0, EV1, EV2, EV3, EV4, EV5, EV6, EV7, EV8, EV9, EV10, EV11, SN, Nat.le_add_left, Nat.add_one_sub_one, reduceIte, Bool.false_eq_true, Nat.zero_le, eq_self, List.singleton_append, List.take_succ_cons, List.take_zero, List.drop_succ_cons, List.drop_zero, List.take_nil, List.drop_nil, Nat.reduceAdd, Nat.reduceSub, Nat.reduceMul, Nat.reduceDiv, Nat.reduceMod, Nat.reducePow, Nat.reduceLT, Nat.reduceLeDiff, Nat.reduceEqDiff, Int.reduceAdd, Int.reduceSub, Int.reduceMul, Int.reduceNeg, Int.reducePow, Int.reduceLT, Int.reduceLE, Int.reduceEq, Int.reduceToNat, List.length_cons, List.length_nil, List.length_append, List.length_map, List.length_replicate, List.map_cons, List.map_nil, List.getElem?_map, Option.map_some, List.cons_append, List.nil_append, decide_true, decide_false, Bool.not_true, Bool.not_false, Bool.and_true, Bool.true_and, Bool.and_false, Bool.false_and, Bool.or_true, Bool.true_or, Bool.or_false, Bool.false_or, Bool.not_not, ne_eq, not_false_eq_true, not_true_eq_false, true_and, and_true, List.append_assoc, Int.toNat_natCast, natsP_len, s0]
  rw [run_try0]
  simp only [ISI, EV0, EV1, EV2, EV3, EV4, EV5, EV6, EV7, EV8, EV9, EV10, EV11, SN, Nat.le_add_left, Nat.add_one_sub_one, reduceIte, Bool.false_eq_true, Nat.zero_le, eq_self, List.singleton_append, List.take_succ_cons, List.take_zero, List.drop_succ_cons, List.drop_zero, List.take_nil, List.drop_nil, Nat.reduceAdd, Nat.reduceSub, Nat.reduceMul, Nat.reduceDiv, Nat.reduceMod, Nat.reducePow, Nat.reduceLT, Nat.reduceLeDiff, Nat.reduceEqDiff, Int.reduceAdd, Int.reduceSub, Int.reduceMul, Int.reduceNeg, Int.reducePow, Int.reduceLT, Int.reduceLE, Int.reduceEq, Int.reduceToNat, List.length_cons, List.length_nil, List.length_append, List.length_map, List.length_replicate, List.map_cons, List.map_nil, List.getElem?_map, Option.map_some, List.cons_append, List.nil_append, decide_true, decide_false, Bool.not_true, Bool.not_false, Bool.and_true, Bool.true_and, Bool.and_false, Bool.false_and, Bool.or_true, Bool.true_or, Bool.or_false, Bool.false_or, Bool.not_not, ne_eq, not_false_eq_true, not_true_eq_false, true_and, and_true, List.append_assoc, Int.toNat_natCast, natsP_len, h, List.replicate]
end PPK10

namespace PPK10
open PySem L2 PP
theorem pure_ok (ns : List Int) (h : ns.length ≤ 63) : tab step 40 0 [.scr (ns.map PV.int)] = .ok (.bl true) := law_pure (m := 40) (by decide) ns
end PPK10

namespace PPK10
open PySem PySem.Spec L2 PP
abbrev fd0 (kV dc pm : Value) (an : Option Addr) (cd ct : Value) : FuncData := PySem.W.fnOf "law" "law" (defArgs q0) (defBody q0) (defScope q0) .none kV dc pm an cd ct
abbrev fd1 (kV dc pm : Value) (an : Option Addr) (cd ct : Value) : FuncData := PySem.W.fnOf "_law_holds" "_law_holds" (defArgs q1) (defBody q1) (defScope q1) .none kV dc pm an cd ct
abbrev fd2 (kV dc pm : Value) (an : Option Addr) (cd ct : Value) : FuncData := PySem.W.fnOf "_law_draws" "_law_draws" (defArgs q2) (defBody q2) (defScope q2) .none kV dc pm an cd ct
abbrev fd3 (kV dc pm : Value) (an : Option Addr) (cd ct : Value) : FuncData := PySem.W.fnOf "_law_deeds" "_law_deeds" (defArgs q3) (defBody q3) (defScope q3) .none kV dc pm an cd ct
abbrev fd4 (kV dc pm : Value) (an : Option Addr) (cd ct : Value) : FuncData := PySem.W.fnOf "__init__" "Row.__init__" (defArgs q4) (defBody q4) (defScope q4) .none kV dc pm an cd ct
abbrev fd5 (kV dc pm : Value) (an : Option Addr) (cd ct : Value) : FuncData := PySem.W.fnOf "_law_cell" "_law_cell" (defArgs q5) (defBody q5) (defScope q5) .none kV dc pm an cd ct
abbrev fd6 (kV dc pm : Value) (an : Option Addr) (cd ct : Value) : FuncData := PySem.W.fnOf "_law_word" "_law_word" (defArgs q6) (defBody q6) (defScope q6) .none kV dc pm an cd ct
abbrev fd7 (kV dc pm : Value) (an : Option Addr) (cd ct : Value) : FuncData := PySem.W.fnOf "_law_told" "_law_told" (defArgs q7) (defBody q7) (defScope q7) .none kV dc pm an cd ct
abbrev fd8 (kV dc pm : Value) (an : Option Addr) (cd ct : Value) : FuncData := PySem.W.fnOf "_law_kept" "_law_kept" (defArgs q8) (defBody q8) (defScope q8) .none kV dc pm an cd ct
abbrev fd9 (kV dc pm : Value) (an : Option Addr) (cd ct : Value) : FuncData := PySem.W.fnOf "_law_integer" "_law_integer" (defArgs q9) (defBody q9) (defScope q9) .none kV dc pm an cd ct
abbrev fd10 (kV dc pm : Value) (an : Option Addr) (cd ct : Value) : FuncData := PySem.W.fnOf "_law_equal_rightly" "_law_equal_rightly" (defArgs q10) (defBody q10) (defScope q10) .none kV dc pm an cd ct
abbrev fd11 (kV dc pm : Value) (an : Option Addr) (cd ct : Value) : FuncData := PySem.W.fnOf "_law_mixed" "_law_mixed" (defArgs q11) (defBody q11) (defScope q11) .none kV dc pm an cd ct
abbrev fd12 (kV dc pm : Value) (an : Option Addr) (cd ct : Value) : FuncData := PySem.W.fnOf "_law_deed" "_law_deed" (defArgs q12) (defBody q12) (defScope q12) .none kV dc pm an cd ct
abbrev fd13 (kV dc pm : Value) (an : Option Addr) (cd ct : Value) : FuncData := PySem.W.fnOf "as_tuple" "as_tuple" (defArgs q13) (defBody q13) (defScope q13) .none kV dc pm an cd ct
abbrev fd14 (kV dc pm : Value) (an : Option Addr) (cd ct : Value) : FuncData := PySem.W.fnOf "is_inputs" "is_inputs" (defArgs q14) (defBody q14) (defScope q14) .none kV dc pm an cd ct
abbrev fd15 (kV dc pm : Value) (an : Option Addr) (cd ct : Value) : FuncData := PySem.W.fnOf "is_below" "is_below" (defArgs q15) (defBody q15) (defScope q15) .none kV dc pm an cd ct
abbrev fd16 (kV dc pm : Value) (an : Option Addr) (cd ct : Value) : FuncData := PySem.W.fnOf "is_deed" "is_deed" (defArgs q16) (defBody q16) (defScope q16) .none kV dc pm an cd ct
abbrev fd17 (kV dc pm : Value) (an : Option Addr) (cd ct : Value) : FuncData := PySem.W.fnOf "_law_numbers" "_law_numbers" (defArgs q17) (defBody q17) (defScope q17) .none kV dc pm an cd ct
abbrev fd18 (kV dc pm : Value) (an : Option Addr) (cd ct : Value) : FuncData := PySem.W.fnOf "write" "Row.write" (defArgs q18) (defBody q18) (defScope q18) .none kV dc pm an cd ct
abbrev fd19 (kV dc pm : Value) (an : Option Addr) (cd ct : Value) : FuncData := PySem.W.fnOf "_law_same" "_law_same" (defArgs q19) (defBody q19) (defScope q19) .none kV dc pm an cd ct
abbrev fd20 (kV dc pm : Value) (an : Option Addr) (cd ct : Value) : FuncData := PySem.W.fnOf "all_words" "Row.all_words" (defArgs q20) (defBody q20) (defScope q20) .none kV dc pm an cd ct
abbrev fd21 (kV dc pm : Value) (an : Option Addr) (cd ct : Value) : FuncData := PySem.W.fnOf "__len__" "Row.__len__" (defArgs q21) (defBody q21) (defScope q21) .none kV dc pm an cd ct
abbrev fd22 (kV dc pm : Value) (an : Option Addr) (cd ct : Value) : FuncData := PySem.W.fnOf "_law_near" "_law_near" (defArgs q22) (defBody q22) (defScope q22) .none kV dc pm an cd ct
abbrev fd23 (kV dc pm : Value) (an : Option Addr) (cd ct : Value) : FuncData := PySem.W.fnOf "__eq__" "Row.__eq__" (defArgs q23) (defBody q23) (defScope q23) .none kV dc pm an cd ct
abbrev fd24 (kV dc pm : Value) (an : Option Addr) (cd ct : Value) : FuncData := PySem.W.fnOf "is_integer" "is_integer" (defArgs q24) (defBody q24) (defScope q24) .none kV dc pm an cd ct
abbrev fd25 (kV dc pm : Value) (an : Option Addr) (cd ct : Value) : FuncData := PySem.W.fnOf "are_values" "are_values" (defArgs q25) (defBody q25) (defScope q25) .none kV dc pm an cd ct
abbrev fd26 (kV dc pm : Value) (an : Option Addr) (cd ct : Value) : FuncData := PySem.W.fnOf "is_count_deed" "is_count_deed" (defArgs q26) (defBody q26) (defScope q26) .none kV dc pm an cd ct
abbrev fd27 (kV dc pm : Value) (an : Option Addr) (cd ct : Value) : FuncData := PySem.W.fnOf "_law_value" "_law_value" (defArgs q27) (defBody q27) (defScope q27) .none kV dc pm an cd ct
abbrev fd28 (kV dc pm : Value) (an : Option Addr) (cd ct : Value) : FuncData := PySem.W.fnOf "is_number" "is_number" (defArgs q28) (defBody q28) (defScope q28) .none kV dc pm an cd ct
abbrev fd29 (kV dc pm : Value) (an : Option Addr) (cd ct : Value) : FuncData := PySem.W.fnOf "are_words" "are_words" (defArgs q29) (defBody q29) (defScope q29) .none kV dc pm an cd ct
abbrev fd30 (kV dc pm : Value) (an : Option Addr) (cd ct : Value) : FuncData := PySem.W.fnOf "deed_word" "deed_word" (defArgs q30) (defBody q30) (defScope q30) .none kV dc pm an cd ct
abbrev fd31 (kV dc pm : Value) (an : Option Addr) (cd ct : Value) : FuncData := PySem.W.fnOf "_law_count" "_law_count" (defArgs q31) (defBody q31) (defScope q31) .none kV dc pm an cd ct
abbrev fd32 (kV dc pm : Value) (an : Option Addr) (cd ct : Value) : FuncData := PySem.W.fnOf "is_word" "is_word" (defArgs q32) (defBody q32) (defScope q32) .none kV dc pm an cd ct
abbrev fd33 (kV dc pm : Value) (an : Option Addr) (cd ct : Value) : FuncData := PySem.W.fnOf "counted_word" "counted_word" (defArgs q33) (defBody q33) (defScope q33) .none kV dc pm an cd ct
section
variable {P : Program} {w : World} {K : PySem.W.Frag} {h : Heap} {mg : Str → Option Value} {fa : Addr}
abbrev gOf (K : PySem.W.Frag) (w : World) (cs : List Addr) : Cfg := { K := K, w := w, cls := fun c => cs[c]?, names := names, exc := fun _ => none, exnames := fun _ => [] }
theorem all_mk (X : K.In h) (Gn : h.Ns mainGlobals mg) (hfa : mg "law" = some (.ref fa))
    {f0 : Addr} {oc0 kV0 dc0 pm0 cd0 ct0 : Value} {od0 an0 : Option Addr} {sl0 : Array (Option Value)}
    {f1 : Addr} {oc1 kV1 dc1 pm1 cd1 ct1 : Value} {od1 an1 : Option Addr} {sl1 : Array (Option Value)}
    {f2 : Addr} {oc2 kV2 dc2 pm2 cd2 ct2 : Value} {od2 an2 : Option Addr} {sl2 : Array (Option Value)}
    {f3 : Addr} {oc3 kV3 dc3 pm3 cd3 ct3 : Value} {od3 an3 : Option Addr} {sl3 : Array (Option Value)}
    {f4 : Addr} {oc4 kV4 dc4 pm4 cd4 ct4 : Value} {od4 an4 : Option Addr} {sl4 : Array (Option Value)}
    {f5 : Addr} {oc5 kV5 dc5 pm5 cd5 ct5 : Value} {od5 an5 : Option Addr} {sl5 : Array (Option Value)}
    {f6 : Addr} {oc6 kV6 dc6 pm6 cd6 ct6 : Value} {od6 an6 : Option Addr} {sl6 : Array (Option Value)}
    {f7 : Addr} {oc7 kV7 dc7 pm7 cd7 ct7 : Value} {od7 an7 : Option Addr} {sl7 : Array (Option Value)}
    {f8 : Addr} {oc8 kV8 dc8 pm8 cd8 ct8 : Value} {od8 an8 : Option Addr} {sl8 : Array (Option Value)}
    {f9 : Addr} {oc9 kV9 dc9 pm9 cd9 ct9 : Value} {od9 an9 : Option Addr} {sl9 : Array (Option Value)}
    {f10 : Addr} {oc10 kV10 dc10 pm10 cd10 ct10 : Value} {od10 an10 : Option Addr} {sl10 : Array (Option Value)}
    {f11 : Addr} {oc11 kV11 dc11 pm11 cd11 ct11 : Value} {od11 an11 : Option Addr} {sl11 : Array (Option Value)}
    {f12 : Addr} {oc12 kV12 dc12 pm12 cd12 ct12 : Value} {od12 an12 : Option Addr} {sl12 : Array (Option Value)}
    {f13 : Addr} {oc13 kV13 dc13 pm13 cd13 ct13 : Value} {od13 an13 : Option Addr} {sl13 : Array (Option Value)}
    {f14 : Addr} {oc14 kV14 dc14 pm14 cd14 ct14 : Value} {od14 an14 : Option Addr} {sl14 : Array (Option Value)}
    {f15 : Addr} {oc15 kV15 dc15 pm15 cd15 ct15 : Value} {od15 an15 : Option Addr} {sl15 : Array (Option Value)}
    {f16 : Addr} {oc16 kV16 dc16 pm16 cd16 ct16 : Value} {od16 an16 : Option Addr} {sl16 : Array (Option Value)}
    {f17 : Addr} {oc17 kV17 dc17 pm17 cd17 ct17 : Value} {od17 an17 : Option Addr} {sl17 : Array (Option Value)}
    {f18 : Addr} {oc18 kV18 dc18 pm18 cd18 ct18 : Value} {od18 an18 : Option Addr} {sl18 : Array (Option Value)}
    {f19 : Addr} {oc19 kV19 dc19 pm19 cd19 ct19 : Value} {od19 an19 : Option Addr} {sl19 : Array (Option Value)}
    {f20 : Addr} {oc20 kV20 dc20 pm20 cd20 ct20 : Value} {od20 an20 : Option Addr} {sl20 : Array (Option Value)}
    {f21 : Addr} {oc21 kV21 dc21 pm21 cd21 ct21 : Value} {od21 an21 : Option Addr} {sl21 : Array (Option Value)}
    {f22 : Addr} {oc22 kV22 dc22 pm22 cd22 ct22 : Value} {od22 an22 : Option Addr} {sl22 : Array (Option Value)}
    {f23 : Addr} {oc23 kV23 dc23 pm23 cd23 ct23 : Value} {od23 an23 : Option Addr} {sl23 : Array (Option Value)}
    {f24 : Addr} {oc24 kV24 dc24 pm24 cd24 ct24 : Value} {od24 an24 : Option Addr} {sl24 : Array (Option Value)}
    {f25 : Addr} {oc25 kV25 dc25 pm25 cd25 ct25 : Value} {od25 an25 : Option Addr} {sl25 : Array (Option Value)}
    {f26 : Addr} {oc26 kV26 dc26 pm26 cd26 ct26 : Value} {od26 an26 : Option Addr} {sl26 : Array (Option Value)}
    {f27 : Addr} {oc27 kV27 dc27 pm27 cd27 ct27 : Value} {od27 an27 : Option Addr} {sl27 : Array (Option Value)}
    {f28 : Addr} {oc28 kV28 dc28 pm28 cd28 ct28 : Value} {od28 an28 : Option Addr} {sl28 : Array (Option Value)}
    {f29 : Addr} {oc29 kV29 dc29 pm29 cd29 ct29 : Value} {od29 an29 : Option Addr} {sl29 : Array (Option Value)}
    {f30 : Addr} {oc30 kV30 dc30 pm30 cd30 ct30 : Value} {od30 an30 : Option Addr} {sl30 : Array (Option Value)}
    {f31 : Addr} {oc31 kV31 dc31 pm31 cd31 ct31 : Value} {od31 an31 : Option Addr} {sl31 : Array (Option Value)}
    {f32 : Addr} {oc32 kV32 dc32 pm32 cd32 ct32 : Value} {od32 an32 : Option Addr} {sl32 : Array (Option Value)}
    {f33 : Addr} {oc33 kV33 dc33 pm33 cd33 ct33 : Value} {od33 an33 : Option Addr} {sl33 : Array (Option Value)}
    {C0 : Addr}
    {d0 : Addr} {es0 : Array DictEntry} {en0 : Nat}
    (aC0 : PySem.W.nsIn K mainGlobals "Row" = some (some (.ref C0)))
    (a0 : PySem.W.nsIn K mainGlobals "law" = some (some (.ref f0)))
    (l0 : K.lookup f0 = some ⟨oc0, od0, .func (fd0 kV0 dc0 pm0 an0 cd0 ct0), sl0⟩)
    (c0 : PySem.W.codeIn K cd0 "law" = true)
    (k0 : PySem.W.keepIn K (.ref f0) = true)
    (a1 : PySem.W.nsIn K mainGlobals "_law_holds" = some (some (.ref f1)))
    (l1 : K.lookup f1 = some ⟨oc1, od1, .func (fd1 kV1 dc1 pm1 an1 cd1 ct1), sl1⟩)
    (c1 : PySem.W.codeIn K cd1 "_law_holds" = true)
    (k1 : PySem.W.keepIn K (.ref f1) = true)
    (a2 : PySem.W.nsIn K mainGlobals "_law_draws" = some (some (.ref f2)))
    (l2 : K.lookup f2 = some ⟨oc2, od2, .func (fd2 kV2 dc2 pm2 an2 cd2 ct2), sl2⟩)
    (c2 : PySem.W.codeIn K cd2 "_law_draws" = true)
    (k2 : PySem.W.keepIn K (.ref f2) = true)
    (a3 : PySem.W.nsIn K mainGlobals "_law_deeds" = some (some (.ref f3)))
    (l3 : K.lookup f3 = some ⟨oc3, od3, .func (fd3 kV3 dc3 pm3 an3 cd3 ct3), sl3⟩)
    (c3 : PySem.W.codeIn K cd3 "_law_deeds" = true)
    (k3 : PySem.W.keepIn K (.ref f3) = true)
    (a4 : PySem.W.findIn K (.ref C0) "__init__" = some (some (.ref f4)))
    (i4 : PySem.W.isFn K (.ref f4) = true)
    (l4 : K.lookup f4 = some ⟨oc4, od4, .func (fd4 kV4 dc4 pm4 an4 cd4 ct4), sl4⟩)
    (c4 : PySem.W.codeIn K cd4 "Row.__init__" = true)
    (k4 : PySem.W.keepIn K (.ref f4) = true)
    (a5 : PySem.W.nsIn K mainGlobals "_law_cell" = some (some (.ref f5)))
    (l5 : K.lookup f5 = some ⟨oc5, od5, .func (fd5 kV5 dc5 pm5 an5 cd5 ct5), sl5⟩)
    (c5 : PySem.W.codeIn K cd5 "_law_cell" = true)
    (k5 : PySem.W.keepIn K (.ref f5) = true)
    (a6 : PySem.W.nsIn K mainGlobals "_law_word" = some (some (.ref f6)))
    (l6 : K.lookup f6 = some ⟨oc6, od6, .func (fd6 kV6 dc6 pm6 an6 cd6 ct6), sl6⟩)
    (c6 : PySem.W.codeIn K cd6 "_law_word" = true)
    (k6 : PySem.W.keepIn K (.ref f6) = true)
    (a7 : PySem.W.nsIn K mainGlobals "_law_told" = some (some (.ref f7)))
    (l7 : K.lookup f7 = some ⟨oc7, od7, .func (fd7 kV7 dc7 pm7 an7 cd7 ct7), sl7⟩)
    (c7 : PySem.W.codeIn K cd7 "_law_told" = true)
    (k7 : PySem.W.keepIn K (.ref f7) = true)
    (a8 : PySem.W.nsIn K mainGlobals "_law_kept" = some (some (.ref f8)))
    (l8 : K.lookup f8 = some ⟨oc8, od8, .func (fd8 kV8 dc8 pm8 an8 cd8 ct8), sl8⟩)
    (c8 : PySem.W.codeIn K cd8 "_law_kept" = true)
    (k8 : PySem.W.keepIn K (.ref f8) = true)
    (a9 : PySem.W.nsIn K mainGlobals "_law_integer" = some (some (.ref f9)))
    (l9 : K.lookup f9 = some ⟨oc9, od9, .func (fd9 kV9 dc9 pm9 an9 cd9 ct9), sl9⟩)
    (c9 : PySem.W.codeIn K cd9 "_law_integer" = true)
    (k9 : PySem.W.keepIn K (.ref f9) = true)
    (a10 : PySem.W.nsIn K mainGlobals "_law_equal_rightly" = some (some (.ref f10)))
    (l10 : K.lookup f10 = some ⟨oc10, od10, .func (fd10 kV10 dc10 pm10 an10 cd10 ct10), sl10⟩)
    (c10 : PySem.W.codeIn K cd10 "_law_equal_rightly" = true)
    (k10 : PySem.W.keepIn K (.ref f10) = true)
    (a11 : PySem.W.nsIn K mainGlobals "_law_mixed" = some (some (.ref f11)))
    (l11 : K.lookup f11 = some ⟨oc11, od11, .func (fd11 kV11 dc11 pm11 an11 cd11 ct11), sl11⟩)
    (c11 : PySem.W.codeIn K cd11 "_law_mixed" = true)
    (k11 : PySem.W.keepIn K (.ref f11) = true)
    (a12 : PySem.W.nsIn K mainGlobals "_law_deed" = some (some (.ref f12)))
    (l12 : K.lookup f12 = some ⟨oc12, od12, .func (fd12 kV12 dc12 pm12 an12 cd12 ct12), sl12⟩)
    (c12 : PySem.W.codeIn K cd12 "_law_deed" = true)
    (k12 : PySem.W.keepIn K (.ref f12) = true)
    (a13 : PySem.W.nsIn K mainGlobals "as_tuple" = some (some (.ref f13)))
    (l13 : K.lookup f13 = some ⟨oc13, od13, .func (fd13 kV13 dc13 pm13 an13 cd13 ct13), sl13⟩)
    (c13 : PySem.W.codeIn K cd13 "as_tuple" = true)
    (k13 : PySem.W.keepIn K (.ref f13) = true)
    (a14 : PySem.W.nsIn K mainGlobals "is_inputs" = some (some (.ref f14)))
    (l14 : K.lookup f14 = some ⟨oc14, od14, .func (fd14 kV14 dc14 pm14 an14 cd14 ct14), sl14⟩)
    (c14 : PySem.W.codeIn K cd14 "is_inputs" = true)
    (k14 : PySem.W.keepIn K (.ref f14) = true)
    (a15 : PySem.W.nsIn K mainGlobals "is_below" = some (some (.ref f15)))
    (l15 : K.lookup f15 = some ⟨oc15, od15, .func (fd15 kV15 dc15 pm15 an15 cd15 ct15), sl15⟩)
    (c15 : PySem.W.codeIn K cd15 "is_below" = true)
    (k15 : PySem.W.keepIn K (.ref f15) = true)
    (a16 : PySem.W.nsIn K mainGlobals "is_deed" = some (some (.ref f16)))
    (l16 : K.lookup f16 = some ⟨oc16, od16, .func (fd16 kV16 dc16 pm16 an16 cd16 ct16), sl16⟩)
    (c16 : PySem.W.codeIn K cd16 "is_deed" = true)
    (k16 : PySem.W.keepIn K (.ref f16) = true)
    (a17 : PySem.W.nsIn K mainGlobals "_law_numbers" = some (some (.ref f17)))
    (l17 : K.lookup f17 = some ⟨oc17, od17, .func (fd17 kV17 dc17 pm17 an17 cd17 ct17), sl17⟩)
    (c17 : PySem.W.codeIn K cd17 "_law_numbers" = true)
    (k17 : PySem.W.keepIn K (.ref f17) = true)
    (a18 : PySem.W.findIn K (.ref C0) "write" = some (some (.ref f18)))
    (i18 : PySem.W.isFn K (.ref f18) = true)
    (l18 : K.lookup f18 = some ⟨oc18, od18, .func (fd18 kV18 dc18 pm18 an18 cd18 ct18), sl18⟩)
    (c18 : PySem.W.codeIn K cd18 "Row.write" = true)
    (k18 : PySem.W.keepIn K (.ref f18) = true)
    (a19 : PySem.W.nsIn K mainGlobals "_law_same" = some (some (.ref f19)))
    (l19 : K.lookup f19 = some ⟨oc19, od19, .func (fd19 kV19 dc19 pm19 an19 cd19 ct19), sl19⟩)
    (c19 : PySem.W.codeIn K cd19 "_law_same" = true)
    (k19 : PySem.W.keepIn K (.ref f19) = true)
    (a20 : PySem.W.findIn K (.ref C0) "all_words" = some (some (.ref f20)))
    (i20 : PySem.W.isFn K (.ref f20) = true)
    (l20 : K.lookup f20 = some ⟨oc20, od20, .func (fd20 kV20 dc20 pm20 an20 cd20 ct20), sl20⟩)
    (c20 : PySem.W.codeIn K cd20 "Row.all_words" = true)
    (k20 : PySem.W.keepIn K (.ref f20) = true)
    (a21 : PySem.W.findIn K (.ref C0) "__len__" = some (some (.ref f21)))
    (i21 : PySem.W.isFn K (.ref f21) = true)
    (l21 : K.lookup f21 = some ⟨oc21, od21, .func (fd21 kV21 dc21 pm21 an21 cd21 ct21), sl21⟩)
    (c21 : PySem.W.codeIn K cd21 "Row.__len__" = true)
    (k21 : PySem.W.keepIn K (.ref f21) = true)
    (a22 : PySem.W.nsIn K mainGlobals "_law_near" = some (some (.ref f22)))
    (l22 : K.lookup f22 = some ⟨oc22, od22, .func (fd22 kV22 dc22 pm22 an22 cd22 ct22), sl22⟩)
    (c22 : PySem.W.codeIn K cd22 "_law_near" = true)
    (k22 : PySem.W.keepIn K (.ref f22) = true)
    (a23 : PySem.W.findIn K (.ref C0) "__eq__" = some (some (.ref f23)))
    (i23 : PySem.W.isFn K (.ref f23) = true)
    (l23 : K.lookup f23 = some ⟨oc23, od23, .func (fd23 kV23 dc23 pm23 an23 cd23 ct23), sl23⟩)
    (c23 : PySem.W.codeIn K cd23 "Row.__eq__" = true)
    (k23 : PySem.W.keepIn K (.ref f23) = true)
    (a24 : PySem.W.nsIn K mainGlobals "is_integer" = some (some (.ref f24)))
    (l24 : K.lookup f24 = some ⟨oc24, od24, .func (fd24 kV24 dc24 pm24 an24 cd24 ct24), sl24⟩)
    (c24 : PySem.W.codeIn K cd24 "is_integer" = true)
    (k24 : PySem.W.keepIn K (.ref f24) = true)
    (a25 : PySem.W.nsIn K mainGlobals "are_values" = some (some (.ref f25)))
    (l25 : K.lookup f25 = some ⟨oc25, od25, .func (fd25 kV25 dc25 pm25 an25 cd25 ct25), sl25⟩)
    (c25 : PySem.W.codeIn K cd25 "are_values" = true)
    (k25 : PySem.W.keepIn K (.ref f25) = true)
    (a26 : PySem.W.nsIn K mainGlobals "is_count_deed" = some (some (.ref f26)))
    (l26 : K.lookup f26 = some ⟨oc26, od26, .func (fd26 kV26 dc26 pm26 an26 cd26 ct26), sl26⟩)
    (c26 : PySem.W.codeIn K cd26 "is_count_deed" = true)
    (k26 : PySem.W.keepIn K (.ref f26) = true)
    (a27 : PySem.W.nsIn K mainGlobals "_law_value" = some (some (.ref f27)))
    (l27 : K.lookup f27 = some ⟨oc27, od27, .func (fd27 kV27 dc27 pm27 an27 cd27 ct27), sl27⟩)
    (c27 : PySem.W.codeIn K cd27 "_law_value" = true)
    (k27 : PySem.W.keepIn K (.ref f27) = true)
    (a28 : PySem.W.nsIn K mainGlobals "is_number" = some (some (.ref f28)))
    (l28 : K.lookup f28 = some ⟨oc28, od28, .func (fd28 kV28 dc28 pm28 an28 cd28 ct28), sl28⟩)
    (c28 : PySem.W.codeIn K cd28 "is_number" = true)
    (k28 : PySem.W.keepIn K (.ref f28) = true)
    (a29 : PySem.W.nsIn K mainGlobals "are_words" = some (some (.ref f29)))
    (l29 : K.lookup f29 = some ⟨oc29, od29, .func (fd29 kV29 dc29 pm29 an29 cd29 ct29), sl29⟩)
    (c29 : PySem.W.codeIn K cd29 "are_words" = true)
    (k29 : PySem.W.keepIn K (.ref f29) = true)
    (a30 : PySem.W.nsIn K mainGlobals "deed_word" = some (some (.ref f30)))
    (l30 : K.lookup f30 = some ⟨oc30, od30, .func (fd30 kV30 dc30 pm30 an30 cd30 ct30), sl30⟩)
    (c30 : PySem.W.codeIn K cd30 "deed_word" = true)
    (k30 : PySem.W.keepIn K (.ref f30) = true)
    (a31 : PySem.W.nsIn K mainGlobals "_law_count" = some (some (.ref f31)))
    (l31 : K.lookup f31 = some ⟨oc31, od31, .func (fd31 kV31 dc31 pm31 an31 cd31 ct31), sl31⟩)
    (c31 : PySem.W.codeIn K cd31 "_law_count" = true)
    (k31 : PySem.W.keepIn K (.ref f31) = true)
    (a32 : PySem.W.nsIn K mainGlobals "is_word" = some (some (.ref f32)))
    (l32 : K.lookup f32 = some ⟨oc32, od32, .func (fd32 kV32 dc32 pm32 an32 cd32 ct32), sl32⟩)
    (c32 : PySem.W.codeIn K cd32 "is_word" = true)
    (k32 : PySem.W.keepIn K (.ref f32) = true)
    (a33 : PySem.W.nsIn K mainGlobals "counted_word" = some (some (.ref f33)))
    (l33 : K.lookup f33 = some ⟨oc33, od33, .func (fd33 kV33 dc33 pm33 an33 cd33 ct33), sl33⟩)
    (c33 : PySem.W.codeIn K cd33 "counted_word" = true)
    (k33 : PySem.W.keepIn K (.ref f33) = true)
    (pg0 : PySem.W.plainGet K C0 Str.empty = true)
    (hd0 : PySem.W.hasDictIn K C0 = true)
    (po0 : PySem.W.plainOver K C0 = true)
    (sa0 : PySem.W.findIn K (.ref C0) "__setattr__" = some (some (.builtin "object.__setattr__")))
    (mk0 : PySem.W.makesIn K C0 = true)
    (kc0 : PySem.W.keepIn K (.ref C0) = true)
    (nf0_0 : PySem.W.findIn K (.ref C0) "inputs" = some none)
    (nf0_1 : PySem.W.findIn K (.ref C0) "deeds" = some none)
    (nf0_2 : PySem.W.findIn K (.ref C0) "out" = some none)
    (ia0 : PySem.W.findIn K (.ref C0) "__class__" = some (some (.builtin "object.__class__")))
    (ib0 : PySem.W.specialIn K (.builtin "object.__class__") "__get__" = some (some (.builtin "getset_descriptor.__get__")))
    (ic0 : PySem.W.takesIn K (.builtin "object.__class__") = some true)
    (id0 : PySem.W.mroIn K C0 (.type "object") = some true)
    (ie0 : PySem.W.findIn K (.ref C0) "__ne__" = some (some (.builtin "object.__ne__")))
    (nq0_0 : PySem.W.notFirst K C0 (.ref C0) = true)
    (y0 : PySem.W.kitOne K (.ref C0) (.type "bool") = some false)
    (y1 : PySem.W.kitOne K (.ref C0) (.type "int") = some false)
    (y2 : PySem.W.kitOne K (.ref C0) (.type "list") = some false)
    (y3 : PySem.W.kitOne K (.ref C0) (.type "str") = some false)
    (y4 : PySem.W.kitOne K (.ref C0) (.type "tuple") = some false)
    (y5 : PySem.W.kitOne K (.ref C0) (.ref C0) = some true)
    (y6 : PySem.W.kitOne K (.type "NoneType") (.ref C0) = some false)
    (y7 : PySem.W.kitOne K (.type "bool") (.ref C0) = some false)
    (y8 : PySem.W.kitOne K (.type "int") (.ref C0) = some false)
    (y9 : PySem.W.kitOne K (.type "str") (.ref C0) = some false)
    (y10 : PySem.W.kitOne K (.type "tuple") (.ref C0) = some false)
    (y11 : PySem.W.kitOne K (.type "list") (.ref C0) = some false)
    (aK0 : PySem.W.nsIn K mainGlobals "SIZES" = some (some (.ref d0)))
    (kl0 : K.lookup d0 = some ⟨.type "dict", none, .dict es0 en0, #[]⟩)
    (kd0 : es0.toList.map entW = entIn w.params [("zero", (.int 0)), ("ones", (.int 0)), ("not", (.int 1)), ("and", (.int 2)), ("or", (.int 2)), ("xor", (.int 2)), ("shift", (.int 1)), ("minus", (.int 1)), ("add", (.int 2)), ("sub", (.int 2))])
    (ks0 : (d0 == sysModules) = false)
    (z0 : PySem.W.nsIn K mainGlobals "len" = some none)
    (z1 : PySem.W.nsIn K mainGlobals "range" = some none)
    (z2 : PySem.W.nsIn K mainGlobals "isinstance" = some none)
    (z3 : PySem.W.nsIn K mainGlobals "int" = some none)
    (z4 : PySem.W.nsIn K mainGlobals "bool" = some none)
    (z5 : PySem.W.nsIn K mainGlobals "str" = some none)
    (z6 : PySem.W.nsIn K mainGlobals "list" = some none)
    (z7 : PySem.W.nsIn K mainGlobals "tuple" = some none)
    (z8 : PySem.W.nsIn K mainGlobals "sum" = some none)
    (z9 : PySem.W.nsIn K mainGlobals "all" = some none)
    (z10 : PySem.W.nsIn K mainGlobals "any" = some none)
    (z11 : PySem.W.nsIn K mainGlobals "min" = some none)
    (z12 : PySem.W.nsIn K mainGlobals "max" = some none)
    (z13 : PySem.W.nsIn K mainGlobals "abs" = some none)
    (z14 : PySem.W.nsIn K mainGlobals "sorted" = some none)
    (z15 : PySem.W.nsIn K mainGlobals "enumerate" = some none)
    (z16 : PySem.W.nsIn K mainGlobals "zip" = some none)
    (z17 : PySem.W.nsIn K mainGlobals "set" = some none)
    (z18 : PySem.W.nsIn K mainGlobals "dict" = some none)
    (z19 : PySem.W.nsIn K mainGlobals "reversed" = some none)
    (z20 : PySem.W.nsIn K mainGlobals "super" = some none)
    (z21 : PySem.W.nsIn K mainGlobals "ValueError" = some none)
    : ∃ fd : FuncData, (∀ (s : Shared) (u : Value), BindsTo s fd ⟨[u], []⟩ [(("script" : Str), u)]) ∧ ∀ base : Heap, K.In base → base.Ns mainGlobals mg → FnOk P w K mg base (L2.CX P w) (2 * 40) fa fd [("script" : Str)] (spLaw K) := by
  have e : f0 = fa := Value.ref.inj (Option.some.inj ((PySem.W.mg_of X Gn a0).symm.trans hfa))
  subst e
  have F0 := fun_mk (st := q0) l0 c0 k0
  have b0 := F0.binds (ps := ["script"]) fun _ _ _ _ _ _ us hl => match us, hl with | [_], _ => rfl
  have F1 := fun_mk (st := q1) l1 c1 k1
  have b1 := F1.binds (ps := ["script"]) fun _ _ _ _ _ _ us hl => match us, hl with | [_], _ => rfl
  have F2 := fun_mk (st := q2) l2 c2 k2
  have b2 := F2.binds (ps := ["cell", "sizes"]) fun _ _ _ _ _ _ us hl => match us, hl with | [_, _], _ => rfl
  have F3 := fun_mk (st := q3) l3 c3 k3
  have b3 := F3.binds (ps := ["script", "k", "inputs", "many"]) fun _ _ _ _ _ _ us hl => match us, hl with | [_, _, _, _], _ => rfl
  have F4 := fun_mk (st := q4) l4 c4 k4
  have b4 := F4.binds (ps := ["self", "inputs", "deeds", "out"]) fun _ _ _ _ _ _ us hl => match us, hl with | [_, _, _, _], _ => rfl
  have F5 := fun_mk (st := q5) l5 c5 k5
  have b5 := F5.binds (ps := ["script", "k"]) fun _ _ _ _ _ _ us hl => match us, hl with | [_, _], _ => rfl
  have F6 := fun_mk (st := q6) l6 c6 k6
  have b6 := F6.binds (ps := ["cell", "width"]) fun _ _ _ _ _ _ us hl => match us, hl with | [_, _], _ => rfl
  have F7 := fun_mk (st := q7) l7 c7 k7
  have b7 := F7.binds (ps := ["row", "width", "chosen", "deeds", "out"]) fun _ _ _ _ _ _ us hl => match us, hl with | [_, _, _, _, _], _ => rfl
  have F8 := fun_mk (st := q8) l8 c8 k8
  have b8 := F8.binds (ps := ["row", "deeds"]) fun _ _ _ _ _ _ us hl => match us, hl with | [_, _], _ => rfl
  have F9 := fun_mk (st := q9) l9 c9 k9
  have b9 := F9.binds (ps := ["actual", "due"]) fun _ _ _ _ _ _ us hl => match us, hl with | [_, _], _ => rfl
  have F10 := fun_mk (st := q10) l10 c10 k10
  have b10 := F10.binds (ps := ["row", "inputs", "deeds", "out", "draws"]) fun _ _ _ _ _ _ us hl => match us, hl with | [_, _, _, _, _], _ => rfl
  have F11 := fun_mk (st := q11) l11 c11 k11
  have b11 := F11.binds (ps := ["cell", "k"]) fun _ _ _ _ _ _ us hl => match us, hl with | [_, _], _ => rfl
  have F12 := fun_mk (st := q12) l12 c12 k12
  have b12 := F12.binds (ps := ["draws", "ready"]) fun _ _ _ _ _ _ us hl => match us, hl with | [_, _], _ => rfl
  have F13 := fun_mk (st := q13) l13 c13 k13
  have b13 := F13.binds (ps := ["value"]) fun _ _ _ _ _ _ us hl => match us, hl with | [_], _ => rfl
  have F14 := fun_mk (st := q14) l14 c14 k14
  have b14 := F14.binds (ps := ["value"]) fun _ _ _ _ _ _ us hl => match us, hl with | [_], _ => rfl
  have F15 := fun_mk (st := q15) l15 c15 k15
  have b15 := F15.binds (ps := ["value", "limit"]) fun _ _ _ _ _ _ us hl => match us, hl with | [_, _], _ => rfl
  have F16 := fun_mk (st := q16) l16 c16 k16
  have b16 := F16.binds (ps := ["value", "many"]) fun _ _ _ _ _ _ us hl => match us, hl with | [_, _], _ => rfl
  have F17 := fun_mk (st := q17) l17 c17 k17
  have b17 := F17.binds (ps := ["deeds", "width", "chosen"]) fun _ _ _ _ _ _ us hl => match us, hl with | [_, _, _], _ => rfl
  have F18 := fun_mk (st := q18) l18 c18 k18
  have b18 := F18.binds (ps := ["self", "width", "words"]) fun _ _ _ _ _ _ us hl => match us, hl with | [_, _, _], _ => rfl
  have F19 := fun_mk (st := q19) l19 c19 k19
  have b19 := F19.binds (ps := ["actual", "due"]) fun _ _ _ _ _ _ us hl => match us, hl with | [_, _], _ => rfl
  have F20 := fun_mk (st := q20) l20 c20 k20
  have b20 := F20.binds (ps := ["self", "width", "words"]) fun _ _ _ _ _ _ us hl => match us, hl with | [_, _, _], _ => rfl
  have F21 := fun_mk (st := q21) l21 c21 k21
  have b21 := F21.binds (ps := ["self"]) fun _ _ _ _ _ _ us hl => match us, hl with | [_], _ => rfl
  have F22 := fun_mk (st := q22) l22 c22 k22
  have b22 := F22.binds (ps := ["deed", "ready", "draws"]) fun _ _ _ _ _ _ us hl => match us, hl with | [_, _, _], _ => rfl
  have F23 := fun_mk (st := q23) l23 c23 k23
  have b23 := F23.binds (ps := ["self", "other"]) fun _ _ _ _ _ _ us hl => match us, hl with | [_, _], _ => rfl
  have F24 := fun_mk (st := q24) l24 c24 k24
  have b24 := F24.binds (ps := ["value"]) fun _ _ _ _ _ _ us hl => match us, hl with | [_], _ => rfl
  have F25 := fun_mk (st := q25) l25 c25 k25
  have b25 := F25.binds (ps := ["numbers", "many"]) fun _ _ _ _ _ _ us hl => match us, hl with | [_, _], _ => rfl
  have F26 := fun_mk (st := q26) l26 c26 k26
  have b26 := F26.binds (ps := ["value", "many"]) fun _ _ _ _ _ _ us hl => match us, hl with | [_, _], _ => rfl
  have F27 := fun_mk (st := q27) l27 c27 k27
  have b27 := F27.binds (ps := ["deed", "numbers", "width"]) fun _ _ _ _ _ _ us hl => match us, hl with | [_, _, _], _ => rfl
  have F28 := fun_mk (st := q28) l28 c28 k28
  have b28 := F28.binds (ps := ["value"]) fun _ _ _ _ _ _ us hl => match us, hl with | [_], _ => rfl
  have F29 := fun_mk (st := q29) l29 c29 k29
  have b29 := F29.binds (ps := ["value", "width", "least", "most"]) fun _ _ _ _ _ _ us hl => match us, hl with | [_, _, _, _], _ => rfl
  have F30 := fun_mk (st := q30) l30 c30 k30
  have b30 := F30.binds (ps := ["deed", "width", "words"]) fun _ _ _ _ _ _ us hl => match us, hl with | [_, _, _], _ => rfl
  have F31 := fun_mk (st := q31) l31 c31 k31
  have b31 := F31.binds (ps := ["deed", "numbers", "width"]) fun _ _ _ _ _ _ us hl => match us, hl with | [_, _, _], _ => rfl
  have F32 := fun_mk (st := q32) l32 c32 k32
  have b32 := F32.binds (ps := ["value", "width"]) fun _ _ _ _ _ _ us hl => match us, hl with | [_, _], _ => rfl
  have F33 := fun_mk (st := q33) l33 c33 k33
  have b33 := F33.binds (ps := ["width", "modulus", "rest", "words"]) fun _ _ _ _ _ _ us hl => match us, hl with | [_, _, _, _], _ => rfl
  let fnL : List FnI := [⟨f0, fd0 kV0 dc0 pm0 an0 cd0 ct0, ["script"]⟩, ⟨f1, fd1 kV1 dc1 pm1 an1 cd1 ct1, ["script"]⟩, ⟨f2, fd2 kV2 dc2 pm2 an2 cd2 ct2, ["cell", "sizes"]⟩, ⟨f3, fd3 kV3 dc3 pm3 an3 cd3 ct3, ["script", "k", "inputs", "many"]⟩, ⟨f4, fd4 kV4 dc4 pm4 an4 cd4 ct4, ["self", "inputs", "deeds", "out"]⟩, ⟨f5, fd5 kV5 dc5 pm5 an5 cd5 ct5, ["script", "k"]⟩, ⟨f6, fd6 kV6 dc6 pm6 an6 cd6 ct6, ["cell", "width"]⟩, ⟨f7, fd7 kV7 dc7 pm7 an7 cd7 ct7, ["row", "width", "chosen", "deeds", "out"]⟩, ⟨f8, fd8 kV8 dc8 pm8 an8 cd8 ct8, ["row", "deeds"]⟩, ⟨f9, fd9 kV9 dc9 pm9 an9 cd9 ct9, ["actual", "due"]⟩, ⟨f10, fd10 kV10 dc10 pm10 an10 cd10 ct10, ["row", "inputs", "deeds", "out", "draws"]⟩, ⟨f11, fd11 kV11 dc11 pm11 an11 cd11 ct11, ["cell", "k"]⟩, ⟨f12, fd12 kV12 dc12 pm12 an12 cd12 ct12, ["draws", "ready"]⟩, ⟨f13, fd13 kV13 dc13 pm13 an13 cd13 ct13, ["value"]⟩, ⟨f14, fd14 kV14 dc14 pm14 an14 cd14 ct14, ["value"]⟩, ⟨f15, fd15 kV15 dc15 pm15 an15 cd15 ct15, ["value", "limit"]⟩, ⟨f16, fd16 kV16 dc16 pm16 an16 cd16 ct16, ["value", "many"]⟩, ⟨f17, fd17 kV17 dc17 pm17 an17 cd17 ct17, ["deeds", "width", "chosen"]⟩, ⟨f18, fd18 kV18 dc18 pm18 an18 cd18 ct18, ["self", "width", "words"]⟩, ⟨f19, fd19 kV19 dc19 pm19 an19 cd19 ct19, ["actual", "due"]⟩, ⟨f20, fd20 kV20 dc20 pm20 an20 cd20 ct20, ["self", "width", "words"]⟩, ⟨f21, fd21 kV21 dc21 pm21 an21 cd21 ct21, ["self"]⟩, ⟨f22, fd22 kV22 dc22 pm22 an22 cd22 ct22, ["deed", "ready", "draws"]⟩, ⟨f23, fd23 kV23 dc23 pm23 an23 cd23 ct23, ["self", "other"]⟩, ⟨f24, fd24 kV24 dc24 pm24 an24 cd24 ct24, ["value"]⟩, ⟨f25, fd25 kV25 dc25 pm25 an25 cd25 ct25, ["numbers", "many"]⟩, ⟨f26, fd26 kV26 dc26 pm26 an26 cd26 ct26, ["value", "many"]⟩, ⟨f27, fd27 kV27 dc27 pm27 an27 cd27 ct27, ["deed", "numbers", "width"]⟩, ⟨f28, fd28 kV28 dc28 pm28 an28 cd28 ct28, ["value"]⟩, ⟨f29, fd29 kV29 dc29 pm29 an29 cd29 ct29, ["value", "width", "least", "most"]⟩, ⟨f30, fd30 kV30 dc30 pm30 an30 cd30 ct30, ["deed", "width", "words"]⟩, ⟨f31, fd31 kV31 dc31 pm31 an31 cd31 ct31, ["deed", "numbers", "width"]⟩, ⟨f32, fd32 kV32 dc32 pm32 an32 cd32 ct32, ["value", "width"]⟩, ⟨f33, fd33 kV33 dc33 pm33 an33 cd33 ct33, ["width", "modulus", "rest", "words"]⟩]
  let fn : Nat → Option FnI := fun i => fnL[i]?
  let G : Cfg := gOf K w [C0]
  have S : PrgS G K w mg D fn isiT :=
    { gk := rfl, gw := rfl
      cl := fun c C h => AllI.get0 (p := fun c C => Cls K C ∧ ∀ f ∈ names c, NoAttr K C f) (l := [C0]) ⟨⟨⟨pg0, hd0, po0, sa0⟩, fun f hf => AllL.mem (p := fun f => NoAttr K C0 f) (l := ["inputs", "deeds", "out"]) ⟨nf0_0, nf0_1, nf0_2, trivial⟩ hf⟩, trivial⟩ h
      ok := fun i I h => AllI.get0 (p := fun _ I => PySem.W.keepIn K (.ref I.f) = true ∧ Binds K I.fd I.ps []) (l := fnL) ⟨⟨k0, b0⟩, ⟨k1, b1⟩, ⟨k2, b2⟩, ⟨k3, b3⟩, ⟨k4, b4⟩, ⟨k5, b5⟩, ⟨k6, b6⟩, ⟨k7, b7⟩, ⟨k8, b8⟩, ⟨k9, b9⟩, ⟨k10, b10⟩, ⟨k11, b11⟩, ⟨k12, b12⟩, ⟨k13, b13⟩, ⟨k14, b14⟩, ⟨k15, b15⟩, ⟨k16, b16⟩, ⟨k17, b17⟩, ⟨k18, b18⟩, ⟨k19, b19⟩, ⟨k20, b20⟩, ⟨k21, b21⟩, ⟨k22, b22⟩, ⟨k23, b23⟩, ⟨k24, b24⟩, ⟨k25, b25⟩, ⟨k26, b26⟩, ⟨k27, b27⟩, ⟨k28, b28⟩, ⟨k29, b29⟩, ⟨k30, b30⟩, ⟨k31, b31⟩, ⟨k32, b32⟩, ⟨k33, b33⟩, trivial⟩ h
      gfn := fun x i h => AllL.mem (p := fun q : Str × Nat => (∀ c, D.ini c ≠ some q.2) ∧ ∃ I, fn q.2 = some I ∧ mg q.1 = some (.ref I.f)) (l := [(("law" : Str), (0 : Nat)), (("_law_holds" : Str), (1 : Nat)), (("_law_draws" : Str), (2 : Nat)), (("_law_deeds" : Str), (3 : Nat)), (("_law_cell" : Str), (5 : Nat)), (("_law_word" : Str), (6 : Nat)), (("_law_told" : Str), (7 : Nat)), (("_law_kept" : Str), (8 : Nat)), (("_law_integer" : Str), (9 : Nat)), (("_law_equal_rightly" : Str), (10 : Nat)), (("_law_mixed" : Str), (11 : Nat)), (("_law_deed" : Str), (12 : Nat)), (("as_tuple" : Str), (13 : Nat)), (("is_inputs" : Str), (14 : Nat)), (("is_below" : Str), (15 : Nat)), (("is_deed" : Str), (16 : Nat)), (("_law_numbers" : Str), (17 : Nat)), (("_law_same" : Str), (19 : Nat)), (("_law_near" : Str), (22 : Nat)), (("is_integer" : Str), (24 : Nat)), (("are_values" : Str), (25 : Nat)), (("is_count_deed" : Str), (26 : Nat)), (("_law_value" : Str), (27 : Nat)), (("is_number" : Str), (28 : Nat)), (("are_words" : Str), (29 : Nat)), (("deed_word" : Str), (30 : Nat)), (("_law_count" : Str), (31 : Nat)), (("is_word" : Str), (32 : Nat)), (("counted_word" : Str), (33 : Nat))]) ⟨⟨ini_ne rfl, _, rfl, PySem.W.mg_of X Gn a0⟩, ⟨ini_ne rfl, _, rfl, PySem.W.mg_of X Gn a1⟩, ⟨ini_ne rfl, _, rfl, PySem.W.mg_of X Gn a2⟩, ⟨ini_ne rfl, _, rfl, PySem.W.mg_of X Gn a3⟩, ⟨ini_ne rfl, _, rfl, PySem.W.mg_of X Gn a5⟩, ⟨ini_ne rfl, _, rfl, PySem.W.mg_of X Gn a6⟩, ⟨ini_ne rfl, _, rfl, PySem.W.mg_of X Gn a7⟩, ⟨ini_ne rfl, _, rfl, PySem.W.mg_of X Gn a8⟩, ⟨ini_ne rfl, _, rfl, PySem.W.mg_of X Gn a9⟩, ⟨ini_ne rfl, _, rfl, PySem.W.mg_of X Gn a10⟩, ⟨ini_ne rfl, _, rfl, PySem.W.mg_of X Gn a11⟩, ⟨ini_ne rfl, _, rfl, PySem.W.mg_of X Gn a12⟩, ⟨ini_ne rfl, _, rfl, PySem.W.mg_of X Gn a13⟩, ⟨ini_ne rfl, _, rfl, PySem.W.mg_of X Gn a14⟩, ⟨ini_ne rfl, _, rfl, PySem.W.mg_of X Gn a15⟩, ⟨ini_ne rfl, _, rfl, PySem.W.mg_of X Gn a16⟩, ⟨ini_ne rfl, _, rfl, PySem.W.mg_of X Gn a17⟩, ⟨ini_ne rfl, _, rfl, PySem.W.mg_of X Gn a19⟩, ⟨ini_ne rfl, _, rfl, PySem.W.mg_of X Gn a22⟩, ⟨ini_ne rfl, _, rfl, PySem.W.mg_of X Gn a24⟩, ⟨ini_ne rfl, _, rfl, PySem.W.mg_of X Gn a25⟩, ⟨ini_ne rfl, _, rfl, PySem.W.mg_of X Gn a26⟩, ⟨ini_ne rfl, _, rfl, PySem.W.mg_of X Gn a27⟩, ⟨ini_ne rfl, _, rfl, PySem.W.mg_of X Gn a28⟩, ⟨ini_ne rfl, _, rfl, PySem.W.mg_of X Gn a29⟩, ⟨ini_ne rfl, _, rfl, PySem.W.mg_of X Gn a30⟩, ⟨ini_ne rfl, _, rfl, PySem.W.mg_of X Gn a31⟩, ⟨ini_ne rfl, _, rfl, PySem.W.mg_of X Gn a32⟩, ⟨ini_ne rfl, _, rfl, PySem.W.mg_of X Gn a33⟩, trivial⟩ (mem_of_lookupS h)
      blt := fun x h => AllL.mem (p := fun x => mg x = none) (l := bltNames) ⟨PySem.W.mg_none_of X Gn z0, PySem.W.mg_none_of X Gn z1, PySem.W.mg_none_of X Gn z2, PySem.W.mg_none_of X Gn z3, PySem.W.mg_none_of X Gn z4, PySem.W.mg_none_of X Gn z5, PySem.W.mg_none_of X Gn z6, PySem.W.mg_none_of X Gn z7, PySem.W.mg_none_of X Gn z8, PySem.W.mg_none_of X Gn z9, PySem.W.mg_none_of X Gn z10, PySem.W.mg_none_of X Gn z11, PySem.W.mg_none_of X Gn z12, PySem.W.mg_none_of X Gn z13, PySem.W.mg_none_of X Gn z14, PySem.W.mg_none_of X Gn z15, PySem.W.mg_none_of X Gn z16, PySem.W.mg_none_of X Gn z17, PySem.W.mg_none_of X Gn z18, PySem.W.mg_none_of X Gn z19, PySem.W.mg_none_of X Gn z20, PySem.W.mg_none_of X Gn z21, trivial⟩ h
      con := fun x d h => AllL.mem (p := fun q : Str × PV => ∃ v u, mg q.1 = some u ∧ RelV v u ∧ ∀ F, Data G F v q.2) (l := ([("SIZES", (.dct [(.str "zero", (.int 0)), (.str "ones", (.int 0)), (.str "not", (.int 1)), (.str "and", (.int 2)), (.str "or", (.int 2)), (.str "xor", (.int 2)), (.str "shift", (.int 1)), (.str "minus", (.int 1)), (.str "add", (.int 2)), (.str "sub", (.int 2))]))] : List (Str × PV))) ⟨⟨.ref d0, _, PySem.W.mg_of X Gn aK0, rfl, fun F => .dct (kd_ok2 (kvs := [("zero", (.int 0)), ("ones", (.int 0)), ("not", (.int 1)), ("and", (.int 2)), ("or", (.int 2)), ("xor", (.int 2)), ("shift", (.int 1)), ("minus", (.int 1)), ("add", (.int 2)), ("sub", (.int 2))]) kl0 kd0 ks0)⟩, trivial⟩ (mem_of_lookupS h)
      gcls := fun x c h => AllL.mem (p := fun q : Str × Nat => ∃ C, G.cls q.2 = some C ∧ mg q.1 = some (.ref C)) (l := [(("Row" : Str), (0 : Nat))]) ⟨⟨_, rfl, PySem.W.mg_of X Gn aC0⟩, trivial⟩ (mem_of_lookupS h)
      ini := fun c i h => AllL.mem (p := fun q : Nat × Nat => ∃ C I, G.cls q.1 = some C ∧ fn q.2 = some I ∧ Mk K C I.f) (l := [(0, 4)]) ⟨⟨_, _, rfl, rfl, ⟨mk0, a4, i4, kc0⟩⟩, trivial⟩ (mem_of_lookup h)
      inj := fun c c' i h h' => ini_inj (t := [(0, 4)]) (by decide) h h'
      mth := fun c m i h => AllL.mem (p := fun q : (Nat × Str) × Nat => (∀ c, D.ini c ≠ some q.2) ∧ ∃ C I, G.cls q.1.1 = some C ∧ fn q.2 = some I ∧ Meth K C q.1.2 I.f) (l := [(((0 : Nat), ("write" : Str)), (18 : Nat)), (((0 : Nat), ("all_words" : Str)), (20 : Nat)), (((0 : Nat), ("__len__" : Str)), (21 : Nat)), (((0 : Nat), ("__eq__" : Str)), (23 : Nat))]) ⟨⟨ini_ne rfl, _, _, rfl, rfl, ⟨a18, i18, k18⟩⟩, ⟨ini_ne rfl, _, _, rfl, rfl, ⟨a20, i20, k20⟩⟩, ⟨ini_ne rfl, _, _, rfl, rfl, ⟨a21, i21, k21⟩⟩, ⟨ini_ne rfl, _, _, rfl, rfl, ⟨a23, i23, k23⟩⟩, trivial⟩ (mem_of_lookupG (c := (c, m)) h)
      kw := fun i I t hI ht => kw_of (P := fun i t => ∀ I, fn i = some I → KBn K I.fd I.ps t.1 t.2.1 (fun us ws => pick t.2.2 (us ++ ws)) (fun vs zs => pick t.2.2 (vs ++ zs))) (t := ([] : List (Nat × List (Nat × List Str × List Nat)))) trivial ht I hI
      ins := fun c C h => AllI.get0 (p := fun _ C => PySem.W.findIn K (.ref C) "__class__" = some (some (.builtin "object.__class__")) ∧ PySem.W.specialIn K (.builtin "object.__class__") "__get__" = some (some (.builtin "getset_descriptor.__get__")) ∧ PySem.W.takesIn K (.builtin "object.__class__") = some true ∧ PySem.W.mroIn K C (.type "object") = some true) (l := [C0]) ⟨⟨ia0, ib0, ic0, id0⟩, trivial⟩ h
      is := fun t u tv uv b h ht hu => AllL.mem (p := fun q : (Ty × Ty) × Bool => ∀ tv uv, q.1.1.val G = some tv → q.1.2.val G = some uv → PySem.W.kitOne K tv uv = some q.2) (l := isiL) ⟨fun tv uv ht hu => isi_at y0 ht hu, fun tv uv ht hu => isi_at y1 ht hu, fun tv uv ht hu => isi_at y2 ht hu, fun tv uv ht hu => isi_at y3 ht hu, fun tv uv ht hu => isi_at y4 ht hu, fun tv uv ht hu => isi_at y5 ht hu, fun tv uv ht hu => isi_at y6 ht hu, fun tv uv ht hu => isi_at y7 ht hu, fun tv uv ht hu => isi_at y8 ht hu, fun tv uv ht hu => isi_at y9 ht hu, fun tv uv ht hu => isi_at y10 ht hu, fun tv uv ht hu => isi_at y11 ht hu, trivial⟩ (mem_of_lookupG (c := (t, u)) h) tv uv ht hu
      nfc := fun c C c' C' h h' => AllI.get0 (p := fun _ C => ∀ (c' : Nat) (C' : Addr), G.cls c' = some C' → PySem.W.notFirst K C (.ref C') = true) (l := [C0]) ⟨fun c' C' h' => AllI.get0 (p := fun _ C' => PySem.W.notFirst K C0 (.ref C') = true) (l := [C0]) ⟨nq0_0, trivial⟩ h', trivial⟩ h c' C' h'
      ne := fun c C h => AllI.get0 (p := fun _ C => PySem.W.findIn K (.ref C) "__ne__" = some (some (.builtin "object.__ne__"))) (l := [C0]) ⟨ie0, trivial⟩ h }
  refine ⟨fd0 kV0 dc0 pm0 an0 cd0 ct0, fun s v => .of_eq rfl, fun base _ _ => ?_⟩
  have hD : ∀ i I, fn i = some I → (∀ c, D.ini c ≠ some i) → DefOk G P w K mg base D fn isiT I (step i) none (D.own i) := fun i I hI => AllI.get0 (p := fun i I => (∀ c, D.ini c ≠ some i) → DefOk G P w K mg base D fn isiT I (step i) none (D.own i)) (l := fnL) ⟨fun _ => ⟨⟨_, _, q0, N0, s0, F0, sc0, body0 (fun _ => rfl), Nat.le_of_ble_eq_true rfl, fun _ => rfl, fun h => absurd h (by decide)⟩⟩, fun _ => ⟨⟨_, _, q1, N1, s1, F1, sc1, body1 (fun _ => rfl), Nat.le_of_ble_eq_true rfl, fun _ => rfl, fun h => absurd h (by decide)⟩⟩, fun _ => ⟨⟨_, _, q2, N2, s2, F2, sc2, body2 (fun _ => rfl), Nat.le_of_ble_eq_true rfl, fun _ => rfl, fun h => absurd h (by decide)⟩⟩, fun _ => ⟨⟨_, _, q3, N3, s3, F3, sc3, body3 (fun _ => rfl), Nat.le_of_ble_eq_true rfl, fun _ => rfl, fun h => absurd h (by decide)⟩⟩, fun hn => absurd rfl (hn 0), fun _ => ⟨⟨_, _, q5, N5, s5, F5, sc5, body5 (fun _ => rfl), Nat.le_of_ble_eq_true rfl, fun _ => rfl, fun h => absurd h (by decide)⟩⟩, fun _ => ⟨⟨_, _, q6, N6, s6, F6, sc6, body6 (fun _ => rfl), Nat.le_of_ble_eq_true rfl, fun _ => rfl, fun h => absurd h (by decide)⟩⟩, fun _ => ⟨⟨_, _, q7, N7, s7, F7, sc7, body7 (fun _ => rfl), Nat.le_of_ble_eq_true rfl, fun _ => rfl, fun h => absurd h (by decide)⟩⟩, fun _ => ⟨⟨_, _, q8, N8, s8, F8, sc8, body8 (fun _ => rfl), Nat.le_of_ble_eq_true rfl, fun _ => rfl, fun h => absurd h (by decide)⟩⟩, fun _ => ⟨⟨_, _, q9, N9, s9, F9, sc9, body9 (fun _ => rfl), Nat.le_of_ble_eq_true rfl, fun _ => rfl, fun h => absurd h (by decide)⟩⟩, fun _ => ⟨⟨_, _, q10, N10, s10, F10, sc10, body10 (fun _ => rfl), Nat.le_of_ble_eq_true rfl, fun _ => rfl, fun h => absurd h (by decide)⟩⟩, fun _ => ⟨⟨_, _, q11, N11, s11, F11, sc11, body11 (fun _ => rfl), Nat.le_of_ble_eq_true rfl, fun _ => rfl, fun h => absurd h (by decide)⟩⟩, fun _ => ⟨⟨_, _, q12, N12, s12, F12, sc12, body12 (fun _ => rfl), Nat.le_of_ble_eq_true rfl, fun _ => rfl, fun h => absurd h (by decide)⟩⟩, fun _ => ⟨⟨_, _, q13, N13, s13, F13, sc13, body13 (fun _ => rfl), Nat.le_of_ble_eq_true rfl, fun _ => rfl, fun h => absurd h (by decide)⟩⟩, fun _ => ⟨⟨_, _, q14, N14, s14, F14, sc14, body14 (fun _ => rfl), Nat.le_of_ble_eq_true rfl, fun _ => rfl, fun h => absurd h (by decide)⟩⟩, fun _ => ⟨⟨_, _, q15, N15, s15, F15, sc15, body15 (fun _ => rfl), Nat.le_of_ble_eq_true rfl, fun _ => rfl, fun h => absurd h (by decide)⟩⟩, fun _ => ⟨⟨_, _, q16, N16, s16, F16, sc16, body16 (fun _ => rfl), Nat.le_of_ble_eq_true rfl, fun _ => rfl, fun h => absurd h (by decide)⟩⟩, fun _ => ⟨⟨_, _, q17, N17, s17, F17, sc17, body17 (fun _ => rfl), Nat.le_of_ble_eq_true rfl, fun _ => rfl, fun h => absurd h (by decide)⟩⟩, fun _ => ⟨⟨_, _, q18, N18, s18, F18, sc18, body18 (fun _ => rfl), Nat.le_of_ble_eq_true rfl, fun _ => rfl, fun h => absurd h (by decide)⟩⟩, fun _ => ⟨⟨_, _, q19, N19, s19, F19, sc19, body19 (fun _ => rfl), Nat.le_of_ble_eq_true rfl, fun _ => rfl, fun h => absurd h (by decide)⟩⟩, fun _ => ⟨⟨_, _, q20, N20, s20, F20, sc20, body20 (fun _ => rfl), Nat.le_of_ble_eq_true rfl, fun _ => rfl, fun h => absurd h (by decide)⟩⟩, fun _ => ⟨⟨_, _, q21, N21, s21, F21, sc21, body21 (fun _ => rfl), Nat.le_of_ble_eq_true rfl, fun _ => rfl, fun h => absurd h (by decide)⟩⟩, fun _ => ⟨⟨_, _, q22, N22, s22, F22, sc22, body22 (fun _ => rfl), Nat.le_of_ble_eq_true rfl, fun _ => rfl, fun h => absurd h (by decide)⟩⟩, fun _ => ⟨⟨_, _, q23, N23, s23, F23, sc23, body23 (fun _ => rfl), Nat.le_of_ble_eq_true rfl, fun _ => rfl, fun h => absurd h (by decide)⟩⟩, fun _ => ⟨⟨_, _, q24, N24, s24, F24, sc24, body24 (fun _ => rfl), Nat.le_of_ble_eq_true rfl, fun _ => rfl, fun h => absurd h (by decide)⟩⟩, fun _ => ⟨⟨_, _, q25, N25, s25, F25, sc25, body25 (fun _ => rfl), Nat.le_of_ble_eq_true rfl, fun _ => rfl, fun h => absurd h (by decide)⟩⟩, fun _ => ⟨⟨_, _, q26, N26, s26, F26, sc26, body26 (fun _ => rfl), Nat.le_of_ble_eq_true rfl, fun _ => rfl, fun h => absurd h (by decide)⟩⟩, fun _ => ⟨⟨_, _, q27, N27, s27, F27, sc27, body27 (fun _ => rfl), Nat.le_of_ble_eq_true rfl, fun _ => rfl, fun h => absurd h (by decide)⟩⟩, fun _ => ⟨⟨_, _, q28, N28, s28, F28, sc28, body28 (fun _ => rfl), Nat.le_of_ble_eq_true rfl, fun _ => rfl, fun h => absurd h (by decide)⟩⟩, fun _ => ⟨⟨_, _, q29, N29, s29, F29, sc29, body29 (fun _ => rfl), Nat.le_of_ble_eq_true rfl, fun _ => rfl, fun h => absurd h (by decide)⟩⟩, fun _ => ⟨⟨_, _, q30, N30, s30, F30, sc30, body30 (fun _ => rfl), Nat.le_of_ble_eq_true rfl, fun _ => rfl, fun h => absurd h (by decide)⟩⟩, fun _ => ⟨⟨_, _, q31, N31, s31, F31, sc31, body31 (fun _ => rfl), Nat.le_of_ble_eq_true rfl, fun _ => rfl, fun h => absurd h (by decide)⟩⟩, fun _ => ⟨⟨_, _, q32, N32, s32, F32, sc32, body32 (fun _ => rfl), Nat.le_of_ble_eq_true rfl, fun _ => rfl, fun h => absurd h (by decide)⟩⟩, fun _ => ⟨⟨_, _, q33, N33, s33, F33, sc33, body33 (fun _ => rfl), Nat.le_of_ble_eq_true rfl, fun _ => rfl, fun h => absurd h (by decide)⟩⟩, trivial⟩ hI
  have hI : ∀ c i I, D.ini c = some i → fn i = some I → DefOk G P w K mg base D fn isiT I (step i) (some c) false := fun c i I hc => AllL.mem (p := fun q : Nat × Nat => ∀ I, fn q.2 = some I → DefOk G P w K mg base D fn isiT I (step q.2) (some q.1) false) (l := [(0, 4)]) ⟨fun I hI => by
      have hI := Option.some.inj hI
      subst hI
      exact ⟨⟨_, _, q4, N4, s4, F4, sc4, body4 (fun _ => rfl), Nat.le_of_ble_eq_true rfl, fun _ => rfl⟩⟩, trivial⟩ (mem_of_lookup hc) I
  have hown : ∀ c i, D.ini c = some i → D.own i = false := fun c i h => AllL.mem (p := fun q : Nat × Nat => D.own q.2 = false) (l := [(0, 4)]) ⟨rfl, trivial⟩ (mem_of_lookup h)
  exact law_ok (I := ⟨f0, fd0 kV0 dc0 pm0 an0 cd0 ct0, ["script"]⟩) (i := 0) pure_ok rfl (all_ok S hD hI hown 40) rfl rfl (ini_ne rfl)
end
end PPK10

end
open PySem PySem.W PyProof.Rows in
set_option maxRecDepth 100000 in
set_option maxHeartbeats 0 in
theorem PySem.Challenge.cw_carryworks_k10_words_of_counts_holds : PySem.Challenge.rw_carryworks_k10_words_of_counts.Holds := by
  w_on; o_law; k_head; (case hw => w_witness2)
  k_fill
  refine L2.walk_of (l := PySem.Challenge.rw_carryworks_k10_words_of_counts) (n := 63) (k := 2 * 40) (x := "script") (CX := fun w => L2.CX PySem.Challenge.rw_carryworks_k10_words_of_counts.prog w) (sp := ?SP) rfl (by decide) rfl ⟨rfl, by decide, by decide⟩ (fun w h Y => PySem.W.kIn_of Y) ?F ?S (fun w H s e s' z => by obtain ⟨_, _, _, _, _, _, _, _, _, _, _, _, z⟩ := z; exact z)
  case F =>
    intro w mg fa h KX G hmg
    refine' PPK10.all_mk KX G hmg ?aC0 ?a0 ?l0 ?c0 ?k0 ?a1 ?l1 ?c1 ?k1 ?a2 ?l2 ?c2 ?k2 ?a3 ?l3 ?c3 ?k3 ?a4 ?i4 ?l4 ?c4 ?k4 ?a5 ?l5 ?c5 ?k5 ?a6 ?l6 ?c6 ?k6 ?a7 ?l7 ?c7 ?k7 ?a8 ?l8 ?c8 ?k8 ?a9 ?l9 ?c9 ?k9 ?a10 ?l10 ?c10 ?k10 ?a11 ?l11 ?c11 ?k11 ?a12 ?l12 ?c12 ?k12 ?a13 ?l13 ?c13 ?k13 ?a14 ?l14 ?c14 ?k14 ?a15 ?l15 ?c15 ?k15 ?a16 ?l16 ?c16 ?k16 ?a17 ?l17 ?c17 ?k17 ?a18 ?i18 ?l18 ?c18 ?k18 ?a19 ?l19 ?c19 ?k19 ?a20 ?i20 ?l20 ?c20 ?k20 ?a21 ?i21 ?l21 ?c21 ?k21 ?a22 ?l22 ?c22 ?k22 ?a23 ?i23 ?l23 ?c23 ?k23 ?a24 ?l24 ?c24 ?k24 ?a25 ?l25 ?c25 ?k25 ?a26 ?l26 ?c26 ?k26 ?a27 ?l27 ?c27 ?k27 ?a28 ?l28 ?c28 ?k28 ?a29 ?l29 ?c29 ?k29 ?a30 ?l30 ?c30 ?k30 ?a31 ?l31 ?c31 ?k31 ?a32 ?l32 ?c32 ?k32 ?a33 ?l33 ?c33 ?k33 ?pg0 ?hd0 ?po0 ?sa0 ?mk0 ?kc0 ?nf0_0 ?nf0_1 ?nf0_2 ?ia0 ?ib0 ?ic0 ?id0 ?ie0 ?nq0_0 ?y0 ?y1 ?y2 ?y3 ?y4 ?y5 ?y6 ?y7 ?y8 ?y9 ?y10 ?y11 ?aK0 ?kl0 ?kd0 ?ks0 ?z0 ?z1 ?z2 ?z3 ?z4 ?z5 ?z6 ?z7 ?z8 ?z9 ?z10 ?z11 ?z12 ?z13 ?z14 ?z15 ?z16 ?z17 ?z18 ?z19 ?z20 ?z21
    (case aC0 => k_is)
    (case a0 => k_is)
    (case l0 => k_is)
    (case c0 => k_is)
    (case k0 => k_is)
    (case a1 => k_is)
    (case l1 => k_is)
    (case c1 => k_is)
    (case k1 => k_is)
    (case a2 => k_is)
    (case l2 => k_is)
    (case c2 => k_is)
    (case k2 => k_is)
    (case a3 => k_is)
    (case l3 => k_is)
    (case c3 => k_is)
    (case k3 => k_is)
    (case a4 => k_is)
    (case i4 => k_is)
    (case l4 => k_is)
    (case c4 => k_is)
    (case k4 => k_is)
    (case a5 => k_is)
    (case l5 => k_is)
    (case c5 => k_is)
    (case k5 => k_is)
    (case a6 => k_is)
    (case l6 => k_is)
    (case c6 => k_is)
    (case k6 => k_is)
    (case a7 => k_is)
    (case l7 => k_is)
    (case c7 => k_is)
    (case k7 => k_is)
    (case a8 => k_is)
    (case l8 => k_is)
    (case c8 => k_is)
    (case k8 => k_is)
    (case a9 => k_is)
    (case l9 => k_is)
    (case c9 => k_is)
    (case k9 => k_is)
    (case a10 => k_is)
    (case l10 => k_is)
    (case c10 => k_is)
    (case k10 => k_is)
    (case a11 => k_is)
    (case l11 => k_is)
    (case c11 => k_is)
    (case k11 => k_is)
    (case a12 => k_is)
    (case l12 => k_is)
    (case c12 => k_is)
    (case k12 => k_is)
    (case a13 => k_is)
    (case l13 => k_is)
    (case c13 => k_is)
    (case k13 => k_is)
    (case a14 => k_is)
    (case l14 => k_is)
    (case c14 => k_is)
    (case k14 => k_is)
    (case a15 => k_is)
    (case l15 => k_is)
    (case c15 => k_is)
    (case k15 => k_is)
    (case a16 => k_is)
    (case l16 => k_is)
    (case c16 => k_is)
    (case k16 => k_is)
    (case a17 => k_is)
    (case l17 => k_is)
    (case c17 => k_is)
    (case k17 => k_is)
    (case a18 => k_is)
    (case i18 => k_is)
    (case l18 => k_is)
    (case c18 => k_is)
    (case k18 => k_is)
    (case a19 => k_is)
    (case l19 => k_is)
    (case c19 => k_is)
    (case k19 => k_is)
    (case a20 => k_is)
    (case i20 => k_is)
    (case l20 => k_is)
    (case c20 => k_is)
    (case k20 => k_is)
    (case a21 => k_is)
    (case i21 => k_is)
    (case l21 => k_is)
    (case c21 => k_is)
    (case k21 => k_is)
    (case a22 => k_is)
    (case l22 => k_is)
    (case c22 => k_is)
    (case k22 => k_is)
    (case a23 => k_is)
    (case i23 => k_is)
    (case l23 => k_is)
    (case c23 => k_is)
    (case k23 => k_is)
    (case a24 => k_is)
    (case l24 => k_is)
    (case c24 => k_is)
    (case k24 => k_is)
    (case a25 => k_is)
    (case l25 => k_is)
    (case c25 => k_is)
    (case k25 => k_is)
    (case a26 => k_is)
    (case l26 => k_is)
    (case c26 => k_is)
    (case k26 => k_is)
    (case a27 => k_is)
    (case l27 => k_is)
    (case c27 => k_is)
    (case k27 => k_is)
    (case a28 => k_is)
    (case l28 => k_is)
    (case c28 => k_is)
    (case k28 => k_is)
    (case a29 => k_is)
    (case l29 => k_is)
    (case c29 => k_is)
    (case k29 => k_is)
    (case a30 => k_is)
    (case l30 => k_is)
    (case c30 => k_is)
    (case k30 => k_is)
    (case a31 => k_is)
    (case l31 => k_is)
    (case c31 => k_is)
    (case k31 => k_is)
    (case a32 => k_is)
    (case l32 => k_is)
    (case c32 => k_is)
    (case k32 => k_is)
    (case a33 => k_is)
    (case l33 => k_is)
    (case c33 => k_is)
    (case k33 => k_is)
    (case pg0 => k_is)
    (case hd0 => k_is)
    (case po0 => k_is)
    (case sa0 => k_is)
    (case mk0 => k_is)
    (case kc0 => k_is)
    (case nf0_0 => k_is)
    (case nf0_1 => k_is)
    (case nf0_2 => k_is)
    (case ia0 => k_is)
    (case ib0 => k_is)
    (case ic0 => k_is)
    (case id0 => k_is)
    (case ie0 => k_is)
    (case nq0_0 => k_is)
    (case y0 => kit_is)
    (case y1 => kit_is)
    (case y2 => kit_is)
    (case y3 => kit_is)
    (case y4 => kit_is)
    (case y5 => kit_is)
    (case y6 => kit_is)
    (case y7 => kit_is)
    (case y8 => kit_is)
    (case y9 => kit_is)
    (case y10 => kit_is)
    (case y11 => kit_is)
    (case aK0 => k_is)
    (case kl0 => k_is)
    (case kd0 => rfl)
    (case ks0 => rfl)
    (case z0 => k_is)
    (case z1 => k_is)
    (case z2 => k_is)
    (case z3 => k_is)
    (case z4 => k_is)
    (case z5 => k_is)
    (case z6 => k_is)
    (case z7 => k_is)
    (case z8 => k_is)
    (case z9 => k_is)
    (case z10 => k_is)
    (case z11 => k_is)
    (case z12 => k_is)
    (case z13 => k_is)
    (case z14 => k_is)
    (case z15 => k_is)
    (case z16 => k_is)
    (case z17 => k_is)
    (case z18 => k_is)
    (case z19 => k_is)
    (case z20 => k_is)
    (case z21 => k_is)
  case S => exact fun w H a ns hl _ hS => ⟨a, ns, rfl, hl, hS, fun _ => rfl⟩
#print axioms PySem.Challenge.cw_carryworks_k10_words_of_counts_holds
