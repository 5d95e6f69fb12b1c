import PyProof.Rows.All
import Wide.All
import OpenK.AllK
import Wide.FinOn
import HandS.ForMost
import HandS.ForExc
import HandS.Deep
import KE.KDictKeyed
import KE.SortData
import HandS.TupAny
import HandS.TupMul
import HandS.TupLe
import HandS.Flow
import HandS.CallSlots
import HandS.IsInst
import HandS.ExcIs
import HandS.ExcField
import HandS.WordsExc
import PyProof.EqAt
import PyProof.EqKinds
import PyProof.TupleCall
import Open.SpecLaws
import KE.OsGo
import PySem.Challenge.RW_cardtrick_k04_feasibility_bounds
set_option Elab.async false
set_option linter.all false
set_option maxRecDepth 100000
set_option maxHeartbeats 8000000
/-! CT1: the values, my environments, how they stand to HandS' slots and heap. -/
namespace CT
open PySem PySem.Spec PyProof.Rows L2

abbrev D := PyData

/-- an exception: its class (by its number), the value of its one field (ParseError's) -/
structure Exn where
  cls : Nat
  pos : Option D

/-- an object that one slot owns -/
inductive OB where
  | lst (ds : List D)
  | dct (kvs : List (D × D))
  | ins (C : Nat) (fs : List (Str × D))

inductive Slot where
  | no
  | d (x : D)
  | own (o : OB)
  | exn (x : Exn)
  | scr (ns : List Int)

abbrev Rho := List Slot

inductive Out (α : Type) where
  | ok (a : α) (r : Rho)
  | exc (x : Exn) (r : Rho)
  | bad

abbrev M (α : Type) := Rho → Out α
@[reducible] def mPure {α : Type} (a : α) : M α := fun r => .ok a r
def mBind {α β : Type} (m : M α) (k : α → M β) : M β := fun r => match m r with
  | .ok a r' => k a r'
  | .exc x r' => .exc x r'
  | .bad => .bad
instance : Monad M where
  pure := mPure
  bind := mBind
@[reducible] def mBad {α : Type} : M α := fun _ => .bad

/-! ### keys -/
mutual
def nk : D → Option NestedKey
  | .none => some .none
  | .bool b => some (.num (if b then 1 else 0))
  | .int i => some (.num i)
  | .str x => some (.text x)
  | .tuple xs => (nks xs).map .tup
  | .list _ => none
  | .dict _ => none
def nks : List D → Option (List NestedKey)
  | [] => some []
  | x :: xs => (nk x).bind fun k => (nks xs).map fun ks => k :: ks
end

/-! ### a dict's raw entries at its one object -/
def DOb (P : Program) (w : World) (a : Addr) (xs : List (NestedKey × Addr × Value)) (h : Heap) : Prop :=
  ∃ o es ep, h.get? a = some o ∧ o.ExactDict ∧ o.data = .dict es ep ∧ es.toList = xs.map (entryOfKey (nestedKind P w))
theorem DOb.stay {P : Program} {w : World} {a : Addr} {xs : List (NestedKey × Addr × Value)} {h1 h2 : Heap} (x : DOb P w a xs h1) (k : ∀ o, h1.get? a = some o → h2.get? a = some o) : DOb P w a xs h2 := by
  obtain ⟨o, es, ep, e, r⟩ := x
  exact ⟨o, es, ep, k o e, r⟩

/-- the things that a whole law keeps -/
structure Ct where
  P : Program
  w : World
  K : PySem.W.Frag
  /-- the classes' addresses by their numbers -/
  cl : Nat → Addr

section
variable (T : Ct)
mutual
/-- the value v is the data d, every object of it in the frozen heap G (or written) -/
inductive Rl (G : Hp) : V → D → Prop
  | non : Rl G .non .none
  | bl (b : Bool) : Rl G (.bl b) (.bool b)
  | int (i : Int) : Rl G (.int i) (.int i)
  | str (x : Str) : Rl G (.str x) (.str x)
  | lst {a : Addr} {xs : List V} {ds : List D} : G a = some (.lst xs) → RlAll G xs ds → Rl G (.ref a) (.list ds)
  | tup {a : Addr} {xs : List V} {ds : List D} : SqT T.K G a xs → RlAll G xs ds → Rl G (.ref a) (.tuple ds)
  | dct {a : Addr} {xs : List (NestedKey × Addr × Value)} {vvs : List V} {kvs : List (D × D)} : G a = some (.ext (DOb T.P T.w a xs)) → (a == sysModules) = false → (xs.map (·.1)).Nodup → xs.length ≤ sizeLine →
      nks (kvs.map (·.1)) = some (xs.map (·.1)) → RlAll G (xs.map fun x => .ref x.2.1) (kvs.map (·.1)) → Vals vvs (xs.map fun x => x.2.2) → RlAll G vvs (kvs.map (·.2)) → Rl G (.ref a) (.dict kvs)
inductive RlAll (G : Hp) : List V → List D → Prop
  | nil : RlAll G [] []
  | cons {v : V} {vs : List V} {d : D} {ds : List D} : Rl G v d → RlAll G vs ds → RlAll G (v :: vs) (d :: ds)
end
end

theorem sqL_mono {K : PySem.W.Frag} {G G' : Hp} {a : Addr} {xs : List V} (e : Same G G') (h : SqL K G a xs) : SqL K G' a xs := e.seq h
theorem sqT_mono {K : PySem.W.Frag} {G G' : Hp} {a : Addr} {xs : List V} (e : Same G G') (h : SqT K G a xs) : SqT K G' a xs := by
  rcases h with (h | ⟨o, h⟩) | h
  · exact .inl (.inl (e _ _ h))
  · exact .inl (.inr ⟨o, e _ _ h⟩)
  · exact .inr h
section
variable {T : Ct} {G G' : Hp}
mutual
theorem Rl.mono (e : Same G G') : ∀ (d : D) (v : V), Rl T G v d → Rl T G' v d
  | .none, _, h => by cases h; exact .non
  | .bool b, _, h => by cases h; exact .bl b
  | .int i, _, h => by cases h; exact .int i
  | .str x, _, h => by cases h; exact .str x
  | .list ds, _, h => by
    cases h with
    | lst s a => exact .lst (e _ _ s) (RlAll.mono e ds _ a)
  | .tuple ds, _, h => by
    cases h with
    | tup s a => exact .tup (sqT_mono e s) (RlAll.mono e ds _ a)
  | .dict kvs, _, h => by
    cases h with
    | dct h1 h2 h3 h4 h5 h6 h7 h8 => exact .dct (e _ _ h1) h2 h3 h4 h5 (RlAll.monoK e kvs _ h6) h7 (RlAll.monoV e kvs _ h8)
theorem RlAll.mono (e : Same G G') : ∀ (ds : List D) (vs : List V), RlAll T G vs ds → RlAll T G' vs ds
  | [], _, h => by cases h; exact .nil
  | d :: ds, _, h => by
    cases h with
    | cons h1 h2 => exact .cons (Rl.mono e d _ h1) (RlAll.mono e ds _ h2)
theorem RlAll.monoK (e : Same G G') : ∀ (kvs : List (D × D)) (vs : List V), RlAll T G vs (kvs.map (·.1)) → RlAll T G' vs (kvs.map (·.1))
  | [], _, h => by cases h; exact .nil
  | (k, v) :: r, _, h => by
    cases h with
    | cons h1 h2 => exact .cons (Rl.mono e k _ h1) (RlAll.monoK e r _ h2)
theorem RlAll.monoV (e : Same G G') : ∀ (kvs : List (D × D)) (vs : List V), RlAll T G vs (kvs.map (·.2)) → RlAll T G' vs (kvs.map (·.2))
  | [], _, h => by cases h; exact .nil
  | (k, v) :: r, _, h => by
    cases h with
    | cons h1 h2 => exact .cons (Rl.mono e v _ h1) (RlAll.monoV e r _ h2)
end
theorem RlAll.len : ∀ {vs : List V} {ds : List D}, RlAll T G vs ds → vs.length = ds.length
  | _, _, .nil => rfl
  | _, _, .cons _ t => by simp [RlAll.len t]
theorem RlAll.get : ∀ {vs : List V} {ds : List D} {i : Nat} {d : D}, RlAll T G vs ds → ds[i]? = some d → ∃ v, vs[i]? = some v ∧ Rl T G v d
  | _, _, _, _, .nil, e => by simp at e
  | _, _, 0, _, .cons r _, e => by simp at e; subst e; exact ⟨_, rfl, r⟩
  | _, _, i + 1, d, .cons _ t, e => by
    obtain ⟨v, h1, h2⟩ := RlAll.get (i := i) (d := d) t (by simpa using e)
    exact ⟨v, by simpa using h1, h2⟩
theorem RlAll.getV : ∀ {vs : List V} {ds : List D} {i : Nat} {v : V}, RlAll T G vs ds → vs[i]? = some v → ∃ d, ds[i]? = some d ∧ Rl T G v d
  | _, _, _, _, .nil, e => by simp at e
  | _, _, 0, _, .cons r _, e => by simp at e; subst e; exact ⟨_, rfl, r⟩
  | _, _, i + 1, d, .cons _ t, e => by
    obtain ⟨v, h1, h2⟩ := RlAll.getV (i := i) (v := d) t (by simpa using e)
    exact ⟨v, by simpa using h1, h2⟩
theorem RlAll.append : ∀ {vs ws : List V} {ds es : List D}, RlAll T G vs ds → RlAll T G ws es → RlAll T G (vs ++ ws) (ds ++ es)
  | _, _, _, _, .nil, h => h
  | _, _, _, _, .cons r t, h => .cons r (RlAll.append t h)
theorem RlAll.take : ∀ {vs : List V} {ds : List D} (n : Nat), RlAll T G vs ds → RlAll T G (vs.take n) (ds.take n)
  | _, _, 0, _ => by simp; exact .nil
  | _, _, n + 1, .nil => by simp; exact .nil
  | _, _, n + 1, .cons r t => .cons r (RlAll.take n t)
theorem RlAll.drop : ∀ {vs : List V} {ds : List D} (n : Nat), RlAll T G vs ds → RlAll T G (vs.drop n) (ds.drop n)
  | _, _, 0, h => h
  | _, _, n + 1, .nil => by simp; exact .nil
  | _, _, n + 1, .cons _ t => RlAll.drop n t
theorem RlAll.reverse : ∀ {vs : List V} {ds : List D}, RlAll T G vs ds → RlAll T G vs.reverse ds.reverse
  | _, _, .nil => .nil
  | _, _, .cons r t => by
    rw [List.reverse_cons, List.reverse_cons]
    exact (RlAll.reverse t).append (.cons r .nil)
theorem RlAll.eraseIdx : ∀ {vs : List V} {ds : List D} (n : Nat), RlAll T G vs ds → RlAll T G (vs.eraseIdx n) (ds.eraseIdx n)
  | _, _, _, .nil => .nil
  | _, _, 0, .cons _ t => t
  | _, _, n + 1, .cons r t => .cons r (RlAll.eraseIdx n t)
theorem RlAll.map_int : ∀ (ns : List Int), RlAll T G (ns.map V.int) (ns.map PyData.int)
  | [] => .nil
  | n :: r => .cons (.int n) (RlAll.map_int r)

mutual
/-- to HandS' Dp (no dict within) -/
theorem Rl.dp : ∀ (d : D) (v : V), Rl T G v d → d.canLay0 = true → Dp T.K G v d
  | .none, _, h, _ => by cases h; exact .non
  | .bool b, _, h, _ => by cases h; exact .bl b
  | .int i, _, h, _ => by cases h; exact .int i
  | .str x, _, h, _ => by cases h; exact .str x
  | .list ds, _, h, c => by
    cases h with
    | lst s a => exact .lst (SqL.of s) (RlAll.dp ds _ a (by simpa [PyData.canLay0] using c))
  | .tuple ds, _, h, c => by
    cases h with
    | tup s a => exact .tup s (RlAll.dp ds _ a (by simpa [PyData.canLay0] using c))
  | .dict kvs, _, h, c => by simp [PyData.canLay0] at c
theorem RlAll.dp : ∀ (ds : List D) (vs : List V), RlAll T G vs ds → PyData.canLayAll0 ds = true → DpAll T.K G vs ds
  | [], _, h, _ => by cases h; exact .nil
  | d :: ds, _, h, c => by
    cases h with
    | cons h1 h2 =>
      simp only [PyData.canLayAll0, Bool.and_eq_true] at c
      exact .cons (Rl.dp d _ h1 c.1) (RlAll.dp ds _ h2 c.2)
end
end
end CT

/-! CT2: environments against slots and heap; what a computation promises. -/
namespace CT
open PySem PySem.Spec PyProof.Rows L2

/-- what an activation keeps: the heap at its entry, the borrowed addresses, the exception in hand -/
structure Gc where
  T : Ct
  G0 : Hp
  H0 : Hp
  B : List Addr
  par : List Nat
  s0 : L2.St
  ex : Option (Addr × Exn)

def DctAt (T : Ct) (G H : Hp) (a : Addr) (kvs : List (D × D)) : Prop :=
  ∃ (xs : List (NestedKey × Addr × Value)) (vvs : List V), H a = some (.ext (DOb T.P T.w a xs)) ∧ (a == sysModules) = false ∧ (xs.map (·.1)).Nodup ∧ xs.length ≤ sizeLine ∧
    nks (kvs.map (·.1)) = some (xs.map (·.1)) ∧ RlAll T G (xs.map fun x => .ref x.2.1) (kvs.map (·.1)) ∧ Vals vvs (xs.map fun x => x.2.2) ∧ RlAll T G vvs (kvs.map (·.2))

def ObRel (T : Ct) (G H : Hp) (a : Addr) : OB → Prop
  | .lst ds => ∃ xs, H a = some (.lst xs) ∧ RlAll T G xs ds
  | .dct kvs => DctAt T G H a kvs
  | .ins C fs => ∃ dx vs, H a = some (.ins (T.cl C) dx vs) ∧ fs.map (·.1) = vs.map (·.1) ∧ RlAll T G (vs.map (·.2)) (fs.map (·.2))

def SlotRel (c : Gc) (G H : Hp) : Slot → Option V → Prop
  | .no, _ => True
  | .d x, v => ∃ u, v = some u ∧ Rl c.T G u x
  | .own o, v => ∃ a, v = some (.ref a) ∧ G a = none ∧ ObRel c.T G H a o
  | .exn x, v => ∃ a, v = some (.ref a) ∧ c.ex = some (a, x)
  | .scr ns, v => ∃ a, v = some (.ref a) ∧ SqL c.T.K G a (ns.map V.int)

structure EnvRel (c : Gc) (G : Hp) (r : Rho) (σ : L2.St) (H : Hp) : Prop where
  len : r.length = σ.length
  sub : Same G H
  slot : ∀ (i : Nat) (s : Slot) (v : Option V), r[i]? = some s → σ[i]? = some v → SlotRel c G H s v
  uniq : ∀ (i j : Nat) (o o' : OB) (a : Addr), r[i]? = some (.own o) → r[j]? = some (.own o') → σ[i]? = some (some (.ref a)) → σ[j]? = some (some (.ref a)) → i = j
  frame : ∀ a o, c.H0 a = some o → a ∉ c.B → H a = some o
  fresh : ∀ (i : Nat) (o : OB) (a : Addr), r[i]? = some (.own o) → σ[i]? = some (some (.ref a)) → a ∈ c.B ∨ c.H0 a = none
  bor : ∀ a ∈ c.B, H a ≠ none
  gold : ∀ a, c.H0 a ≠ none → a ∉ c.B → G a = c.G0 a
  par : ∀ i ∈ c.par, σ[i]? = c.s0[i]?

/-- new objects alone -/
structure Step (G H G' H' : Hp) : Prop where
  gg : Same G G'
  gh : Same G' H'
  hh : Same H H'
  old : ∀ a, H a ≠ none → G' a = G a

theorem Step.refl {G H : Hp} (s : Same G H) : Step G H G H := ⟨Same.refl _, s, Same.refl _, fun _ _ => rfl⟩
theorem Step.trans {G H G1 H1 G2 H2 : Hp} (a : Step G H G1 H1) (b : Step G1 H1 G2 H2) : Step G H G2 H2 :=
  ⟨a.gg.trans b.gg, b.gh, a.hh.trans b.hh, fun x hx => by
    have h1 : H1 x ≠ none := by
      cases q : H x with
      | none => exact absurd q hx
      | some o => rw [a.hh x o q]; exact fun z => nomatch z
    rw [b.old x h1, a.old x hx]⟩
theorem same_new {H : Hp} {p : Addr} {o : HO} (h : H p = none) : Same H (upd H p o) := fun b x e => by
  rw [upd_ne (ne_of_none e h)]
  exact e
/-- one new object, frozen at once -/
theorem Step.new {G H : Hp} {p : Addr} {o : HO} (s : Same G H) (h : H p = none) : Step G H (upd G p o) (upd H p o) := by
  have hg : G p = none := s.free h
  refine ⟨same_new hg, fun b x e => ?_, same_new h, fun a ha => ?_⟩
  · by_cases hb : b = p
    · subst hb; rw [upd_same] at e ⊢; exact e
    · rw [upd_ne hb] at e ⊢; exact s b x e
  · have : a ≠ p := fun z => ha (by rw [z]; exact h)
    rw [upd_ne this]
/-- one new object, not frozen -/
theorem Step.raw {G H : Hp} {p : Addr} {o : HO} (s : Same G H) (h : H p = none) : Step G H G (upd H p o) :=
  ⟨Same.refl _, s.trans (same_new h), same_new h, fun _ _ => rfl⟩

theorem ObRel.grow {T : Ct} {G H G' H' : Hp} {a : Addr} {o : OB} (s : Same G G') (hh : ∀ x, H a = some x → H' a = some x) (h : ObRel T G H a o) : ObRel T G' H' a o := by
  cases o with
  | lst ds => obtain ⟨xs, e, r⟩ := h; exact ⟨xs, hh _ e, RlAll.mono s _ _ r⟩
  | dct kvs =>
    obtain ⟨xs, vvs, e, h2, h3, h4, h5, h6, h7, h8⟩ := h
    exact ⟨xs, vvs, hh _ e, h2, h3, h4, h5, RlAll.mono s _ _ h6, h7, RlAll.mono s _ _ h8⟩
  | ins C fs => obtain ⟨dx, vs, e, n, r⟩ := h; exact ⟨dx, vs, hh _ e, n, RlAll.mono s _ _ r⟩
theorem ObRel.there {T : Ct} {G H : Hp} {a : Addr} {o : OB} (h : ObRel T G H a o) : H a ≠ none := by
  cases o with
  | lst ds => obtain ⟨xs, e, r⟩ := h; rw [e]; exact fun z => nomatch z
  | dct kvs => obtain ⟨xs, vvs, e, _⟩ := h; rw [e]; exact fun z => nomatch z
  | ins C fs => obtain ⟨dx, vs, e, _⟩ := h; rw [e]; exact fun z => nomatch z

section
variable {c : Gc} {G G' H H' : Hp} {r : Rho} {σ : L2.St}
theorem EnvRel.grow (E : EnvRel c G r σ H) (s : Step G H G' H') : EnvRel c G' r σ H' := by
  refine ⟨E.len, s.gh, fun i sl v h1 h2 => ?_, E.uniq, fun a o h hb => s.hh _ _ (E.frame a o h hb), E.fresh, fun a ha z => ?_, fun a h0 hb => ?_, E.par⟩
  rotate_left
  · cases q : H a with
    | none => exact E.bor a ha q
    | some o => rw [s.hh _ _ q] at z; cases z
  · rw [← E.gold a h0 hb]
    refine s.old a ?_
    cases q : c.H0 a with
    | none => exact absurd q h0
    | some o => rw [E.frame a o q hb]; exact fun z => nomatch z
  have := E.slot i sl v h1 h2
  cases sl with
  | no => trivial
  | d x => obtain ⟨u, e, q⟩ := this; exact ⟨u, e, Rl.mono s.gg _ _ q⟩
  | own o =>
    obtain ⟨a, e, g, q⟩ := this
    exact ⟨a, e, by rw [s.old a q.there]; exact g, q.grow s.gg fun x hx => s.hh _ _ hx⟩
  | exn x => exact this
  | scr ns => obtain ⟨a, e, q⟩ := this; exact ⟨a, e, sqL_mono s.gg q⟩
/-- a slot is stored: data -/
theorem EnvRel.set (E : EnvRel c G r σ H) {i : Nat} {x : D} {v : V} (hip : i ∉ c.par) (hv : Rl c.T G v x) : EnvRel c G (r.set i (.d x)) (σ.set i (some v)) H := by
  refine ⟨by simp [E.len], E.sub, fun j sl u h1 h2 => ?_, fun j k o o' a h1 h2 h3 h4 => ?_, E.frame, fun j o a h1 h2 => ?_, E.bor, E.gold, fun j hp => by rw [List.getElem?_set_ne (fun z => hip (by rw [z]; exact hp))]; exact E.par j hp⟩
  · by_cases hj : i = j
    · subst hj
      have hl : i < σ.length := by
        have := (List.getElem?_eq_some_iff.mp h2).1
        simpa using this
      have hr : i < r.length := by rw [E.len]; exact hl
      rw [List.getElem?_set_self hr] at h1
      rw [List.getElem?_set_self hl] at h2
      cases h1; cases h2
      exact ⟨v, rfl, hv⟩
    · rw [List.getElem?_set_ne hj] at h1 h2
      exact E.slot j sl u h1 h2
  · have nj : i ≠ j := fun z => by
      subst z
      by_cases hl : i < r.length
      · rw [List.getElem?_set_self hl] at h1; cases h1
      · rw [List.getElem?_eq_none (by simpa using hl)] at h1; cases h1
    have nk : i ≠ k := fun z => by
      subst z
      by_cases hl : i < r.length
      · rw [List.getElem?_set_self hl] at h2; cases h2
      · rw [List.getElem?_eq_none (by simpa using hl)] at h2; cases h2
    rw [List.getElem?_set_ne nj] at h1 h3
    rw [List.getElem?_set_ne nk] at h2 h4
    exact E.uniq j k o o' a h1 h2 h3 h4
  · have nj : i ≠ j := fun z => by
      subst z
      by_cases hl : i < r.length
      · rw [List.getElem?_set_self hl] at h1; cases h1
      · rw [List.getElem?_eq_none (by simpa using hl)] at h1; cases h1
    rw [List.getElem?_set_ne nj] at h1 h2
    exact E.fresh j o a h1 h2
/-- a slot is forgotten -/
theorem EnvRel.forget (E : EnvRel c G r σ H) {i : Nat} {v : Option V} (hip : i ∉ c.par) : EnvRel c G (r.set i .no) (σ.set i v) H := by
  have other : ∀ {j : Nat} {o : OB}, (r.set i .no)[j]? = some (.own o) → i ≠ j := fun {j o} h1 z => by
    subst z
    by_cases hl : i < r.length
    · rw [List.getElem?_set_self hl] at h1; cases h1
    · rw [List.getElem?_eq_none (by simpa using hl)] at h1; cases h1
  refine ⟨by simp [E.len], E.sub, fun j sl u h1 h2 => ?_, fun j k o o' a h1 h2 h3 h4 => ?_, E.frame, fun j o a h1 h2 => ?_, E.bor, E.gold, fun j hp => by rw [List.getElem?_set_ne (fun z => hip (by rw [z]; exact hp))]; exact E.par j hp⟩
  · by_cases hj : i = j
    · subst hj
      have hr : i < r.length := by
        have := (List.getElem?_eq_some_iff.mp h1).1
        simpa using this
      rw [List.getElem?_set_self hr] at h1
      cases h1
      trivial
    · rw [List.getElem?_set_ne hj] at h1 h2
      exact E.slot j sl u h1 h2
  · have nj := other h1
    have nk := other h2
    rw [List.getElem?_set_ne nj] at h1 h3
    rw [List.getElem?_set_ne nk] at h2 h4
    exact E.uniq j k o o' a h1 h2 h3 h4
  · have nj := other h1
    rw [List.getElem?_set_ne nj] at h1 h2
    exact E.fresh j o a h1 h2
/-- a slot is stored: a new object of its own -/
theorem EnvRel.setOwn (E : EnvRel c G r σ H) {i : Nat} {o : OB} {a : Addr} (ho : ObRel c.T G H a o) (hg : G a = none) (hn : ∀ (j : Nat) (o' : OB), r[j]? = some (.own o') → σ[j]? ≠ some (some (.ref a))) (hf : c.H0 a = none) (hip : i ∉ c.par) : EnvRel c G (r.set i (.own o)) (σ.set i (some (.ref a))) H := by
  have key : ∀ {j : Nat} {o' : OB} {b : Addr}, (r.set i (.own o))[j]? = some (.own o') → (σ.set i (some (.ref a)))[j]? = some (some (.ref b)) → (j = i ∧ b = a) ∨ (j ≠ i ∧ r[j]? = some (.own o') ∧ σ[j]? = some (some (.ref b))) := fun {j o' b} h1 h2 => by
    by_cases hj : i = j
    · subst hj
      have hl : i < σ.length := by
        have := (List.getElem?_eq_some_iff.mp h2).1
        simpa using this
      rw [List.getElem?_set_self hl] at h2
      cases h2
      exact .inl ⟨rfl, rfl⟩
    · rw [List.getElem?_set_ne hj] at h1 h2
      exact .inr ⟨fun z => hj z.symm, h1, h2⟩
  refine ⟨by simp [E.len], E.sub, fun j sl u h1 h2 => ?_, fun j k o1 o2 b h1 h2 h3 h4 => ?_, E.frame, fun j o1 b h1 h2 => ?_, E.bor, E.gold, fun j hp => by rw [List.getElem?_set_ne (fun z => hip (by rw [z]; exact hp))]; exact E.par j hp⟩
  · by_cases hj : i = j
    · subst hj
      have hl : i < σ.length := by
        have := (List.getElem?_eq_some_iff.mp h2).1
        simpa using this
      have hr : i < r.length := by rw [E.len]; exact hl
      rw [List.getElem?_set_self hr] at h1
      rw [List.getElem?_set_self hl] at h2
      cases h1; cases h2
      exact ⟨a, rfl, hg, ho⟩
    · rw [List.getElem?_set_ne hj] at h1 h2
      exact E.slot j sl u h1 h2
  · rcases key h1 h3 with ⟨e1, e2⟩ | ⟨n1, q1, q2⟩
    · rcases key h2 h4 with ⟨e3, e4⟩ | ⟨n3, q3, q4⟩
      · rw [e1, e3]
      · rw [e2] at q4; exact absurd q4 (hn k o2 q3)
    · rcases key h2 h4 with ⟨e3, e4⟩ | ⟨n3, q3, q4⟩
      · rw [e4] at q2; exact absurd q2 (hn j o1 q1)
      · exact E.uniq j k o1 o2 b q1 q3 q2 q4
  · rcases key h1 h2 with ⟨e1, e2⟩ | ⟨n1, q1, q2⟩
    · rw [e2]; exact .inr hf
    · exact E.fresh j o1 b q1 q2
/-- what an own slot says -/
theorem EnvRel.own (E : EnvRel c G r σ H) {i : Nat} {o : OB} {v : V} (h1 : r[i]? = some (.own o)) (h2 : σ[i]? = some (some v)) : ∃ a, v = .ref a ∧ G a = none ∧ ObRel c.T G H a o ∧ (a ∈ c.B ∨ c.H0 a = none) := by
  obtain ⟨a, e, g, q⟩ := E.slot i _ _ h1 h2
  cases e
  exact ⟨a, rfl, g, q, E.fresh i o a h1 h2⟩
/-- the own object of slot i is written -/
theorem EnvRel.write (E : EnvRel c G r σ H) {i : Nat} {o o' : OB} {a : Addr} {ho : HO} (h1 : r[i]? = some (.own o)) (h2 : σ[i]? = some (some (.ref a))) (hn : ObRel c.T G (upd H a ho) a o') : EnvRel c G (r.set i (.own o')) σ (upd H a ho) := by
  obtain ⟨b, e, g, q, fr⟩ := E.own h1 h2
  cases e
  have hir : i < r.length := (List.getElem?_eq_some_iff.mp h1).1
  have back : ∀ {j : Nat} {o1 : OB}, (r.set i (.own o'))[j]? = some (.own o1) → ∃ o2, r[j]? = some (.own o2) := fun {j o1} h => by
    by_cases hj : i = j
    · subst hj; exact ⟨o, h1⟩
    · rw [List.getElem?_set_ne hj] at h; exact ⟨o1, h⟩
  refine ⟨by simp [E.len], fun b x hb => ?_, fun j sl u h3 h4 => ?_, fun j k o1 o2 b h3 h4 h5 h6 => ?_, fun b x hb nb => ?_, fun j o1 b h3 h4 => ?_, fun b hb => ?_, E.gold, E.par⟩
  · have : b ≠ a := fun z => by rw [z, g] at hb; cases hb
    rw [upd_ne this]; exact E.sub b x hb
  · by_cases hj : i = j
    · subst hj
      rw [List.getElem?_set_self hir] at h3
      cases h3
      rw [h2] at h4; cases h4
      exact ⟨a, rfl, g, hn⟩
    · rw [List.getElem?_set_ne hj] at h3
      have := E.slot j sl u h3 h4
      cases sl with
      | no => trivial
      | d x => exact this
      | own o1 =>
        obtain ⟨b, e, gb, qb⟩ := this
        refine ⟨b, e, gb, qb.grow (Same.refl _) fun x hx => ?_⟩
        have : b ≠ a := fun z => by
          rw [e, z] at h4
          exact hj (E.uniq i j o o1 a h1 h3 h2 h4)
        rw [upd_ne this]; exact hx
      | exn x => exact this
      | scr ns => exact this
  · obtain ⟨o3, q3⟩ := back h3
    obtain ⟨o4, q4⟩ := back h4
    exact E.uniq j k o3 o4 b q3 q4 h5 h6
  · have : b ≠ a := fun z => by
      subst z
      rcases fr with f | f
      · exact nb f
      · rw [f] at hb; cases hb
    rw [upd_ne this]; exact E.frame b x hb nb
  · obtain ⟨o3, q3⟩ := back h3
    exact E.fresh j o3 b q3 h4
  · by_cases hba : b = a
    · rw [hba, upd_same]; exact fun z => nomatch z
    · rw [upd_ne hba]; exact E.bor b hb
/-- a new address is no borrowed one, none of the entry's, no slot's own -/
theorem EnvRel.new (E : EnvRel c G r σ H) {p : Addr} (hp : H p = none) : G p = none ∧ c.H0 p = none ∧ p ∉ c.B ∧ ∀ (j : Nat) (o : OB), r[j]? = some (.own o) → σ[j]? ≠ some (some (.ref p)) := by
  have nb : p ∉ c.B := fun z => E.bor p z hp
  refine ⟨E.sub.free hp, ?_, nb, fun j o h1 h2 => ?_⟩
  · cases q : c.H0 p with
    | none => rfl
    | some o => rw [E.frame p o q nb] at hp; cases hp
  · obtain ⟨a, ea, _, ob⟩ := E.slot j _ _ h1 h2
    cases ea
    exact ob.there hp
end

/-! ### values on the way -/
inductive Val where
  | d (x : D)
  | sl (i : Nat)

def view (r : Rho) : Val → Option D
  | .d x => some x
  | .sl i => match r[i]? with
    | some (.d x) => some x
    | some (.own (.lst ds)) => some (.list ds)
    | some (.own (.dct kvs)) => some (.dict kvs)
    | _ => none

def ValRel (c : Gc) (G : Hp) (σ : L2.St) : Val → V → Prop
  | .d x, v => Rl c.T G v x
  | .sl i, v => σ[i]? = some (some v)

/-- what is read: the top may be an own object, its parts are frozen -/
inductive RlV (T : Ct) (G H : Hp) : V → D → Prop
  | fz {v : V} {d : D} : Rl T G v d → RlV T G H v d
  | lst {a : Addr} {xs : List V} {ds : List D} : H a = some (.lst xs) → RlAll T G xs ds → RlV T G H (.ref a) (.list ds)
  | dct {a : Addr} {kvs : List (D × D)} : DctAt T G H a kvs → RlV T G H (.ref a) (.dict kvs)

theorem RlV.whole {T : Ct} {G H : Hp} {v : V} {d : D} (s : Same G H) (h : RlV T G H v d) : Rl T H v d := by
  cases h with
  | fz h => exact Rl.mono s _ _ h
  | lst e r => exact .lst e (RlAll.mono s _ _ r)
  | dct q =>
    obtain ⟨xs, vvs, e, h2, h3, h4, h5, h6, h7, h8⟩ := q
    exact .dct e h2 h3 h4 h5 (RlAll.mono s _ _ h6) h7 (RlAll.mono s _ _ h8)
theorem RlV.items {T : Ct} {G H : Hp} {v : V} {ds : List D} (s : Same G H) (h : RlV T G H v (.list ds)) : ∃ a xs, v = .ref a ∧ H a = some (.lst xs) ∧ RlAll T G xs ds := by
  cases h with
  | fz h =>
    cases h with
    | lst q r => exact ⟨_, _, rfl, s _ _ q, r⟩
  | lst e r => exact ⟨_, _, rfl, e, r⟩
theorem RlV.itemsT {T : Ct} {G H : Hp} {v : V} {ds : List D} (s : Same G H) (h : RlV T G H v (.tuple ds)) : ∃ a xs, v = .ref a ∧ SqT T.K H a xs ∧ RlAll T G xs ds := by
  cases h with
  | fz h =>
    cases h with
    | tup q r => exact ⟨_, _, rfl, sqT_mono s q, r⟩
theorem RlV.dict {T : Ct} {G H : Hp} {v : V} {kvs : List (D × D)} (s : Same G H) (h : RlV T G H v (.dict kvs)) : ∃ a, v = .ref a ∧ DctAt T G H a kvs := by
  cases h with
  | fz h =>
    cases h with
    | dct h1 h2 h3 h4 h5 h6 h7 h8 => exact ⟨_, rfl, _, _, s _ _ h1, h2, h3, h4, h5, h6, h7, h8⟩
  | dct q => exact ⟨_, rfl, q⟩

section
variable {c : Gc} {G G' H H' : Hp} {r : Rho} {σ : L2.St}
theorem ValRel.mono {x : Val} {v : V} (s : Same G G') (h : ValRel c G σ x v) : ValRel c G' σ x v := by
  cases x with
  | d x => exact Rl.mono s _ _ h
  | sl i => exact h
theorem EnvRel.view (E : EnvRel c G r σ H) {x : Val} {v : V} {d : D} (h : ValRel c G σ x v) (e : view r x = some d) : RlV c.T G H v d := by
  cases x with
  | d x => cases e; exact .fz h
  | sl i =>
    have h' : σ[i]? = some (some v) := h
    simp only [CT.view] at e
    cases q : r[i]? with
    | none => rw [q] at e; cases e
    | some s =>
      rw [q] at e
      have z := E.slot i s _ q h'
      cases s with
      | no => cases e
      | d y => cases e; obtain ⟨u, eu, ru⟩ := z; cases eu; exact .fz ru
      | own o =>
        obtain ⟨a, ea, g, ob⟩ := z
        cases ea
        cases o with
        | lst ds => cases e; obtain ⟨xs, hx, rx⟩ := ob; exact .lst hx rx
        | dct kvs => cases e; exact .dct ob
        | ins C fs => cases e
      | exn y => cases e
      | scr ns => cases e
end

/-! ### what a computation promises -/
def XRel (c : Gc) (G H : Hp) (x : Exn) (cls : Value) (d : Option Addr) : Prop :=
  cls = .ref (c.T.cl x.cls) ∧ match x.pos with
    | none => d = none
    | some p => ∃ a v, d = some a ∧ H a = some (.xd [("position", v)]) ∧ Rl c.T G v p

def PostE (c : Gc) (W : WX) (σ : L2.St) (G : Hp) (o : Out Val) (Q : VK) : Prop := match o with
  | .ok x r' => ∀ G' H' v, Same G G' → EnvRel c G' r' σ H' → ValRel c G' σ x v → Q v H'
  | .exc x r' => ∀ G' H' cls d, Same G G' → EnvRel c G' r' σ H' → XRel c G' H' x cls d → W cls d σ H'
  | .bad => False
def PostT (c : Gc) (W : WX) (σ : L2.St) (G : Hp) (o : Out Bool) (Q : Bool → Hp → Prop) : Prop := match o with
  | .ok b r' => ∀ G' H', Same G G' → EnvRel c G' r' σ H' → Q b H'
  | .exc x r' => ∀ G' H' cls d, Same G G' → EnvRel c G' r' σ H' → XRel c G' H' x cls d → W cls d σ H'
  | .bad => False
inductive ValsRel (c : Gc) (G : Hp) (σ : L2.St) : List Val → List V → Prop
  | nil : ValsRel c G σ [] []
  | cons {x : Val} {xs : List Val} {v : V} {vs : List V} : ValRel c G σ x v → ValsRel c G σ xs vs → ValsRel c G σ (x :: xs) (v :: vs)
def PostA (c : Gc) (W : WX) (σ : L2.St) (G : Hp) (o : Out (List Val)) (Q : List V → Hp → Prop) : Prop := match o with
  | .ok xs r' => ∀ G' H' vs, Same G G' → EnvRel c G' r' σ H' → ValsRel c G' σ xs vs → Q vs H'
  | .exc x r' => ∀ G' H' cls d, Same G G' → EnvRel c G' r' σ H' → XRel c G' H' x cls d → W cls d σ H'
  | .bad => False
inductive Fl where
  | nx | bk | ct
  | ret (x : D)
def PostS (c : Gc) (W : WX) (G : Hp) (o : Out Fl) (D : Ends) : Prop := match o with
  | .ok .nx r' => ∀ G' H' σ', Same G G' → EnvRel c G' r' σ' H' → D.nx σ' H'
  | .ok .bk r' => ∀ G' H' σ', Same G G' → EnvRel c G' r' σ' H' → D.bk σ' H'
  | .ok .ct r' => ∀ G' H' σ', Same G G' → EnvRel c G' r' σ' H' → D.ct σ' H'
  | .ok (.ret x) r' => ∀ G' H' σ' v, Same G G' → EnvRel c G' r' σ' H' → Rl c.T G' v x → D.rt v H'
  | .exc x r' => ∀ G' H' σ' cls d, Same G G' → EnvRel c G' r' σ' H' → XRel c G' H' x cls d → W cls d σ' H'
  | .bad => False

def TEm (c : Gc) (W : WX) (f : M Val) : TE := fun σ H Q => ∃ G r, EnvRel c G r σ H ∧ PostE c W σ G (f r) Q
def TTm (c : Gc) (W : WX) (f : M Bool) : TT := fun σ H Q => ∃ G r, EnvRel c G r σ H ∧ PostT c W σ G (f r) Q
def TAm (c : Gc) (W : WX) (f : M (List Val)) : TA := fun σ H Q => ∃ G r, EnvRel c G r σ H ∧ PostA c W σ G (f r) Q
def TSm (c : Gc) (W : WX) (f : M Fl) : TS := fun D σ H => ∃ G r, EnvRel c G r σ H ∧ PostS c W G (f r) D

section
variable {c : Gc} {W : WX} {σ : L2.St} {G G' H : Hp}
theorem PostE.mono {o : Out Val} {Q Q' : VK} (s : Same G G') (q : ∀ v H', Q v H' → Q' v H') (h : PostE c W σ G o Q) : PostE c W σ G' o Q' := by
  cases o with
  | ok x r' => exact fun G1 H1 v s1 E V => q _ _ (h G1 H1 v (s.trans s1) E V)
  | exc x r' => exact fun G1 H1 k d s1 E V => h G1 H1 k d (s.trans s1) E V
  | bad => exact h
theorem PostT.mono {o : Out Bool} {Q Q' : Bool → Hp → Prop} (s : Same G G') (q : ∀ v H', Q v H' → Q' v H') (h : PostT c W σ G o Q) : PostT c W σ G' o Q' := by
  cases o with
  | ok x r' => exact fun G1 H1 s1 E => q _ _ (h G1 H1 (s.trans s1) E)
  | exc x r' => exact fun G1 H1 k d s1 E V => h G1 H1 k d (s.trans s1) E V
  | bad => exact h
theorem PostA.mono {o : Out (List Val)} {Q Q' : List V → Hp → Prop} (s : Same G G') (q : ∀ v H', Q v H' → Q' v H') (h : PostA c W σ G o Q) : PostA c W σ G' o Q' := by
  cases o with
  | ok x r' => exact fun G1 H1 v s1 E V => q _ _ (h G1 H1 v (s.trans s1) E V)
  | exc x r' => exact fun G1 H1 k d s1 E V => h G1 H1 k d (s.trans s1) E V
  | bad => exact h
theorem PostS.mono {o : Out Fl} {D D' : Ends} (s : Same G G') (q1 : ∀ σ' H', D.nx σ' H' → D'.nx σ' H') (q2 : ∀ σ' H', D.bk σ' H' → D'.bk σ' H') (q3 : ∀ σ' H', D.ct σ' H' → D'.ct σ' H') (q4 : ∀ v H', D.rt v H' → D'.rt v H')
    (h : PostS c W G o D) : PostS c W G' o D' := by
  cases o with
  | ok x r' =>
    cases x with
    | nx => exact fun G1 H1 σ1 s1 E => q1 _ _ (h G1 H1 σ1 (s.trans s1) E)
    | bk => exact fun G1 H1 σ1 s1 E => q2 _ _ (h G1 H1 σ1 (s.trans s1) E)
    | ct => exact fun G1 H1 σ1 s1 E => q3 _ _ (h G1 H1 σ1 (s.trans s1) E)
    | ret x => exact fun G1 H1 σ1 v s1 E V => q4 _ _ (h G1 H1 σ1 v (s.trans s1) E V)
  | exc x r' => exact fun G1 H1 σ1 k d s1 E V => h G1 H1 σ1 k d (s.trans s1) E V
  | bad => exact h
theorem ValsRel.mono {xs : List Val} {vs : List V} (s : Same G G') (h : ValsRel c G σ xs vs) : ValsRel c G' σ xs vs := by
  induction h with
  | nil => exact .nil
  | cons a _ ih => exact .cons (a.mono s) ih

/-! ### one after another: what the second is asked behind the first -/
theorem bindE {f : M Val} {k : Val → M Val} {r : Rho} {Q : VK} (E : EnvRel c G r σ H) (h : PostE c W σ G (mBind f k r) Q) : TEm c W f σ H (fun v H1 => ∃ x G1 r1, Same G G1 ∧ EnvRel c G1 r1 σ H1 ∧ ValRel c G1 σ x v ∧ PostE c W σ G1 (k x r1) Q) := by
  refine ⟨G, r, E, ?_⟩
  unfold mBind at h
  cases q : f r with
  | ok x r' => rw [q] at h; exact fun G1 H1 v s1 E1 V => ⟨x, G1, r', s1, E1, V, h.mono s1 fun _ _ z => z⟩
  | exc x r' => rw [q] at h; exact h
  | bad => rw [q] at h; exact h
theorem bindET {f : M Val} {k : Val → M Bool} {r : Rho} {Q : Bool → Hp → Prop} (E : EnvRel c G r σ H) (h : PostT c W σ G (mBind f k r) Q) : TEm c W f σ H (fun v H1 => ∃ x G1 r1, Same G G1 ∧ EnvRel c G1 r1 σ H1 ∧ ValRel c G1 σ x v ∧ PostT c W σ G1 (k x r1) Q) := by
  refine ⟨G, r, E, ?_⟩
  unfold mBind at h
  cases q : f r with
  | ok x r' => rw [q] at h; exact fun G1 H1 v s1 E1 V => ⟨x, G1, r', s1, E1, V, h.mono s1 fun _ _ z => z⟩
  | exc x r' => rw [q] at h; exact h
  | bad => rw [q] at h; exact h
theorem bindEA {f : M Val} {k : Val → M (List Val)} {r : Rho} {Q : List V → Hp → Prop} (E : EnvRel c G r σ H) (h : PostA c W σ G (mBind f k r) Q) : TEm c W f σ H (fun v H1 => ∃ x G1 r1, Same G G1 ∧ EnvRel c G1 r1 σ H1 ∧ ValRel c G1 σ x v ∧ PostA c W σ G1 (k x r1) Q) := by
  refine ⟨G, r, E, ?_⟩
  unfold mBind at h
  cases q : f r with
  | ok x r' => rw [q] at h; exact fun G1 H1 v s1 E1 V => ⟨x, G1, r', s1, E1, V, h.mono s1 fun _ _ z => z⟩
  | exc x r' => rw [q] at h; exact h
  | bad => rw [q] at h; exact h
theorem bindES {f : M Val} {k : Val → M Fl} {r : Rho} {D : Ends} (E : EnvRel c G r σ H) (h : PostS c W G (mBind f k r) D) : TEm c W f σ H (fun v H1 => ∃ x G1 r1, Same G G1 ∧ EnvRel c G1 r1 σ H1 ∧ ValRel c G1 σ x v ∧ PostS c W G1 (k x r1) D) := by
  refine ⟨G, r, E, ?_⟩
  unfold mBind at h
  cases q : f r with
  | ok x r' => rw [q] at h; exact fun G1 H1 v s1 E1 V => ⟨x, G1, r', s1, E1, V, h.mono s1 (fun _ _ z => z) (fun _ _ z => z) (fun _ _ z => z) fun _ _ z => z⟩
  | exc x r' => rw [q] at h; exact fun G1 H1 cls d s1 E1 V => h G1 H1 σ cls d s1 E1 V
  | bad => rw [q] at h; exact h
theorem bindAE {f : M (List Val)} {k : List Val → M Val} {r : Rho} {Q : VK} (E : EnvRel c G r σ H) (h : PostE c W σ G (mBind f k r) Q) : TAm c W f σ H (fun vs H1 => ∃ xs G1 r1, Same G G1 ∧ EnvRel c G1 r1 σ H1 ∧ ValsRel c G1 σ xs vs ∧ PostE c W σ G1 (k xs r1) Q) := by
  refine ⟨G, r, E, ?_⟩
  unfold mBind at h
  cases q : f r with
  | ok x r' => rw [q] at h; exact fun G1 H1 v s1 E1 V => ⟨x, G1, r', s1, E1, V, h.mono s1 fun _ _ z => z⟩
  | exc x r' => rw [q] at h; exact h
  | bad => rw [q] at h; exact h
theorem bindTE {f : M Bool} {k : Bool → M Val} {r : Rho} {Q : VK} (E : EnvRel c G r σ H) (h : PostE c W σ G (mBind f k r) Q) : TTm c W f σ H (fun b H1 => ∃ G1 r1, Same G G1 ∧ EnvRel c G1 r1 σ H1 ∧ PostE c W σ G1 (k b r1) Q) := by
  refine ⟨G, r, E, ?_⟩
  unfold mBind at h
  cases q : f r with
  | ok x r' => rw [q] at h; exact fun G1 H1 s1 E1 => ⟨G1, r', s1, E1, h.mono s1 fun _ _ z => z⟩
  | exc x r' => rw [q] at h; exact h
  | bad => rw [q] at h; exact h
theorem bindTT {f : M Bool} {k : Bool → M Bool} {r : Rho} {Q : Bool → Hp → Prop} (E : EnvRel c G r σ H) (h : PostT c W σ G (mBind f k r) Q) : TTm c W f σ H (fun b H1 => ∃ G1 r1, Same G G1 ∧ EnvRel c G1 r1 σ H1 ∧ PostT c W σ G1 (k b r1) Q) := by
  refine ⟨G, r, E, ?_⟩
  unfold mBind at h
  cases q : f r with
  | ok x r' => rw [q] at h; exact fun G1 H1 s1 E1 => ⟨G1, r', s1, E1, h.mono s1 fun _ _ z => z⟩
  | exc x r' => rw [q] at h; exact h
  | bad => rw [q] at h; exact h
theorem bindTS {f : M Bool} {k : Bool → M Fl} {r : Rho} {D : Ends} (E : EnvRel c G r σ H) (h : PostS c W G (mBind f k r) D) : TTm c W f σ H (fun b H1 => ∃ G1 r1, Same G G1 ∧ EnvRel c G1 r1 σ H1 ∧ PostS c W G1 (k b r1) D) := by
  refine ⟨G, r, E, ?_⟩
  unfold mBind at h
  cases q : f r with
  | ok x r' => rw [q] at h; exact fun G1 H1 s1 E1 => ⟨G1, r', s1, E1, h.mono s1 (fun _ _ z => z) (fun _ _ z => z) (fun _ _ z => z) fun _ _ z => z⟩
  | exc x r' => rw [q] at h; exact fun G1 H1 cls d s1 E1 V => h G1 H1 σ cls d s1 E1 V
  | bad => rw [q] at h; exact h
theorem TEm.imp {f : M Val} {Q Q' : VK} (q : ∀ v H', Q v H' → Q' v H') (h : TEm c W f σ H Q) : TEm c W f σ H Q' := by
  obtain ⟨G, r, E, P⟩ := h
  exact ⟨G, r, E, P.mono (Same.refl _) q⟩
theorem TTm.imp {f : M Bool} {Q Q' : Bool → Hp → Prop} (q : ∀ v H', Q v H' → Q' v H') (h : TTm c W f σ H Q) : TTm c W f σ H Q' := by
  obtain ⟨G, r, E, P⟩ := h
  exact ⟨G, r, E, P.mono (Same.refl _) q⟩
theorem TAm.imp {f : M (List Val)} {Q Q' : List V → Hp → Prop} (q : ∀ v H', Q v H' → Q' v H') (h : TAm c W f σ H Q) : TAm c W f σ H Q' := by
  obtain ⟨G, r, E, P⟩ := h
  exact ⟨G, r, E, P.mono (Same.refl _) q⟩
end
section
variable {X : Cx}
theorem PE.weak {e : Expr} {t t' : TE} (h : PE X e t) (q : ∀ σ H Q, t' σ H Q → t σ H Q) : PE X e t' := ⟨fun pins s σ H Q I w => h.run pins s σ H Q I (q _ _ _ w)⟩
theorem PT.weak {e : Expr} {t t' : TT} (h : PT X e t) (q : ∀ σ H Q, t' σ H Q → t σ H Q) : PT X e t' := ⟨fun pins s σ H Q I w => h.run pins s σ H Q I (q _ _ _ w)⟩
theorem PW.weak {e : Expr} {t t' : TT} (h : PW X e t) (q : ∀ σ H Q, t' σ H Q → t σ H Q) : PW X e t' := ⟨fun wh pins s σ H Q I w => h.run wh pins s σ H Q I (q _ _ _ w)⟩
theorem PA.weak {es : List Expr} {t t' : TA} (h : PA X es t) (q : ∀ σ H Q, t' σ H Q → t σ H Q) : PA X es t' := ⟨fun pos pins s σ H Q I w => h.run pos pins s σ H Q I (q _ _ _ w)⟩
theorem PS.weak {e : Stmt} {t t' : TS} (h : PS X e t) (q : ∀ D σ H, t' D σ H → t D σ H) : PS X e t' := ⟨fun pins s σ H D I w => h.run pins s σ H D I (q _ _ _ w)⟩
theorem PSs.weak {e : List Stmt} {t t' : TS} (h : PSs X e t) (q : ∀ D σ H, t' D σ H → t D σ H) : PSs X e t' := ⟨fun pins s σ H D I w => h.run pins s σ H D I (q _ _ _ w)⟩
end
end CT

/-! CT3: operators. -/
namespace CT
open PySem PySem.Spec PyProof.Rows L2

abbrev lim : Nat := 1000000
theorem lim_le {n : Nat} (h : n ≤ lim) : n ≤ sizeLine := Nat.le_trans h (by rw [sizeLine_eq]; decide)
theorem lim_lt {n : Nat} (h : n < lim) : n < sizeLine := Nat.lt_of_lt_of_le h (by rw [sizeLine_eq]; decide)

def bAdd : D → D → Option D
  | .int i, .int j => some (.int (i + j))
  | .str x, .str y => if x.length + y.length ≤ lim then some (.str (x ++ y)) else none
  | .tuple xs, .tuple ys => if xs.length + ys.length ≤ lim then some (.tuple (xs ++ ys)) else none
  | .list xs, .list ys => if xs.length + ys.length ≤ lim then some (.list (xs ++ ys)) else none
  | _, _ => none
def bSub : D → D → Option D
  | .int i, .int j => some (.int (i - j))
  | _, _ => none
def two64 : Int := 18446744073709551616
def bMul : D → D → Option D
  | .int i, .int j => if (-two64 < i ∧ i < two64) ∨ (-two64 < j ∧ j < two64) then some (.int (i * j)) else none
  | .list xs, .int k => if 0 ≤ k ∧ k ≤ 1000 ∧ xs.length ≤ 1000 then some (.list (List.replicate k.toNat xs).flatten) else none
  | .tuple xs, .int k => if 2 ≤ k ∧ k ≤ 1000 ∧ xs.length ≤ 1000 ∧ xs.isEmpty = false then some (.tuple (List.replicate k.toNat xs).flatten) else none
  | _, _ => none
def bDiv : D → D → Option D
  | .int i, .int j => if 0 < j ∧ j < 1073741824 then some (.int (i / j)) else none
  | _, _ => none
def bMod : D → D → Option D
  | .int i, .int j => if 0 < j then some (.int (i % j)) else none
  | _, _ => none
def bPow : D → D → Option D
  | .int i, .int j => if 0 ≤ j ∧ j ≤ 1000 ∧ i.natAbs < 18446744073709551616 then some (.int (i ^ j.toNat)) else none
  | _, _ => none
def bop : Operator → D → D → Option D
  | .Add => bAdd
  | .Sub => bSub
  | .Mult => bMul
  | .FloorDiv => bDiv
  | .Mod => bMod
  | .Pow => bPow
  | _ => fun _ _ => none

def rOp (T : Ct) (o : D → D → Option D) : R2 := fun x y H Q => ∃ G d e z, Same G H ∧ RlV T G H x d ∧ RlV T G H y e ∧ o d e = some z ∧ ∀ G' H' v, Step G H G' H' → Rl T G' v z → Q v H'
def OpOk (T : Ct) (X : Cx) (f : Value → Value → Sem Value) (o : D → D → Option D) : Prop := OpR X f (rOp T o)

theorem RlV.int {T : Ct} {G H : Hp} {v : V} {i : Int} (h : RlV T G H v (.int i)) : v = .int i := by
  cases h with
  | fz h => cases h; rfl
theorem RlV.str {T : Ct} {G H : Hp} {v : V} {i : Str} (h : RlV T G H v (.str i)) : v = .str i := by
  cases h with
  | fz h => cases h; rfl
theorem RlV.bl {T : Ct} {G H : Hp} {v : V} {i : Bool} (h : RlV T G H v (.bool i)) : v = .bl i := by
  cases h with
  | fz h => cases h; rfl
theorem RlV.non {T : Ct} {G H : Hp} {v : V} (h : RlV T G H v .none) : v = .non := by
  cases h with
  | fz h => cases h; rfl

theorem OpR.imp {X : Cx} {f : Value → Value → Sem Value} {r r' : R2} (h : OpR X f r) (q : ∀ x y H Q, r' x y H Q → r x y H Q) : OpR X f r' :=
  fun pins s σ H x y v u Q I rx ry w => h pins s σ H x y v u Q I rx ry (q _ _ _ _ w)

section
variable {T : Ct} {X : Cx}
theorem ok_add (hK : T.K = X.K) : OpOk T X (binaryOp .Add) bAdd := by
  intro pins s σ H x y v u Q I rx ry h
  obtain ⟨G, d, e, z, sm, rd, re, ez, q⟩ := h
  cases d with
  | int i =>
    cases e with
    | int j =>
      cases ez
      exact op_add pins s σ H x y v u Q I rx ry ⟨i, j, rd.int, re.int, q G H _ (Step.refl sm) (.int _)⟩
    | _ => exact nomatch ez
  | str i =>
    cases e with
    | str j =>
      simp only [bAdd] at ez
      split at ez
      · rename_i hl
        cases ez
        exact op_add_str pins s σ H x y v u Q I rx ry ⟨i, j, rd.str, re.str, lim_le hl, q G H _ (Step.refl sm) (.str _)⟩
      · cases ez
    | _ => exact nomatch ez
  | tuple ds =>
    cases e with
    | tuple es =>
      simp only [bAdd] at ez
      split at ez
      · rename_i hl
        cases ez
        obtain ⟨a, xs, ea, ha, ra⟩ := rd.itemsT sm
        obtain ⟨b, ys, eb, hb, rb⟩ := re.itemsT sm
        rw [hK] at ha hb
        have la := ra.len
        have lb := rb.len
        refine op_catA pins s σ H x y v u Q I rx ry ⟨a, b, xs, ys, ea, eb, ha, hb, by rw [la, lb]; exact lim_le hl, fun h0 => ?_, fun h0 h1 => ?_, fun h0 h1 p hp => ?_⟩
        · subst h0
          cases ra
          have := re
          rw [eb] at this
          cases this with
          | fz t => exact q G H _ (Step.refl sm) t
        · subst h1
          cases rb
          have := rd
          rw [ea] at this
          rw [List.append_nil] at q
          cases this with
          | fz t => exact q G H _ (Step.refl sm) t
        · have st : Step G H (upd G p (.tup (xs ++ ys))) (upd H p (.tup (xs ++ ys))) := Step.new sm hp
          exact q _ _ _ st (.tup (SqT.of upd_same) (RlAll.mono st.gg _ _ (ra.append rb)))
      · cases ez
    | _ => exact nomatch ez
  | list ds =>
    cases e with
    | list es =>
      simp only [bAdd] at ez
      split at ez
      · rename_i hl
        cases ez
        obtain ⟨a, xs, ea, ha, ra⟩ := rd.items sm
        obtain ⟨b, ys, eb, hb, rb⟩ := re.items sm
        have la := ra.len
        have lb := rb.len
        refine op_cat pins s σ H x y v u Q I rx ry ⟨a, b, xs, ys, ea, eb, ha, hb, by rw [la, lb]; exact lim_le hl, fun p hp => ?_⟩
        have st : Step G H (upd G p (.lst (xs ++ ys))) (upd H p (.lst (xs ++ ys))) := Step.new sm hp
        exact q _ _ _ st (.lst upd_same (RlAll.mono st.gg _ _ (ra.append rb)))
      · cases ez
    | _ => exact nomatch ez
  | none => exact nomatch ez
  | bool b => exact nomatch ez
  | dict kvs => exact nomatch ez
theorem ok_sub : OpOk T X (binaryOp .Sub) bSub := by
  intro pins s σ H x y v u Q I rx ry h
  obtain ⟨G, d, e, z, sm, rd, re, ez, q⟩ := h
  cases d with
  | int i =>
    cases e with
    | int j =>
      cases ez
      exact op_sub pins s σ H x y v u Q I rx ry ⟨i, j, rd.int, re.int, q G H _ (Step.refl sm) (.int _)⟩
    | _ => exact nomatch ez
  | _ => exact nomatch ez
theorem RlAll.rep {G : Hp} {xs : List V} {ds : List D} (h : RlAll T G xs ds) : ∀ n : Nat, RlAll T G (List.replicate n xs).flatten (List.replicate n ds).flatten
  | 0 => .nil
  | n + 1 => by
    rw [List.replicate_succ, List.replicate_succ, List.flatten_cons, List.flatten_cons]
    exact h.append (h.rep n)
theorem ok_mul (hK : T.K = X.K) : OpOk T X (binaryOp .Mult) bMul := by
  intro pins s σ H x y v u Q I rx ry h
  obtain ⟨G, d, e, z, sm, rd, re, ez, q⟩ := h
  cases d with
  | int i =>
    cases e with
    | int j =>
      simp only [bMul] at ez
      split at ez
      · rename_i hl
        cases ez
        exact op_mul pins s σ H x y v u Q I rx ry ⟨i, j, rd.int, re.int, by unfold CMul; unfold two64 at hl; exact hl, q G H _ (Step.refl sm) (.int _)⟩
      · cases ez
    | _ => exact nomatch ez
  | list ds =>
    cases e with
    | int j =>
      simp only [bMul] at ez
      split at ez
      · rename_i hl
        cases ez
        obtain ⟨a, xs, ea, ha, ra⟩ := rd.items sm
        have la := ra.len
        refine op_rep pins s σ H x y v u Q I rx ry ⟨a, j, xs, ea, re.int, ha, by omega, by omega, ?_, fun p hp => ?_⟩
        · have h1 : xs.length ≤ 1000 := by omega
          have h2 : j.toNat ≤ 1000 := by omega
          exact lim_le (Nat.mul_le_mul h1 h2)
        · have st : Step G H (upd G p (.lst (List.replicate j.toNat xs).flatten)) (upd H p (.lst (List.replicate j.toNat xs).flatten)) := Step.new sm hp
          exact q _ _ _ st (.lst upd_same (RlAll.mono st.gg _ _ (ra.rep _)))
      · cases ez
    | _ => exact nomatch ez
  | tuple ds =>
    cases e with
    | int j =>
      simp only [bMul] at ez
      split at ez
      · rename_i hl
        cases ez
        obtain ⟨a, xs, ea, ha, ra⟩ := rd.itemsT sm
        have la := ra.len
        rw [hK] at ha
        refine op_repT pins s σ H x y v u Q I rx ry ⟨a, j, xs, ea, re.int, ha, fun z => ?_, by omega, by omega, by omega, fun p hp => ?_⟩
        · subst z
          have : ds = [] := by cases ds with | nil => rfl | cons _ _ => simp at la
          rw [this] at hl
          simp at hl
        · have st : Step G H (upd G p (.tup (List.replicate j.toNat xs).flatten)) (upd H p (.tup (List.replicate j.toNat xs).flatten)) := Step.new sm hp
          exact q _ _ _ st (.tup (SqT.of upd_same) (RlAll.mono st.gg _ _ (ra.rep _)))
      · cases ez
    | _ => exact nomatch ez
  | none => exact nomatch ez
  | bool b => exact nomatch ez
  | str b => exact nomatch ez
  | dict kvs => exact nomatch ez
theorem ok_div : OpOk T X (binaryOp .FloorDiv) bDiv := by
  intro pins s σ H x y v u Q I rx ry h
  obtain ⟨G, d, e, z, sm, rd, re, ez, q⟩ := h
  cases d with
  | int i =>
    cases e with
    | int j =>
      simp only [bDiv] at ez
      split at ez
      · rename_i hl
        cases ez
        exact op_fdiv pins s σ H x y v u Q I rx ry ⟨i, j, rd.int, re.int, hl, q G H _ (Step.refl sm) (.int _)⟩
      · cases ez
    | _ => exact nomatch ez
  | _ => exact nomatch ez
theorem ok_mod : OpOk T X (binaryOp .Mod) bMod := by
  intro pins s σ H x y v u Q I rx ry h
  obtain ⟨G, d, e, z, sm, rd, re, ez, q⟩ := h
  cases d with
  | int i =>
    cases e with
    | int j =>
      simp only [bMod] at ez
      split at ez
      · rename_i hl
        cases ez
        exact op_mod pins s σ H x y v u Q I rx ry ⟨i, j, rd.int, re.int, hl, q G H _ (Step.refl sm) (.int _)⟩
      · cases ez
    | _ => exact nomatch ez
  | _ => exact nomatch ez
theorem ok_pow : OpOk T X (binaryOp .Pow) bPow := by
  intro pins s σ H x y v u Q I rx ry h
  obtain ⟨G, d, e, z, sm, rd, re, ez, q⟩ := h
  cases d with
  | int i =>
    cases e with
    | int j =>
      simp only [bPow] at ez
      split at ez
      · rename_i hl
        cases ez
        exact op_pow pins s σ H x y v u Q I rx ry ⟨i, j, rd.int, re.int, ⟨hl.1, by omega, hl.2.2⟩, q G H _ (Step.refl sm) (.int _)⟩
      · cases ez
    | _ => exact nomatch ez
  | _ => exact nomatch ez
theorem ok_bop (hK : T.K = X.K) (op : Operator) : OpOk T X (binaryOp op) (bop op) := by
  cases op with
  | Add => exact ok_add hK
  | Sub => exact ok_sub
  | Mult => exact ok_mul hK
  | FloorDiv => exact ok_div
  | Mod => exact ok_mod
  | Pow => exact ok_pow
  | _ =>
    intro pins s σ H x y v u Q I rx ry h
    obtain ⟨G, d, e, z, sm, rd, re, ez, q⟩ := h
    exact nomatch ez

/-! ### comparisons -/
theorem RlV.dp {G H : Hp} {v : V} {d : D} (s : Same G H) (h : RlV T G H v d) (c : d.canLay0 = true) : Dp T.K H v d := Rl.dp d v (h.whole s) c
def shp (d : D) : Bool := SeqAt.shaped d
def cEq : D → D → Option Bool := fun d e => if shp d && shp e then some (PyData.eqv d e) else none
theorem shp_lay {d : D} (h : shp d = true) : d.canLay0 = true := SeqAt.canLay_of_shaped h
def rCmp (T : Ct) (o : D → D → Option Bool) : R2 := fun x y H Q => ∃ G d e z, Same G H ∧ RlV T G H x d ∧ RlV T G H y e ∧ o d e = some z ∧ Q (.bl z) H
def CmpOk (T : Ct) (X : Cx) (op : CmpOp) (o : D → D → Option Bool) : Prop := OpR X (compareOp op) (rCmp T o)
theorem ok_eq (hK : T.K = X.K) (hu : X.A.units + 64 < cLine) : CmpOk T X .Eq cEq := by
  intro pins s σ H x y v u Q I rx ry h
  obtain ⟨G, d, e, z, sm, rd, re, ez, q⟩ := h
  unfold cEq at ez
  split at ez
  · rename_i hs
    rw [Bool.and_eq_true] at hs
    cases ez
    have h1 := rd.dp sm (shp_lay hs.1)
    have h2 := re.dp sm (shp_lay hs.2)
    rw [hK] at h1 h2
    exact op_eqD hu pins s σ H x y v u Q I rx ry ⟨d, e, h1, h2, hs.1, hs.2, q⟩
  · cases ez
def cNe : D → D → Option Bool := fun d e => if shp d && shp e then some (!PyData.eqv d e) else none
theorem ok_ne (hK : T.K = X.K) (hu : X.A.units + 64 < cLine) : CmpOk T X .NotEq cNe := by
  intro pins s σ H x y v u Q I rx ry h
  obtain ⟨G, d, e, z, sm, rd, re, ez, q⟩ := h
  unfold cNe at ez
  split at ez
  · rename_i hs
    rw [Bool.and_eq_true] at hs
    cases ez
    have h1 := rd.dp sm (shp_lay hs.1)
    have h2 := re.dp sm (shp_lay hs.2)
    rw [hK] at h1 h2
    exact op_neD hu pins s σ H x y v u Q I rx ry ⟨d, e, h1, h2, hs.1, hs.2, q⟩
  · cases ez
end
end CT

/-! CT4: order, in, is None. -/
namespace CT
open PySem PySem.Spec PyProof.Rows L2

/-! ### >= of ints and of tuples -/
mutual
def ia : D → D → Bool
  | .int _, .int _ => true
  | .tuple xs, .tuple ys => iaAll xs ys
  | _, _ => false
def iaAll : List D → List D → Bool
  | x :: xs, y :: ys => ia x y && iaAll xs ys
  | [], _ => true
  | _ :: _, [] => true
end
mutual
def geB : D → D → Bool
  | .int i, .int j => decide (j ≤ i)
  | .tuple xs, .tuple ys => geAll xs ys
  | _, _ => false
def geAll : List D → List D → Bool
  | _, [] => true
  | [], _ :: _ => false
  | x :: xs, y :: ys => if PyData.eqv x y then geAll xs ys else geB x y
end
def dGe (d e : D) : Option Bool := if ia d e && shp d && shp e then some (geB d e) else none
theorem lexAt_up (e r : Nat → Bool) (z : Bool) : ∀ (k i : Nat), Ob.lexAt e r z (i + 1) k = Ob.lexAt (fun j => e (j + 1)) (fun j => r (j + 1)) z i k
  | 0, _ => rfl
  | k + 1, i => by
    rw [Ob.lexAt_succ, Ob.lexAt_succ, lexAt_up e r z k (i + 1)]
theorem lexAt_ge : ∀ (xs ys : List D) (e r : Nat → Bool), (∀ j x y, xs[j]? = some x → ys[j]? = some y → e j = PyData.eqv x y) →
    (∀ j x y, xs[j]? = some x → ys[j]? = some y → r j = geB x y) → Ob.lexAt e r (decide (xs.length ≥ ys.length)) 0 (min xs.length ys.length) = geAll xs ys
  | [], [], e, r, _, _ => by simp [Ob.lexAt, geAll]
  | x :: xs, [], e, r, _, _ => by simp [Ob.lexAt, geAll]
  | [], y :: ys, e, r, _, _ => by simp [Ob.lexAt, geAll]
  | x :: xs, y :: ys, e, r, he, hr => by
    have m : min (x :: xs).length (y :: ys).length = min xs.length ys.length + 1 := by simp only [List.length_cons]; omega
    have z : decide ((x :: xs).length ≥ (y :: ys).length) = decide (xs.length ≥ ys.length) := by simp only [List.length_cons]; exact decide_eq_decide.mpr (by omega)
    rw [m, z, Ob.lexAt_succ]
    have e0 := he 0 x y rfl rfl
    simp only [geAll]
    rw [← e0]
    cases q : e 0 with
    | true =>
      rw [if_pos rfl, if_pos rfl, lexAt_up]
      exact lexAt_ge xs ys _ _ (fun j x' y' h1 h2 => he (j + 1) x' y' (by simpa using h1) (by simpa using h2)) fun j x' y' h1 h2 => hr (j + 1) x' y' (by simpa using h1) (by simpa using h2)
    | false =>
      rw [if_neg Bool.false_ne_true, if_neg Bool.false_ne_true]
      exact hr 0 x y rfl rfl
theorem iaAll_get : ∀ {xs ys : List D} {j : Nat} {x y : D}, iaAll xs ys = true → xs[j]? = some x → ys[j]? = some y → ia x y = true
  | [], _, _, _, _, _, e, _ => by simp at e
  | _ :: _, [], _, _, _, _, _, e => by simp at e
  | x :: xs, y :: ys, 0, x', y', h, e1, e2 => by
    simp only [iaAll, Bool.and_eq_true] at h
    simp at e1 e2
    subst e1 e2
    exact h.1
  | x :: xs, y :: ys, j + 1, x', y', h, e1, e2 => by
    simp only [iaAll, Bool.and_eq_true] at h
    exact iaAll_get (j := j) h.2 (by simpa using e1) (by simpa using e2)
theorem shaped_item {d : D} {ds : List D} (h : PyData.canLayAll0 ds = true) {j : Nat} (e : ds[j]? = some d) : d.canLay0 = true := by
  induction ds generalizing j with
  | nil => simp at e
  | cons x xs ih =>
    simp only [PyData.canLayAll0, Bool.and_eq_true] at h
    cases j with
    | zero => simp at e; subst e; exact h.1
    | succ j => exact ih h.2 (by simpa using e)
theorem depth_item {d : D} {ds : List D} {j : Nat} (e : ds[j]? = some d) : d.depth ≤ PyData.depthAll ds := by
  induction ds generalizing j with
  | nil => simp at e
  | cons x xs ih =>
    simp only [PyData.depthAll]
    cases j with
    | zero => simp at e; subst e; omega
    | succ j => have := ih (j := j) (by simpa using e); omega
theorem readsAll_get {h : Heap} : ∀ {vs : List Value} {ds : List D} {as : List Addr} {j : Nat} {d : D}, ReadsAll h vs ds as → ds[j]? = some d → ∃ v bs, vs[j]? = some v ∧ Reads h v d bs
  | _, [], _, _, _, _, e => by simp at e
  | _, x :: xs, _, 0, d, r, e => by
    cases r with
    | cons r1 r2 => simp at e; subst e; exact ⟨_, _, rfl, r1⟩
  | _, x :: xs, _, j + 1, d, r, e => by
    cases r with
    | cons r1 r2 =>
      obtain ⟨v, bs, h1, h2⟩ := readsAll_get (j := j) r2 (by simpa using e)
      exact ⟨v, bs, by simpa using h1, h2⟩
theorem eqAt_data {A : Around} {s : Shared} {a b : Value} {da db : D} {as bs : List Addr} (ra : Reads s.heap a da as) (rb : Reads s.heap b db bs) (ha : da.canLay0 = true) (hb : db.canLay0 = true) (hu : A.units + min da.depth db.depth < cLine) :
    SeqAt.EqAt A s a b (PyData.eqv da db) := fun prog w E Q q => SeqAt.eqBoolOverData prog w A E s a b da db as bs Q ra rb ha hb hu q

theorem readsAll_at {h : Heap} {vs : Array Value} {xs : List D} {as : List Addr} (r : ReadsAll h vs.toList xs as) (j : Nat) (hj : j < vs.size) : ∃ x bs, xs[j]? = some x ∧ Reads h vs[j] x bs := by
  have l1 := SeqAt.ReadsAll.length _ _ _ r
  have s1 : vs.size = xs.length := by rw [← l1]; simp
  have hx : j < xs.length := by omega
  obtain ⟨v, bs, e1, e2⟩ := readsAll_get r (List.getElem?_eq_getElem hx)
  have : v = vs[j] := by
    rw [Array.getElem?_toList, Array.getElem?_eq_getElem hj] at e1
    exact (Option.some.inj e1).symm
  rw [this] at e2
  exact ⟨_, bs, List.getElem?_eq_getElem hx, e2⟩
theorem rcGe : ∀ (n : Nat) (da db : D) (A : Around) (s : Shared) (a b : Value) (as bs : List Addr), da.depth ≤ n → ia da db = true → Reads s.heap a da as → Reads s.heap b db bs → da.canLay0 = true → db.canLay0 = true → A.units + da.depth + 1 < cLine → Ob.RcOp .GtE A s a b (geB da db) := by
  intro n
  induction n with
  | zero =>
    intro da db A s a b as bs hn h ra rb ca cb hu
    cases da with
    | int i =>
      cases db with
      | int j =>
        cases ra; cases rb
        simp only [geB]
        exact Ob.RcOp.ge_int _ _ _ _
      | _ => simp [ia] at h
    | tuple xs => simp [PyData.depth] at hn
    | _ => simp [ia] at h
  | succ n ih =>
    intro da db A s a b as bs hn h ra rb ca cb hu
    cases da with
    | int i =>
      cases db with
      | int j =>
        cases ra; cases rb
        simp only [geB]
        exact Ob.RcOp.ge_int _ _ _ _
      | _ => simp [ia] at h
    | tuple xs =>
      cases db with
      | tuple ys =>
        simp only [ia] at h
        simp only [PyData.canLay0] at ca cb
        simp only [PyData.depth] at hn hu
        cases ra with
        | @tuple a1 o1 vs1 n1 _ _ h1 h2 h3 h4 =>
          cases rb with
          | @tuple a2 o2 vs2 n2 _ _ k1 k2 k3 k4 =>
            have l1 := SeqAt.ReadsAll.length _ _ _ h4
            have l2 := SeqAt.ReadsAll.length _ _ _ k4
            have s1 : vs1.size = xs.length := by rw [← l1]; simp
            have s2 : vs2.size = ys.length := by rw [← l2]; simp
            have g : ∀ {zs : List D} {j : Nat} {z : D}, zs[j]? = some z → zs.getD j .none = z := fun {zs j z} e => by rw [List.getD_eq_getElem?_getD, e]; rfl
            have R := Ob.RcOp.tuples_ge (A := A) (s := s) (e := fun j => PyData.eqv (xs.getD j .none) (ys.getD j .none)) (r := fun j => geB (xs.getD j .none) (ys.getD j .none)) (l := a1) (b := a2) (items := vs1) (items2 := vs2) ⟨_, h1, h2, _, h3⟩ ⟨_, k1, k2, _, k3⟩ (by omega) (fun j hj hk => by
                obtain ⟨x, b1, e1, r1⟩ := readsAll_at h4 j hj
                obtain ⟨y, b2, e2, r2⟩ := readsAll_at k4 j hk
                have d1 := depth_item e1
                show SeqAt.EqAt _ _ _ _ (PyData.eqv (xs.getD j .none) (ys.getD j .none))
                rw [g e1, g e2]
                refine eqAt_data r1 r2 (shaped_item ca e1) (shaped_item cb e2) ?_
                show A.units + 1 + min x.depth y.depth < cLine
                omega) (fun j hj hk hf => by
                obtain ⟨x, b1, e1, r1⟩ := readsAll_at h4 j hj
                obtain ⟨y, b2, e2, r2⟩ := readsAll_at k4 j hk
                have d1 := depth_item e1
                show Ob.RcOp _ _ _ _ _ (geB (xs.getD j .none) (ys.getD j .none))
                rw [g e1, g e2]
                refine ih x y A.in1 s _ _ b1 b2 (by omega) (iaAll_get h e1 e2) r1 r2 (shaped_item ca e1) (shaped_item cb e2) ?_
                show A.units + 1 + x.depth + 1 < cLine
                omega)
            have z := lexAt_ge xs ys (fun j => PyData.eqv (xs.getD j .none) (ys.getD j .none)) (fun j => geB (xs.getD j .none) (ys.getD j .none)) (fun j x y e1 e2 => by show PyData.eqv (xs.getD j .none) (ys.getD j .none) = _; rw [g e1, g e2]) (fun j x y e1 e2 => by show geB (xs.getD j .none) (ys.getD j .none) = _; rw [g e1, g e2])
            rw [s1, s2, z] at R
            simp only [geB]
            exact R
      | _ => simp [ia] at h
    | _ => simp [ia] at h
section
variable {T : Ct} {X : Cx}
theorem shp_depth {d : D} (h : shp d = true) : d.depth ≤ 64 := by
  unfold shp SeqAt.shaped at h
  rw [Bool.and_eq_true, decide_eq_true_eq] at h
  exact h.2
theorem ok_ge (hK : T.K = X.K) (hu : X.A.units + 66 < cLine) : CmpOk T X .GtE dGe := by
  intro pins s σ H x y v u Q I rx ry h
  obtain ⟨G, d, e, z, sm, rd, re, ez, q⟩ := h
  unfold dGe at ez
  split at ez
  · rename_i hs
    rw [Bool.and_eq_true, Bool.and_eq_true] at hs
    cases ez
    have h1 := rd.dp sm (shp_lay hs.1.2)
    have h2 := re.dp sm (shp_lay hs.2)
    rw [hK] at h1 h2
    obtain ⟨as, r1⟩ := Dp.reads I d x v h1 rx
    obtain ⟨bs, r2⟩ := Dp.reads I e y u h2 ry
    have hd := shp_depth hs.1.2
    exact rcGe 64 d e X.A s v u as bs hd hs.1.1 r1 r2 (shp_lay hs.1.2) (shp_lay hs.2) (by omega) X.prog X.w X.xe (EP X pins σ Q) ⟨.bl _, H, I, rfl, q⟩
  · cases ez
def dLtI : D → D → Option Bool
  | .int i, .int j => some (decide (i < j))
  | _, _ => none
def dLeI : D → D → Option Bool
  | .int i, .int j => some (decide (i ≤ j))
  | _, _ => none
def dGtI : D → D → Option Bool
  | .int i, .int j => some (decide (j < i))
  | _, _ => none
theorem ok_lt : CmpOk T X .Lt dLtI := by
  intro pins s σ H x y v u Q I rx ry h
  obtain ⟨G, d, e, z, sm, rd, re, ez, q⟩ := h
  cases d with
  | int i =>
    cases e with
    | int j => cases ez; exact op_lt pins s σ H x y v u Q I rx ry ⟨i, j, rd.int, re.int, q⟩
    | _ => exact nomatch ez
  | _ => exact nomatch ez
theorem ok_le : CmpOk T X .LtE dLeI := by
  intro pins s σ H x y v u Q I rx ry h
  obtain ⟨G, d, e, z, sm, rd, re, ez, q⟩ := h
  cases d with
  | int i =>
    cases e with
    | int j => cases ez; exact op_le pins s σ H x y v u Q I rx ry ⟨i, j, rd.int, re.int, q⟩
    | _ => exact nomatch ez
  | _ => exact nomatch ez
theorem ok_gt : CmpOk T X .Gt dGtI := by
  intro pins s σ H x y v u Q I rx ry h
  obtain ⟨G, d, e, z, sm, rd, re, ez, q⟩ := h
  cases d with
  | int i =>
    cases e with
    | int j => cases ez; exact op_gt pins s σ H x y v u Q I rx ry ⟨i, j, rd.int, re.int, q⟩
    | _ => exact nomatch ez
  | _ => exact nomatch ez
/-! ### is None -/
def isN : D → Bool
  | .none => true
  | _ => false
def cIs : D → D → Option Bool
  | d, .none => some (isN d)
  | _, _ => none
def cIsNot : D → D → Option Bool
  | d, .none => some (!isN d)
  | _, _ => none
theorem RlV.isN {G H : Hp} {v : V} {d : D} (h : RlV T G H v d) : decide (v = .non) = isN d := by
  cases h with
  | fz h => cases h <;> first | rfl | exact decide_eq_false (fun z => nomatch z)
  | lst e r => exact decide_eq_false (fun z => nomatch z)
  | dct q => exact decide_eq_false (fun z => nomatch z)
theorem ok_is : CmpOk T X .Is cIs := by
  intro pins s σ H x y v u Q I rx ry h
  obtain ⟨G, d, e, z, sm, rd, re, ez, q⟩ := h
  cases e with
  | none =>
    simp only [cIs, Option.some.injEq] at ez
    exact op_isN pins s σ H x y v u Q I rx ry ⟨re.non, by rw [rd.isN, ez]; exact q⟩
  | _ => simp [cIs] at ez
theorem ok_isNot : CmpOk T X .IsNot cIsNot := by
  intro pins s σ H x y v u Q I rx ry h
  obtain ⟨G, d, e, z, sm, rd, re, ez, q⟩ := h
  cases e with
  | none =>
    simp only [cIsNot, Option.some.injEq] at ez
    exact op_notN pins s σ H x y v u Q I rx ry ⟨re.non, by rw [rd.isN, ez]; exact q⟩
  | _ => simp [cIsNot] at ez
end
end CT

/-! CT5: dicts by nested keys; in. -/
namespace CT
open PySem PySem.Spec PyProof.Rows L2

mutual
def kdep : D → Nat
  | .tuple xs => kdepAll xs + 1
  | _ => 0
def kdepAll : List D → Nat
  | [] => 0
  | x :: xs => max (kdep x) (kdepAll xs)
end
mutual
theorem nk_depth : ∀ (d : D) (k : NestedKey), nk d = some k → k.depth = kdep d
  | .none, _, h => by simp only [nk, Option.some.injEq] at h; subst h; simp [NestedKey.depth, kdep]
  | .bool b, _, h => by simp only [nk, Option.some.injEq] at h; subst h; simp [NestedKey.depth, kdep]
  | .int b, _, h => by simp only [nk, Option.some.injEq] at h; subst h; simp [NestedKey.depth, kdep]
  | .str b, _, h => by simp only [nk, Option.some.injEq] at h; subst h; simp [NestedKey.depth, kdep]
  | .list _, _, h => by simp [nk] at h
  | .dict _, _, h => by simp [nk] at h
  | .tuple xs, _, h => by
    simp only [nk, Option.map_eq_some_iff] at h
    obtain ⟨ks, h1, rfl⟩ := h
    simp only [NestedKey.depth, kdep, nks_depth xs ks h1]
theorem nks_depth : ∀ (ds : List D) (ks : List NestedKey), nks ds = some ks → NestedKey.depthAll ks = kdepAll ds
  | [], _, h => by simp only [nks, Option.some.injEq] at h; subst h; simp [NestedKey.depthAll, kdepAll]
  | x :: xs, _, h => by
    simp only [nks, Option.bind_eq_some_iff, Option.map_eq_some_iff] at h
    obtain ⟨k, h1, ks, h2, rfl⟩ := h
    simp only [NestedKey.depthAll, kdepAll, nk_depth x k h1, nks_depth xs ks h2]
end
theorem ib (a b : Int) : (a == b) = decide (a = b) := by
  by_cases h : a = b
  · subst h; simp
  · rw [decide_eq_false h]; exact beq_eq_false_iff_ne.mpr h
theorem sb (a b : Str) : (a == b) = decide (a = b) := by
  by_cases h : a = b
  · subst h; simp
  · rw [decide_eq_false h]; exact beq_eq_false_iff_ne.mpr h
mutual
theorem nk_eqv : ∀ (d e : D) (k l : NestedKey), nk d = some k → nk e = some l → PyData.eqv d e = NestedKey.beq k l
  | .none, e, _, _, h, h' => by
    simp only [nk, Option.some.injEq] at h; subst h
    cases e <;> simp only [nk, Option.some.injEq, Option.map_eq_some_iff] at h' <;> first | (subst h'; simp [PyData.eqv, NestedKey.beq]) | (obtain ⟨_, _, rfl⟩ := h'; simp [PyData.eqv, NestedKey.beq]) | cases h'
  | .bool b, e, _, _, h, h' => by
    simp only [nk, Option.some.injEq] at h; subst h
    cases e with
    | tuple _ => simp only [nk, Option.map_eq_some_iff] at h'; obtain ⟨_, _, rfl⟩ := h'; simp [PyData.eqv, NestedKey.beq]
    | list _ => simp [nk] at h'
    | dict _ => simp [nk] at h'
    | none => simp only [nk, Option.some.injEq] at h'; subst h'; simp [PyData.eqv, NestedKey.beq]
    | str _ => simp only [nk, Option.some.injEq] at h'; subst h'; simp [PyData.eqv, NestedKey.beq]
    | int i => simp only [nk, Option.some.injEq] at h'; subst h'; simp only [PyData.eqv, NestedKey.beq, ib]
    | bool c => simp only [nk, Option.some.injEq] at h'; subst h'; simp only [PyData.eqv, NestedKey.beq]; cases b <;> cases c <;> decide
  | .int b, e, _, _, h, h' => by
    simp only [nk, Option.some.injEq] at h; subst h
    cases e with
    | tuple _ => simp only [nk, Option.map_eq_some_iff] at h'; obtain ⟨_, _, rfl⟩ := h'; simp [PyData.eqv, NestedKey.beq]
    | list _ => simp [nk] at h'
    | dict _ => simp [nk] at h'
    | none => simp only [nk, Option.some.injEq] at h'; subst h'; simp [PyData.eqv, NestedKey.beq]
    | str _ => simp only [nk, Option.some.injEq] at h'; subst h'; simp [PyData.eqv, NestedKey.beq]
    | int i => simp only [nk, Option.some.injEq] at h'; subst h'; simp only [PyData.eqv, NestedKey.beq, ib]
    | bool c => simp only [nk, Option.some.injEq] at h'; subst h'; simp only [PyData.eqv, NestedKey.beq, ib]
  | .str b, e, _, _, h, h' => by
    simp only [nk, Option.some.injEq] at h; subst h
    cases e with
    | tuple _ => simp only [nk, Option.map_eq_some_iff] at h'; obtain ⟨_, _, rfl⟩ := h'; simp [PyData.eqv, NestedKey.beq]
    | list _ => simp [nk] at h'
    | dict _ => simp [nk] at h'
    | none => simp only [nk, Option.some.injEq] at h'; subst h'; simp [PyData.eqv, NestedKey.beq]
    | str _ => simp only [nk, Option.some.injEq] at h'; subst h'; simp only [PyData.eqv, NestedKey.beq, sb]
    | int i => simp only [nk, Option.some.injEq] at h'; subst h'; simp [PyData.eqv, NestedKey.beq]
    | bool c => simp only [nk, Option.some.injEq] at h'; subst h'; simp [PyData.eqv, NestedKey.beq]
  | .list _, _, _, _, h, _ => by simp [nk] at h
  | .dict _, _, _, _, h, _ => by simp [nk] at h
  | .tuple xs, e, _, _, h, h' => by
    simp only [nk, Option.map_eq_some_iff] at h
    obtain ⟨ks, h1, rfl⟩ := h
    cases e with
    | tuple ys =>
      simp only [nk, Option.map_eq_some_iff] at h'
      obtain ⟨ls, h2, rfl⟩ := h'
      simp only [PyData.eqv, NestedKey.beq]
      exact nks_eqv xs ys ks ls h1 h2
    | list _ => simp [nk] at h'
    | dict _ => simp [nk] at h'
    | _ => simp only [nk, Option.some.injEq] at h'; subst h'; simp [PyData.eqv, NestedKey.beq]
theorem nks_eqv : ∀ (ds es : List D) (ks ls : List NestedKey), nks ds = some ks → nks es = some ls → PyData.eqvAll ds es = NestedKey.beqAll ks ls
  | [], es, _, _, h, h' => by
    simp only [nks, Option.some.injEq] at h; subst h
    cases es with
    | nil => simp only [nks, Option.some.injEq] at h'; subst h'; simp [PyData.eqvAll, NestedKey.beqAll]
    | cons y ys =>
      simp only [nks, Option.bind_eq_some_iff, Option.map_eq_some_iff] at h'
      obtain ⟨l, _, ls, _, rfl⟩ := h'
      simp [PyData.eqvAll, NestedKey.beqAll]
  | x :: xs, es, _, _, h, h' => by
    simp only [nks, Option.bind_eq_some_iff, Option.map_eq_some_iff] at h
    obtain ⟨k, h1, ks, h2, rfl⟩ := h
    cases es with
    | nil => simp only [nks, Option.some.injEq] at h'; subst h'; simp [PyData.eqvAll, NestedKey.beqAll]
    | cons y ys =>
      simp only [nks, Option.bind_eq_some_iff, Option.map_eq_some_iff] at h'
      obtain ⟨l, h3, ls, h4, rfl⟩ := h'
      simp only [PyData.eqvAll, NestedKey.beqAll, nk_eqv x y k l h1 h3, nks_eqv xs ys ks ls h2 h4]
end

section
variable {T : Ct} {X : Cx} {pins : List (Addr × Obj)} {σ : L2.St} {H : Hp} {s : Shared}
mutual
theorem nested_of (hK : T.K = X.K) (I : Inv X pins σ H s) : ∀ (d : D) (v : V) (u : Value) (k : NestedKey), Rl T H v d → RelV v u → nk d = some k → NestedIs s.heap k u
  | .none, _, _, _, h, r, e => by cases h; cases r; simp only [nk, Option.some.injEq] at e; subst e; exact .none
  | .bool b, _, _, _, h, r, e => by cases h; cases r; simp only [nk, Option.some.injEq] at e; subst e; exact .bool rfl
  | .int i, _, _, _, h, r, e => by cases h; obtain ⟨t, rfl⟩ := r; simp only [nk, Option.some.injEq] at e; subst e; exact .int i t
  | .str i, _, _, _, h, r, e => by cases h; obtain ⟨t, rfl⟩ := r; simp only [nk, Option.some.injEq] at e; subst e; exact .text i t
  | .list _, _, _, _, _, _, e => by simp [nk] at e
  | .dict _, _, _, _, _, _, e => by simp [nk] at e
  | .tuple ds, _, _, _, h, r, e => by
    simp only [nk, Option.map_eq_some_iff] at e
    obtain ⟨ks, e1, rfl⟩ := e
    cases h with
    | tup hs ha =>
      cases r
      rw [hK] at hs
      obtain ⟨its, rv, ⟨o, ho, hc, n, hd⟩, _⟩ := I.tuple hs
      exact .tup ho hc hd (nesteds_of hK I ds _ its ks ha rv e1)
theorem nesteds_of (hK : T.K = X.K) (I : Inv X pins σ H s) : ∀ (ds : List D) (vs : List V) (us : List Value) (ks : List NestedKey), RlAll T H vs ds → Vals vs us → nks ds = some ks → NestedAll s.heap ks us
  | [], _, _, _, h, r, e => by cases h; cases r; simp only [nks, Option.some.injEq] at e; subst e; exact .nil
  | d :: ds, _, _, _, h, r, e => by
    simp only [nks, Option.bind_eq_some_iff, Option.map_eq_some_iff] at e
    obtain ⟨k, e1, ks, e2, rfl⟩ := e
    cases h with
    | cons h1 h2 =>
      cases r with
      | cons r1 r2 => exact .cons (nested_of hK I d _ _ k h1 r1 e1) (nesteds_of hK I ds _ _ ks h2 r2 e2)
end
/-- a key that may be asked: a tuple of at most eight levels -/
def keyOk (d : D) : Bool := match d with
  | .tuple _ => decide (kdep d ≤ 8) && (nk d).isSome
  | _ => false
theorem key_is (hK : T.K = X.K) (I : Inv X pins σ H s) {d : D} {v : V} {u : Value} (h : Rl T H v d) (r : RelV v u) (ok : keyOk d = true) : ∃ k a, nk d = some k ∧ v = .ref a ∧ u = .ref a ∧ (nestedKind X.prog X.w).is s.heap k a := by
  cases d with
  | tuple ds =>
    simp only [keyOk, Bool.and_eq_true, decide_eq_true_eq] at ok
    obtain ⟨k, ek⟩ := Option.isSome_iff_exists.mp ok.2
    have q := nested_of hK I _ v u k h r ek
    cases h with
    | tup hs ha =>
      cases r
      exact ⟨k, _, ek, rfl, rfl, q, by rw [nk_depth _ _ ek]; exact ok.1⟩
  | _ => simp [keyOk] at ok

def allKeys (kvs : List (D × D)) : Bool := kvs.all fun p => keyOk p.1
theorem map_get {α β : Type} {f : α → β} {l : List α} {i : Nat} {x : α} (h : l[i]? = some x) : (l.map f)[i]? = some (f x) := by rw [List.getElem?_map, h]; rfl
theorem nks_get : ∀ {ds : List D} {ks : List NestedKey} {i : Nat} {d : D}, nks ds = some ks → ds[i]? = some d → ∃ k, ks[i]? = some k ∧ nk d = some k
  | [], _, _, _, _, e => by simp at e
  | x :: xs, _, 0, d, h, e => by
    simp only [nks, Option.bind_eq_some_iff, Option.map_eq_some_iff] at h
    obtain ⟨k, h1, ks, h2, rfl⟩ := h
    simp at e; subst e
    exact ⟨k, rfl, h1⟩
  | x :: xs, _, i + 1, d, h, e => by
    simp only [nks, Option.bind_eq_some_iff, Option.map_eq_some_iff] at h
    obtain ⟨k, h1, ks, h2, rfl⟩ := h
    obtain ⟨l, h3, h4⟩ := nks_get (i := i) h2 (by simpa using e)
    exact ⟨l, by simpa using h3, h4⟩
/-- the dict in the heap -/
theorem dict_of (hK : T.K = X.K) (hP : T.P = X.prog) (hw : T.w = X.w) (I : Inv X pins σ H s) {G : Hp} (sm : Same G H) {a : Addr} {kvs : List (D × D)} (h : DctAt T G H a kvs) (ok : allKeys kvs = true) :
    ∃ (xs : List (NestedKey × Addr × Value)) (vvs : List V), s.heap.DictOfH (nestedKind X.prog X.w) a xs ∧ (a == sysModules) = false ∧ xs.length ≤ sizeLine ∧ nks (kvs.map (·.1)) = some (xs.map (·.1)) ∧ Vals vvs (xs.map fun x => x.2.2) ∧ RlAll T G vvs (kvs.map (·.2)) := by
  obtain ⟨xs, vvs, e, h2, h3, h4, h5, h6, h7, h8⟩ := h
  have q := I.hok a _ e
  obtain ⟨⟨o, es, ep, ho, hx, hd, he⟩, _, _⟩ := q
  rw [hP, hw] at he
  refine ⟨xs, vvs, ⟨o, es, ep, ho, hx, hd, he, fun x hx => ?_, h3⟩, h2, h4, h5, h7, h8⟩
  obtain ⟨i, hi, ei⟩ := List.getElem_of_mem hx
  have ex : xs[i]? = some x := by rw [List.getElem?_eq_getElem hi, ei]
  obtain ⟨d, ed, rd⟩ := RlAll.getV h6 (map_get (f := fun x : NestedKey × Addr × Value => V.ref x.2.1) ex)
  have okd : keyOk d = true := by
    rw [List.getElem?_map] at ed
    cases q : kvs[i]? with
    | none => rw [q] at ed; cases ed
    | some p =>
      rw [q] at ed
      have : p.1 = d := Option.some.inj ed
      rw [← this]
      exact List.all_eq_true.mp ok p (List.mem_of_getElem? q)
  obtain ⟨k, b, ek, ev, _, is⟩ := key_is hK I (Rl.mono sm _ _ rd) (u := .ref x.2.1) rfl okd
  cases ev
  obtain ⟨k', ek', en⟩ := nks_get h5 ed
  rw [ek] at en; cases en
  rw [map_get ex] at ek'
  cases ek'
  exact is
/-- look-up -/
def dlook : List (D × D) → D → Option D
  | [], _ => none
  | (k, v) :: r, d => if PyData.eqv k d then some v else dlook r d
theorem look_ok {G : Hp} {d : D} {k : NestedKey} (ek : nk d = some k) : ∀ {kvs : List (D × D)} {xs : List (NestedKey × Addr × Value)} {vvs : List V}, nks (kvs.map (·.1)) = some (xs.map (·.1)) → Vals vvs (xs.map fun x => x.2.2) → RlAll T G vvs (kvs.map (·.2)) →
    match dlook kvs d with
    | none => valueAt (pairsH xs) k = none
    | some y => ∃ u v, valueAt (pairsH xs) k = some u ∧ RelV v u ∧ Rl T G v y
  | [], xs, vvs, h1, h2, h3 => by
    simp only [List.map_nil, nks, Option.some.injEq] at h1
    have : xs = [] := by cases xs with | nil => rfl | cons _ _ => cases h1
    subst this
    simp [dlook, pairsH, valueAt]
  | (kd, vd) :: r, xs, vvs, h1, h2, h3 => by
    simp only [List.map_cons, nks, Option.bind_eq_some_iff, Option.map_eq_some_iff] at h1
    obtain ⟨k0, e0, ks, e1, e2⟩ := h1
    cases xs with
    | nil => cases e2
    | cons x xs =>
      simp only [List.map_cons, List.cons.injEq] at e2
      obtain ⟨rfl, e2⟩ := e2
      cases h2 with
      | cons p1 p2 =>
        cases h3 with
        | cons q1 q2 =>
          have ih := look_ok (kvs := r) (xs := xs) ek (by rw [e1, e2]) p2 q2
          have z : PyData.eqv kd d = decide (x.1 = k) := by rw [nk_eqv kd d _ _ e0 ek, NestedKey.decide_eq]
          simp only [dlook, z]
          by_cases hk : x.1 = k
          · rw [decide_eq_true hk, if_pos rfl]
            refine ⟨x.2.2, _, ?_, p1, q1⟩
            simp [pairsH, valueAt, hk]
          · rw [decide_eq_false hk, if_neg Bool.false_ne_true]
            have : valueAt (pairsH (x :: xs)) k = valueAt (pairsH xs) k := by simp [pairsH, valueAt, hk]
            rw [this]
            exact ih
end

/-! ### in -/
def anyEqv (xs : List D) (d : D) : Bool := xs.any fun z => PyData.eqv z d
def cIn : D → D → Option Bool
  | d, .list xs => if shp d && shp (.list xs) then some (anyEqv xs d) else none
  | d, .tuple xs => if shp d && shp (.tuple xs) then some (anyEqv xs d) else none
  | d, .dict kvs => if keyOk d && allKeys kvs then some (dlook kvs d).isSome else none
  | .str x, .str y => some (!(Builtin.Str.occurrences y x 0 y.length 1).isEmpty)
  | _, _ => none
def cNotIn (d e : D) : Option Bool := (cIn d e).map fun b => !b
section
variable {T : Ct} {X : Cx}
theorem ok_in (hK : T.K = X.K) (hP : T.P = X.prog) (hw : T.w = X.w) (hu : X.A.units + 65 < cLine) : CmpOk T X .In cIn := by
  intro pins s σ H x y v u Q I rx ry h
  obtain ⟨G, d, e, z, sm, rd, re, ez, q⟩ := h
  cases e with
  | list xs =>
    simp only [cIn] at ez
    split at ez
    · rename_i hs
      rw [Bool.and_eq_true] at hs
      cases ez
      have h1 := rd.dp sm (shp_lay hs.1)
      have h2 := re.dp sm (shp_lay hs.2)
      rw [hK] at h1 h2
      exact op_inD hu pins s σ H x y v u Q I rx ry ⟨d, xs, h1, h2, hs.1, hs.2, q⟩
    · cases ez
  | tuple xs =>
    simp only [cIn] at ez
    split at ez
    · rename_i hs
      rw [Bool.and_eq_true] at hs
      cases ez
      have h1 := rd.dp sm (shp_lay hs.1)
      have h2 := re.dp sm (shp_lay hs.2)
      rw [hK] at h1 h2
      obtain ⟨as, r1⟩ := Dp.reads I d x v h1 rx
      obtain ⟨bs, r2⟩ := Dp.reads I (.tuple xs) y u h2 ry
      have c2 := shp_lay hs.2
      simp only [PyData.canLay0] at c2
      have hd := shp_depth hs.1
      exact SeqAt.in_tuple_reads r2 r1 c2 (shp_lay hs.1) (by omega) ⟨.bl _, H, I, rfl, q⟩
    · cases ez
  | dict kvs =>
    simp only [cIn] at ez
    split at ez
    · rename_i hs
      rw [Bool.and_eq_true] at hs
      cases ez
      obtain ⟨a, ea, hd⟩ := re.dict sm
      subst ea
      cases ry
      obtain ⟨xs, vvs, hm, hsys, hl, hn, hv, hr⟩ := dict_of hK hP hw I sm hd hs.2
      obtain ⟨k, b, ek, ev, eu, is⟩ := key_is hK I (rd.whole sm) rx hs.1
      subst ev eu
      refine in_keyed (knd := nestedKind X.prog X.w) (by show X.A.units + 1 + 8 < cLine; omega) is hsys ⟨xs, hm, rfl⟩ ?_
      have lk := look_ok ek hn hv hr
      refine ⟨.bl _, H, I.tok _, rfl, ?_⟩
      cases ql : dlook kvs d with
      | none => rw [ql] at lk q; rw [lk]; exact q
      | some y => rw [ql] at lk q; obtain ⟨u, w, e1, _⟩ := lk; rw [e1]; exact q
    · cases ez
  | str j =>
    cases d with
    | str i => cases ez; exact op_in_str pins s σ H x y v u Q I rx ry ⟨i, j, rd.str, re.str, q⟩
    | _ => simp [cIn] at ez
  | _ => simp [cIn] at ez
theorem ok_notIn (hK : T.K = X.K) (hP : T.P = X.prog) (hw : T.w = X.w) (hu : X.A.units + 65 < cLine) : CmpOk T X .NotIn cNotIn := by
  intro pins s σ H x y v u Q I rx ry h
  obtain ⟨G, d, e, z, sm, rd, re, ez, q⟩ := h
  unfold cNotIn at ez
  rw [Option.map_eq_some_iff] at ez
  obtain ⟨b, ez, rfl⟩ := ez
  cases e with
  | list xs =>
    simp only [cIn] at ez
    split at ez
    · rename_i hs
      rw [Bool.and_eq_true] at hs
      cases ez
      have h1 := rd.dp sm (shp_lay hs.1)
      have h2 := re.dp sm (shp_lay hs.2)
      rw [hK] at h1 h2
      exact op_notInD hu pins s σ H x y v u Q I rx ry ⟨d, xs, h1, h2, hs.1, hs.2, q⟩
    · cases ez
  | tuple xs =>
    simp only [cIn] at ez
    split at ez
    · rename_i hs
      rw [Bool.and_eq_true] at hs
      cases ez
      have h1 := rd.dp sm (shp_lay hs.1)
      have h2 := re.dp sm (shp_lay hs.2)
      rw [hK] at h1 h2
      obtain ⟨as, r1⟩ := Dp.reads I d x v h1 rx
      obtain ⟨bs, r2⟩ := Dp.reads I (.tuple xs) y u h2 ry
      have c2 := shp_lay hs.2
      simp only [PyData.canLay0] at c2
      have hd := shp_depth hs.1
      exact SeqAt.notIn_tuple_reads r2 r1 c2 (shp_lay hs.1) (by omega) ⟨.bl _, H, I, rfl, q⟩
    · cases ez
  | dict kvs =>
    simp only [cIn] at ez
    split at ez
    · rename_i hs
      rw [Bool.and_eq_true] at hs
      cases ez
      obtain ⟨a, ea, hd⟩ := re.dict sm
      subst ea
      cases ry
      obtain ⟨xs, vvs, hm, hsys, hl, hn, hv, hr⟩ := dict_of hK hP hw I sm hd hs.2
      obtain ⟨k, b, ek, ev, eu, is⟩ := key_is hK I (rd.whole sm) rx hs.1
      subst ev eu
      refine notIn_keyed (knd := nestedKind X.prog X.w) (by show X.A.units + 1 + 8 < cLine; omega) is hsys ⟨xs, hm, rfl⟩ ?_
      have lk := look_ok ek hn hv hr
      refine ⟨.bl _, H, I.tok _, rfl, ?_⟩
      cases ql : dlook kvs d with
      | none => rw [ql] at lk q; rw [lk]; exact q
      | some y => rw [ql] at lk q; obtain ⟨u, w, e1, _⟩ := lk; rw [e1]; exact q
    · cases ez
  | str j =>
    cases d with
    | str i => cases ez; exact op_notin_str pins s σ H x y v u Q I rx ry ⟨i, j, rd.str, re.str, q⟩
    | _ => simp [cIn] at ez
  | _ => simp [cIn] at ez
def cop : CmpOp → D → D → Option Bool
  | .Eq => cEq
  | .NotEq => cNe
  | .Lt => dLtI
  | .LtE => dLeI
  | .Gt => dGtI
  | .GtE => dGe
  | .In => cIn
  | .NotIn => cNotIn
  | .Is => cIs
  | .IsNot => cIsNot
theorem ok_cop (hK : T.K = X.K) (hP : T.P = X.prog) (hw : T.w = X.w) (hu : X.A.units + 66 < cLine) (op : CmpOp) : CmpOk T X op (cop op) := by
  cases op with
  | Eq => exact ok_eq hK (by omega)
  | NotEq => exact ok_ne hK (by omega)
  | Lt => exact ok_lt
  | LtE => exact ok_le
  | Gt => exact ok_gt
  | GtE => exact ok_ge hK hu
  | In => exact ok_in hK hP hw (by omega)
  | NotIn => exact ok_notIn hK hP hw (by omega)
  | Is => exact ok_is
  | IsNot => exact ok_isNot
end
end CT

/-! CT6: expressions. -/
namespace CT
open PySem PySem.Spec PyProof.Rows L2

/-- what the context must be to my environments -/
structure XOk (c : Gc) (X : Cx) : Prop where
  K : c.T.K = X.K
  P : c.T.P = X.prog
  w : c.T.w = X.w
  hu : X.A.units + 70 < cLine

/-! ### reading: the script too -/
def viewR (r : Rho) : Val → Option D
  | .d x => some x
  | .sl i => match r[i]? with
    | some (.d x) => some x
    | some (.own (.lst ds)) => some (.list ds)
    | some (.own (.dct kvs)) => some (.dict kvs)
    | some (.scr ns) => some (.list (ns.map .int))
    | _ => none
inductive RlR (T : Ct) (G H : Hp) : V → D → Prop
  | of {v : V} {d : D} : RlV T G H v d → RlR T G H v d
  | seq {a : Addr} {xs : List V} {ds : List D} : SqL T.K H a xs → RlAll T G xs ds → RlR T G H (.ref a) (.list ds)
theorem EnvRel.viewR {c : Gc} {G H : Hp} {r : Rho} {σ : L2.St} (E : EnvRel c G r σ H) {x : Val} {v : V} {d : D} (h : ValRel c G σ x v) (e : viewR r x = some d) : RlR c.T G H v d := by
  cases x with
  | d x => cases e; exact .of (.fz h)
  | sl i =>
    have h' : σ[i]? = some (some v) := h
    simp only [CT.viewR] at e
    cases q : r[i]? with
    | none => rw [q] at e; cases e
    | some s =>
      cases s with
      | scr ns =>
        rw [q] at e
        cases e
        obtain ⟨a, ea, sq⟩ := E.slot i _ _ q h'
        cases ea
        exact .seq (sqL_mono E.sub sq) (RlAll.map_int ns)
      | own o => cases o <;> exact .of (E.view h (by simp only [CT.view]; rw [q] at e ⊢; exact e))
      | _ => exact .of (E.view h (by simp only [CT.view]; rw [q] at e ⊢; exact e))
theorem RlR.items {T : Ct} {G H : Hp} {v : V} {ds : List D} (s : Same G H) (h : RlR T G H v (.list ds)) : ∃ a xs, v = .ref a ∧ SqL T.K H a xs ∧ RlAll T G xs ds := by
  cases h with
  | of h => obtain ⟨a, xs, e, q, r⟩ := h.items s; exact ⟨a, xs, e, SqL.of q, r⟩
  | seq q r => exact ⟨_, _, rfl, q, r⟩

/-! ### the pure steps -/
def op1 (o : D → Option D) (x : Val) : M Val := fun r => match view r x with
  | some d => (match o d with
    | some z => .ok (.d z) r
    | none => .bad)
  | none => .bad
def op2 (o : D → D → Option D) (x y : Val) : M Val := fun r => match view r x, view r y with
  | some d, some e => (match o d e with
    | some z => .ok (.d z) r
    | none => .bad)
  | _, _ => .bad
def cm2 (o : D → D → Option Bool) (x y : Val) : M Bool := fun r => match view r x, view r y with
  | some d, some e => (match o d e with
    | some z => .ok z r
    | none => .bad)
  | _, _ => .bad
def mB (b : Bool) : M Val := mPure (.d (.bool b))

section
variable {c : Gc} {W : WX} {σ : L2.St} {G H : Hp} {r : Rho}
theorem op2_ok {o : D → D → Option D} {x y : Val} {v u : V} {Q : VK} (E : EnvRel c G r σ H) (hx : ValRel c G σ x v) (hy : ValRel c G σ y u) (h : PostE c W σ G (op2 o x y r) Q) : rOp c.T o v u H Q := by
  unfold op2 at h
  split at h
  · rename_i d e e1 e2
    split at h
    · rename_i z ez
      exact ⟨G, d, e, z, E.sub, E.view hx e1, E.view hy e2, ez, fun G' H' w st rw' => h G' H' w st.gg (E.grow st) rw'⟩
    · exact h.elim
  · exact h.elim
theorem cm2_ok {o : D → D → Option Bool} {x y : Val} {v u : V} {Q : Bool → Hp → Prop} (E : EnvRel c G r σ H) (hx : ValRel c G σ x v) (hy : ValRel c G σ y u) (h : PostT c W σ G (cm2 o x y r) Q) : rCmp c.T o v u H (fun z H' => ∃ k, z = .bl k ∧ Q k H') := by
  unfold cm2 at h
  split at h
  · rename_i d e e1 e2
    split at h
    · rename_i z ez
      exact ⟨G, d, e, z, E.sub, E.view hx e1, E.view hy e2, ez, z, rfl, h G H (Same.refl _) E⟩
    · exact h.elim
  · exact h.elim
end

section
variable {c : Gc} {W : WX} {X : Cx} {a b e : Expr} {es : List Expr} {fa fb fc : M Val} {ta tb : M Bool} {pos : Pos}

/-! ### names, constants -/
def eVar (i : Nat) : M Val := fun r => match r[i]? with
  | some (.d x) => .ok (.d x) r
  | some (.own _) => .ok (.sl i) r
  | some (.exn _) => .ok (.sl i) r
  | some (.scr _) => .ok (.sl i) r
  | _ => .bad
theorem pe_eVar {i : Nat} {x : Str} (hN : X.N[i]? = some x) (hv : Vis X.env.scope x) (hd : (x == ("__debug__" : Str)) = false) (hcd : (x == ("__classdict__" : Str)) = false) : PE X (.Name x pos) (TEm c W (eVar i)) := by
  refine ⟨fun pins s σ H Q I h => ?_⟩
  obtain ⟨G, r, E, P⟩ := h
  have hl : X.N.length = σ.length := I.len.symm
  have hi : i < σ.length := by rw [← hl]; exact (List.getElem?_eq_some_iff.mp hN).1
  refine (pe_var hN hv hd hcd).run pins s σ H Q I ?_
  unfold eVar at P
  cases q : r[i]? with
  | none => rw [q] at P; exact P.elim
  | some sl =>
    rw [q] at P
    have hs : σ[i]? = some σ[i] := List.getElem?_eq_getElem hi
    have z := E.slot i sl _ q hs
    cases sl with
    | no => exact P.elim
    | d y =>
      obtain ⟨u, eu, ru⟩ := z
      exact ⟨u, by rw [hs, eu], P G H u (Same.refl _) E ru⟩
    | own o =>
      obtain ⟨u, eu, _⟩ := z
      exact ⟨.ref u, by rw [hs, eu], P G H _ (Same.refl _) E (show σ[i]? = some (some (.ref u)) by rw [hs, eu])⟩
    | exn o =>
      obtain ⟨u, eu, _⟩ := z
      exact ⟨.ref u, by rw [hs, eu], P G H _ (Same.refl _) E (show σ[i]? = some (some (.ref u)) by rw [hs, eu])⟩
    | scr o =>
      obtain ⟨u, eu, _⟩ := z
      exact ⟨.ref u, by rw [hs, eu], P G H _ (Same.refl _) E (show σ[i]? = some (some (.ref u)) by rw [hs, eu])⟩
def eC (d : D) : M Val := mPure (.d d)
theorem pe_eC {v : V} {d : D} (h : PE X e (tC v)) (hr : ∀ G, Rl c.T G v d) : PE X e (TEm c W (eC d)) :=
  PE.weak h fun σ H Q ⟨G, r, E, P⟩ => P G H v (Same.refl _) E (hr G)

/-! ### operators, comparisons -/
def eBin (op : Operator) (fa fb : M Val) : M Val := mBind fa fun x => mBind fb fun y => op2 (bop op) x y
theorem pe_eBin {op : Operator} (k : XOk c X) (ha : PE X a (TEm c W fa)) (hb : PE X b (TEm c W fb)) : PE X (.BinOp a op b pos) (TEm c W (eBin op fa fb)) := by
  refine PE.weak (pe_op (ok_bop k.K op) ha hb) fun σ H Q ⟨G, r, E, P⟩ => ?_
  refine TEm.imp (fun v H1 ⟨x, G1, r1, s1, E1, hx, P1⟩ => ?_) (bindE E P)
  exact TEm.imp (fun u H2 ⟨y, G2, r2, s2, E2, hy, P2⟩ => op2_ok E2 (hx.mono s2) hy P2) (bindE E1 P1)
def tCm (op : CmpOp) (fa fb : M Val) : M Bool := mBind fa fun x => mBind fb fun y => cm2 (cop op) x y
theorem pt_tCm {op : CmpOp} (k : XOk c X) (ha : PE X a (TEm c W fa)) (hb : PE X b (TEm c W fb)) (hm : behindInMarks op b = false) : PT X (.Compare a [op] [b] pos) (TTm c W (tCm op fa fb)) := by
  refine PT.weak (pt_cmpR (ok_cop k.K k.P k.w (by have := k.hu; omega) op) ha hb hm) fun σ H Q ⟨G, r, E, P⟩ => ?_
  refine TEm.imp (fun v H1 ⟨x, G1, r1, s1, E1, hx, P1⟩ => ?_) (bindET E P)
  exact TEm.imp (fun u H2 ⟨y, G2, r2, s2, E2, hy, P2⟩ => cm2_ok E2 (hx.mono s2) hy P2) (bindET E1 P1)
/-- a test as a value -/
def eT (t : M Bool) : M Val := mBind t fun b => mB b
theorem eT_post {σ : L2.St} {G : Hp} {r : Rho} {Q : VK} {t : M Bool} (P : PostE c W σ G (eT t r) Q) : PostT c W σ G (t r) (fun b H1 => Q (.bl b) H1) := by
  unfold eT mBind at P
  cases q : t r with
  | ok b r' =>
    rw [q] at P
    exact fun G' H' s E => P G' H' (.bl b) s E (.bl b)
  | exc x r' => rw [q] at P; exact P
  | bad => rw [q] at P; exact P
theorem pe_eCm {op : CmpOp} (k : XOk c X) (ha : PE X a (TEm c W fa)) (hb : PE X b (TEm c W fb)) (hm : behindInMarks op b = false) : PE X (.Compare a [op] [b] pos) (TEm c W (eT (tCm op fa fb))) := by
  refine PE.weak (pe_cmpR (ok_cop k.K k.P k.w (by have := k.hu; omega) op) ha hb hm) fun σ H Q ⟨G, r, E, P⟩ => ?_
  refine TEm.imp (fun v H1 ⟨x, G1, r1, s1, E1, hx, P1⟩ => ?_) (bindET E (eT_post P))
  refine TEm.imp (fun u H2 ⟨y, G2, r2, s2, E2, hy, P2⟩ => ?_) (bindET E1 P1)
  obtain ⟨G3, d, e, z, sm, h1, h2, h3, k, e4, h5⟩ := cm2_ok E2 (hx.mono s2) hy P2
  cases e4
  exact ⟨G3, d, e, z, sm, h1, h2, h3, h5⟩
/-- a < b < c -/
def tCh (op op' : CmpOp) (fa fb fc : M Val) : M Bool := mBind fa fun x => mBind fb fun y => mBind (cm2 (cop op) x y) fun k => if k then mBind fc fun z => cm2 (cop op') y z else mPure false
theorem chain_ok {op op' : CmpOp} {σ : L2.St} {H : Hp} {Q : Bool → Hp → Prop} (h : TTm c W (tCh op op' fa fb fc) σ H Q) : tChain (rCmp c.T (cop op)) (rCmp c.T (cop op')) (TEm c W fa) (TEm c W fb) (TEm c W fc) σ H (fun z H' => ∃ k, z = .bl k ∧ Q k H') := by
  obtain ⟨G, r, E, P⟩ := h
  refine TEm.imp (fun v H1 ⟨x, G1, r1, s1, E1, hx, P1⟩ => ?_) (bindET E P)
  refine TEm.imp (fun u H2 ⟨y, G2, r2, s2, E2, hy, P2⟩ => ?_) (bindET E1 P1)
  have hx2 := hx.mono s2
  unfold mBind cm2 at P2
  cases q1 : view r2 x with
  | none => rw [q1] at P2; exact P2.elim
  | some d =>
    cases q2 : view r2 y with
    | none => rw [q1, q2] at P2; exact P2.elim
    | some e =>
      rw [q1, q2] at P2
      dsimp only at P2
      cases q3 : cop op d e with
      | none => rw [q3] at P2; exact P2.elim
      | some k =>
        rw [q3] at P2
        refine ⟨G2, d, e, k, E2.sub, E2.view hx2 q1, E2.view hy q2, q3, k, rfl, ?_⟩
        cases k with
        | false =>
          rw [if_neg Bool.false_ne_true]
          exact ⟨false, rfl, P2 G2 H2 (Same.refl _) E2⟩
        | true =>
          rw [if_pos rfl]
          exact TEm.imp (fun w H3 ⟨z, G3, r3, s3, E3, hz, P3⟩ => cm2_ok E3 (hy.mono s3) hz P3) (bindET E2 P2)
theorem pt_tCh {op op' : CmpOp} {d : Expr} (k : XOk c X) (ha : PE X a (TEm c W fa)) (hb : PE X b (TEm c W fb)) (hc : PE X d (TEm c W fc)) (hm : lastMarks [op, op'] [b, d] = false) : PT X (.Compare a [op, op'] [b, d] pos) (TTm c W (tCh op op' fa fb fc)) :=
  PT.weak (pt_chain (ok_cop k.K k.P k.w (by have := k.hu; omega) op) (ok_cop k.K k.P k.w (by have := k.hu; omega) op') ha hb hc hm) fun σ H Q h => chain_ok h
theorem tChain_imp {r r' : R2} (hr' : ∀ x y H Q Q', (∀ v H', Q v H' → Q' v H') → r' x y H Q → r' x y H Q') (hr : ∀ x y H Q Q', (∀ v H', Q v H' → Q' v H') → r x y H Q → r x y H Q') {σ : L2.St} {H : Hp} {Q Q' : VK} (q : ∀ v H', Q v H' → Q' v H')
    (h : tChain r r' (TEm c W fa) (TEm c W fb) (TEm c W fc) σ H Q) : tChain r r' (TEm c W fa) (TEm c W fb) (TEm c W fc) σ H Q' := by
  refine TEm.imp (fun v H1 h1 => TEm.imp (fun u H2 h2 => hr _ _ _ _ _ (fun z H3 ⟨k, e, h3⟩ => ⟨k, e, ?_⟩) h2) h1) h
  cases k with
  | false => rw [if_neg Bool.false_ne_true] at h3 ⊢; exact q _ _ h3
  | true => rw [if_pos rfl] at h3 ⊢; exact TEm.imp (fun w H4 h4 => hr' _ _ _ _ _ q h4) h3
theorem rCmp_imp {T : Ct} {o : D → D → Option Bool} {x y : V} {H : Hp} {Q Q' : VK} (q : ∀ v H', Q v H' → Q' v H') (h : rCmp T o x y H Q) : rCmp T o x y H Q' := by
  obtain ⟨G, d, e, z, h1, h2, h3, h4, h5⟩ := h
  exact ⟨G, d, e, z, h1, h2, h3, h4, q _ _ h5⟩
theorem pe_eCh {op op' : CmpOp} {d : Expr} (k : XOk c X) (ha : PE X a (TEm c W fa)) (hb : PE X b (TEm c W fb)) (hc : PE X d (TEm c W fc)) (hm : lastMarks [op, op'] [b, d] = false) : PE X (.Compare a [op, op'] [b, d] pos) (TEm c W (eT (tCh op op' fa fb fc))) :=
  PE.weak (pe_chain (ok_cop k.K k.P k.w (by have := k.hu; omega) op) (ok_cop k.K k.P k.w (by have := k.hu; omega) op') ha hb hc hm) fun σ H Q ⟨G, r, E, P⟩ =>
    tChain_imp (r := rCmp c.T (cop op)) (r' := rCmp c.T (cop op')) (Q := fun z H' => ∃ k, z = .bl k ∧ Q (.bl k) H') (fun _ _ _ _ _ q h => rCmp_imp q h) (fun _ _ _ _ _ q h => rCmp_imp q h) (fun v H' ⟨k, e, h⟩ => by rw [e]; exact h) (chain_ok ⟨G, r, E, eT_post P⟩)

/-! ### truth -/
def truD : D → Option Bool
  | .none => some false
  | .bool b => some b
  | .int i => some (i != 0)
  | .str y => if y.length ≤ lim then some (decide (y.length ≠ 0)) else none
  | .list xs => some (!xs.isEmpty)
  | .tuple xs => some (!xs.isEmpty)
  | .dict _ => none
def truV (x : Val) : M Bool := fun r => match view r x with
  | some d => (match truD d with
    | some b => .ok b r
    | none => .bad)
  | none => .bad
theorem RlAll.empty {T : Ct} {G : Hp} {vs : List V} {ds : List D} (h : RlAll T G vs ds) : vs.isEmpty = ds.isEmpty := by cases h <;> rfl
theorem tru_ok' {K : PySem.W.Frag} {T : Ct} (hK : T.K = K) {G H : Hp} {v : V} {d : D} {k : Bool} (sm : Same G H) (h : RlV T G H v d) (e : truD d = some k) : TruV K v H k := by
  cases d with
  | none => rw [h.non]; cases e; rfl
  | bool b => rw [h.bl]; cases e; rfl
  | int i => rw [h.int]; cases e; rfl
  | str y =>
    rw [h.str]
    simp only [truD] at e
    split at e
    · rename_i hl
      cases e
      refine ⟨lim_le hl, ?_⟩
      by_cases h0 : y.length = 0
      · rw [h0]; rfl
      · rw [decide_eq_true h0]
        have : ((y.length : Int) != 0) = true := by simp only [bne_iff_ne, ne_eq]; omega
        rw [this]
    · cases e
  | list xs =>
    obtain ⟨a, ys, ea, hy, ry⟩ := h.items sm
    cases e
    rw [ea]
    exact .inl ⟨ys, SqL.of hy, by rw [ry.empty]⟩
  | tuple xs =>
    obtain ⟨a, ys, ea, hy, ry⟩ := h.itemsT sm
    cases e
    rw [ea]
    rw [hK] at hy
    exact .inr (.inl ⟨ys, hy, by rw [ry.empty]⟩)
  | dict kvs => cases e
def tVal (fa : M Val) : M Bool := mBind fa truV
theorem truV_post {σ : L2.St} {G H : Hp} {r : Rho} {x : Val} {v : V} {Q : Bool → Hp → Prop} (k : XOk c X) (E : EnvRel c G r σ H) (hx : ValRel c G σ x v) (P : PostT c W σ G (truV x r) Q) : ∃ b, TruV X.K v H b ∧ Q b H := by
  unfold truV at P
  cases q : view r x with
  | none => rw [q] at P; exact P.elim
  | some d =>
    rw [q] at P
    dsimp only at P
    cases q2 : truD d with
    | none => rw [q2] at P; exact P.elim
    | some b => rw [q2] at P; exact ⟨b, tru_ok' k.K E.sub (E.view hx q) q2, P G H (Same.refl _) E⟩
theorem pt_tVal (k : XOk c X) (ha : PE X a (TEm c W fa)) (he : ∀ whole, isTrue a X.env whole = (do let v ← whole; standAt a.pos; holding [v] (truthy v))) : PT X a (TTm c W (tVal fa)) := by
  refine PT.weak (pt_truth ha he) fun σ H Q ⟨G, r, E, P⟩ => ?_
  exact TEm.imp (fun v H1 ⟨x, G1, r1, s1, E1, hx, P1⟩ => truV_post k E1 hx P1) (bindET E P)
def tNo (t : M Bool) : M Bool := mBind t fun b => mPure (!b)
theorem pt_tNo (ha : PT X a (TTm c W ta)) : PT X (.UnaryOp .Not a pos) (TTm c W (tNo ta)) := by
  refine PT.weak (pt_not ha) fun σ H Q ⟨G, r, E, P⟩ => ?_
  exact TTm.imp (fun b H1 ⟨G1, r1, s1, E1, P1⟩ => P1 G1 H1 (Same.refl _) E1) (bindTT E P)
theorem pe_eNo (k : XOk c X) (ha : PE X a (TEm c W fa)) : PE X (.UnaryOp .Not a pos) (TEm c W (eT (tNo (tVal fa)))) := by
  refine PE.weak (pe_notT ha) fun σ H Q ⟨G, r, E, P⟩ => ?_
  have P' := eT_post P
  have P2 : PostT c W σ G (mBind fa (fun x => mBind (truV x) fun b => mPure (!b)) r) (fun b H1 => Q (.bl b) H1) := by
    unfold tNo tVal mBind at P'
    unfold mBind
    cases q : fa r <;> rw [q] at P' <;> exact P'
  refine TEm.imp (fun v H1 ⟨x, G1, r1, s1, E1, hx, P1⟩ => ?_) (bindET E P2)
  have P3 : PostT c W σ G1 (truV x r1) (fun b H1 => Q (.bl (!b)) H1) := by
    unfold mBind at P1
    cases q : truV x r1 with
    | ok b r' => rw [q] at P1; exact P1
    | exc x r' => rw [q] at P1; exact P1
    | bad => rw [q] at P1; exact P1
  exact truV_post k E1 hx P3

/-! ### and, or -/
def tAn (s t : M Bool) : M Bool := mBind s fun b => if b then t else mPure false
def tOo (s t : M Bool) : M Bool := mBind s fun b => if b then mPure true else t
theorem pw_tAn {rest : List Expr} (ha : PT X a (TTm c W ta)) (hb : PW X (.BoolOp .And (b :: rest) pos) (TTm c W tb)) : PW X (.BoolOp .And (a :: b :: rest) pos) (TTm c W (tAn ta tb)) := by
  refine PW.weak (pw_and ha hb) fun σ H Q ⟨G, r, E, P⟩ => ?_
  refine TTm.imp (fun k H1 ⟨G1, r1, s1, E1, P1⟩ => ?_) (bindTT E P)
  cases k with
  | true => exact ⟨G1, r1, E1, P1⟩
  | false => exact P1 G1 H1 (Same.refl _) E1
theorem pw_tOo {rest : List Expr} (ha : PT X a (TTm c W ta)) (hb : PW X (.BoolOp .Or (b :: rest) pos) (TTm c W tb)) : PW X (.BoolOp .Or (a :: b :: rest) pos) (TTm c W (tOo ta tb)) := by
  refine PW.weak (pw_or ha hb) fun σ H Q ⟨G, r, E, P⟩ => ?_
  refine TTm.imp (fun k H1 ⟨G1, r1, s1, E1, P1⟩ => ?_) (bindTT E P)
  cases k with
  | true => exact P1 G1 H1 (Same.refl _) E1
  | false => exact ⟨G1, r1, E1, P1⟩
/-- as values: all but the last are bools -/
def eAn (fa fb : M Val) : M Val := mBind fa fun x => match x with
  | .d (.bool true) => fb
  | .d (.bool false) => mPure (.d (.bool false))
  | _ => mBad
def eOo (fa fb : M Val) : M Val := mBind fa fun x => match x with
  | .d (.bool true) => mPure (.d (.bool true))
  | .d (.bool false) => fb
  | _ => mBad
theorem pe_eAn {rest : List Expr} (ha : PE X a (TEm c W fa)) (hb : PE X (.BoolOp .And (b :: rest) pos) (TEm c W fb)) : PE X (.BoolOp .And (a :: b :: rest) pos) (TEm c W (eAn fa fb)) := by
  refine PE.weak (pe_and ha hb) fun σ H Q ⟨G, r, E, P⟩ => ?_
  refine TEm.imp (fun v H1 ⟨x, G1, r1, s1, E1, hx, P1⟩ => ?_) (bindE E P)
  split at P1
  · cases hx; exact ⟨true, rfl, G1, r1, E1, P1⟩
  · cases hx; exact ⟨false, rfl, P1 G1 H1 _ (Same.refl _) E1 (.bl false)⟩
  · exact P1.elim
theorem pe_eOo {rest : List Expr} (ha : PE X a (TEm c W fa)) (hb : PE X (.BoolOp .Or (b :: rest) pos) (TEm c W fb)) : PE X (.BoolOp .Or (a :: b :: rest) pos) (TEm c W (eOo fa fb)) := by
  refine PE.weak (pe_or ha hb) fun σ H Q ⟨G, r, E, P⟩ => ?_
  refine TEm.imp (fun v H1 ⟨x, G1, r1, s1, E1, hx, P1⟩ => ?_) (bindE E P)
  split at P1
  · cases hx; exact ⟨true, rfl, P1 G1 H1 _ (Same.refl _) E1 (.bl true)⟩
  · cases hx; exact ⟨false, rfl, G1, r1, E1, P1⟩
  · exact P1.elim
def eIf (t : M Bool) (fa fb : M Val) : M Val := mBind t fun k => if k then fa else fb
theorem pe_eIf {d : Expr} (hc : PT X d (TTm c W ta)) (ha : PE X a (TEm c W fa)) (hb : PE X b (TEm c W fb)) : PE X (.IfExp d a b pos) (TEm c W (eIf ta fa fb)) := by
  refine PE.weak (pe_ifExp hc ha hb) fun σ H Q ⟨G, r, E, P⟩ => ?_
  refine TTm.imp (fun k H1 ⟨G1, r1, s1, E1, P1⟩ => ?_) (bindTE E P)
  cases k with
  | true => exact ⟨G1, r1, E1, P1⟩
  | false => exact ⟨G1, r1, E1, P1⟩
def eNeg (fa : M Val) : M Val := mBind fa fun x => op1 (fun d => match d with | .int i => some (.int (-i)) | _ => none) x
theorem pe_eNeg (ha : PE X a (TEm c W fa)) : PE X (.UnaryOp .USub a pos) (TEm c W (eNeg fa)) := by
  refine PE.weak (pe_un un_neg ha) fun σ H Q ⟨G, r, E, P⟩ => ?_
  refine TEm.imp (fun v H1 ⟨x, G1, r1, s1, E1, hx, P1⟩ => ?_) (bindE E P)
  unfold op1 at P1
  cases q : view r1 x with
  | none => rw [q] at P1; exact P1.elim
  | some d =>
    rw [q] at P1
    cases d with
    | int i => exact ⟨i, (E1.view hx q).int, P1 G1 H1 _ (Same.refl _) E1 (.int _)⟩
    | _ => exact P1.elim

/-! ### argument lists, displays -/
def aNil : M (List Val) := mPure []
def aCons (fa : M Val) (fr : M (List Val)) : M (List Val) := mBind fa fun x => mBind fr fun xs => mPure (x :: xs)
theorem pa_aNil : PA X [] (TAm c W aNil) := PA.weak pa_nil fun σ H Q ⟨G, r, E, P⟩ => P G H [] (Same.refl _) E .nil
theorem bindAA {σ : L2.St} {G H : Hp} {f : M (List Val)} {k : List Val → M (List Val)} {r : Rho} {Q : List V → Hp → Prop} (E : EnvRel c G r σ H) (h : PostA c W σ G (mBind f k r) Q) : TAm c W f σ H (fun vs H1 => ∃ xs G1 r1, Same G G1 ∧ EnvRel c G1 r1 σ H1 ∧ ValsRel c G1 σ xs vs ∧ PostA c W σ G1 (k xs r1) Q) := by
  refine ⟨G, r, E, ?_⟩
  unfold mBind at h
  cases q : f r with
  | ok x r' => rw [q] at h; exact fun G1 H1 v s1 E1 V => ⟨x, G1, r', s1, E1, V, h.mono s1 fun _ _ z => z⟩
  | exc x r' => rw [q] at h; exact h
  | bad => rw [q] at h; exact h
theorem pa_aCons {fr : M (List Val)} (ha : PE X e (TEm c W fa)) (hr : PA X es (TAm c W fr)) (hs : starEach (e :: es) X.env = (false, eval e X.env) :: starEach es X.env) : PA X (e :: es) (TAm c W (aCons fa fr)) := by
  refine PA.weak (pa_cons ha hr hs) fun σ H Q ⟨G, r, E, P⟩ => ?_
  refine TEm.imp (fun v H1 ⟨x, G1, r1, s1, E1, hx, P1⟩ => ?_) (bindEA E P)
  exact TAm.imp (fun vs H2 ⟨xs, G2, r2, s2, E2, hxs, P2⟩ => P2 G2 H2 _ (Same.refl _) E2 (.cons (hx.mono s2) hxs)) (bindAA E1 P1)
/-- freeze: a slot's own object becomes data -/
def toD : Val → M D
  | .d x => mPure x
  | .sl i => fun r => match r[i]? with
    | some (.d x) => .ok x r
    | some (.own (.lst ds)) => .ok (.list ds) (r.set i (.d (.list ds)))
    | some (.own (.dct kvs)) => .ok (.dict kvs) (r.set i (.d (.dict kvs)))
    | _ => .bad
theorem EnvRel.freeze {σ : L2.St} {G H : Hp} {r : Rho} (E : EnvRel c G r σ H) {i : Nat} {o : OB} {a : Addr} {d : D} {ho : HO} (h1 : r[i]? = some (.own o)) (h2 : σ[i]? = some (some (.ref a))) (hH : H a = some ho) (hd : Rl c.T (upd G a ho) (.ref a) d) : EnvRel c (upd G a ho) (r.set i (.d d)) σ H ∧ Same G (upd G a ho) := by
  obtain ⟨b, e, g, q, fr⟩ := E.own h1 h2
  cases e
  have sm : Same G (upd G a ho) := same_new g
  have hir : i < r.length := (List.getElem?_eq_some_iff.mp h1).1
  have back : ∀ {j : Nat} {o1 : OB}, (r.set i (.d d))[j]? = some (.own o1) → i ≠ j ∧ r[j]? = some (.own o1) := fun {j o1} h => by
    by_cases hj : i = j
    · subst hj; rw [List.getElem?_set_self hir] at h; cases h
    · rw [List.getElem?_set_ne hj] at h; exact ⟨hj, h⟩
  refine ⟨⟨by simp [E.len], fun b x hb => ?_, fun j sl u h3 h4 => ?_, fun j k o1 o2 b h3 h4 h5 h6 => ?_, E.frame, fun j o1 b h3 h4 => ?_, E.bor, fun b h0 hb => ?_, E.par⟩, sm⟩
  · by_cases hba : b = a
    · subst hba; rw [upd_same] at hb; cases hb; exact hH
    · rw [upd_ne hba] at hb; exact E.sub b x hb
  · by_cases hj : i = j
    · subst hj
      rw [List.getElem?_set_self hir] at h3
      cases h3
      rw [h2] at h4; cases h4
      exact ⟨.ref a, rfl, hd⟩
    · rw [List.getElem?_set_ne hj] at h3
      have := E.slot j sl u h3 h4
      cases sl with
      | no => trivial
      | d x => obtain ⟨w, e, q⟩ := this; exact ⟨w, e, Rl.mono sm _ _ q⟩
      | own o1 =>
        obtain ⟨b, e, gb, qb⟩ := this
        have : b ≠ a := fun z => by
          rw [e, z] at h4
          exact hj (E.uniq i j o o1 a h1 h3 h2 h4)
        exact ⟨b, e, by rw [upd_ne this]; exact gb, qb.grow sm fun x hx => hx⟩
      | exn x => exact this
      | scr ns => obtain ⟨b, e, q⟩ := this; exact ⟨b, e, sqL_mono sm q⟩
  · exact E.uniq j k o1 o2 b (back h3).2 (back h4).2 h5 h6
  · exact E.fresh j o1 b (back h3).2 h4
  · have : b ≠ a := fun z => by
      subst z
      rcases fr with f | f
      · exact hb f
      · exact h0 f
    rw [upd_ne this]
    exact E.gold b h0 hb
theorem toD_ok {σ : L2.St} {G H : Hp} {r : Rho} {x : Val} {v : V} {d : D} {r' : Rho} (E : EnvRel c G r σ H) (hx : ValRel c G σ x v) (e : toD x r = .ok d r') : ∃ G', Same G G' ∧ EnvRel c G' r' σ H ∧ Rl c.T G' v d := by
  cases x with
  | d x => cases e; exact ⟨G, Same.refl _, E, hx⟩
  | sl i =>
    have h' : σ[i]? = some (some v) := hx
    simp only [toD] at e
    cases q : r[i]? with
    | none => rw [q] at e; cases e
    | some s =>
      rw [q] at e
      cases s with
      | no => cases e
      | d y =>
        cases e
        obtain ⟨u, eu, ru⟩ := E.slot i _ _ q h'
        cases eu
        exact ⟨G, Same.refl _, E, ru⟩
      | exn y => cases e
      | scr y => cases e
      | own o =>
        obtain ⟨a, ea, g, ob, fr⟩ := E.own q h'
        cases ea
        cases o with
        | ins C fs => cases e
        | lst ds =>
          cases e
          obtain ⟨xs, hxs, rxs⟩ := ob
          have sm : Same G (upd G a (.lst xs)) := same_new g
          have hd : Rl c.T (upd G a (.lst xs)) (.ref a) (.list ds) := .lst upd_same (RlAll.mono sm _ _ rxs)
          obtain ⟨E', s'⟩ := E.freeze q h' hxs hd
          exact ⟨_, s', E', hd⟩
        | dct kvs =>
          cases e
          obtain ⟨xs, vvs, e1, h2, h3, h4, h5, h6, h7, h8⟩ := ob
          have sm : Same G (upd G a (.ext (DOb c.T.P c.T.w a xs))) := same_new g
          have hd : Rl c.T (upd G a (.ext (DOb c.T.P c.T.w a xs))) (.ref a) (.dict kvs) := .dct upd_same h2 h3 h4 h5 (RlAll.mono sm _ _ h6) h7 (RlAll.mono sm _ _ h8)
          obtain ⟨E', s'⟩ := E.freeze q h' e1 hd
          exact ⟨_, s', E', hd⟩
theorem toD_noexc {x : Val} {r r' : Rho} {e : Exn} : toD x r ≠ .exc e r' := by
  cases x with
  | d x => intro h; cases h
  | sl i =>
    intro h
    simp only [toD] at h
    split at h <;> cases h
def toDs : List Val → M (List D)
  | [] => mPure []
  | x :: xs => mBind (toD x) fun d => mBind (toDs xs) fun ds => mPure (d :: ds)
theorem toDs_ok {σ : L2.St} {H : Hp} : ∀ {xs : List Val} {G : Hp} {r : Rho} {vs : List V} {ds : List D} {r' : Rho}, EnvRel c G r σ H → ValsRel c G σ xs vs → toDs xs r = .ok ds r' → ∃ G', Same G G' ∧ EnvRel c G' r' σ H ∧ RlAll c.T G' vs ds
  | [], G, r, vs, ds, r', E, h, e => by
    cases h; cases e
    exact ⟨G, Same.refl _, E, .nil⟩
  | x :: xs, G, r, vs, ds, r', E, h, e => by
    cases h with
    | cons h1 h2 =>
      simp only [toDs, mBind] at e
      cases q : toD x r with
      | ok d r1 =>
        rw [q] at e
        dsimp only at e
        obtain ⟨G1, s1, E1, hd⟩ := toD_ok E h1 q
        cases q2 : toDs xs r1 with
        | ok es r2 =>
          rw [q2] at e
          cases e
          obtain ⟨G2, s2, E2, hes⟩ := toDs_ok E1 (h2.mono s1) q2
          exact ⟨G2, s1.trans s2, E2, .cons (Rl.mono s2 _ _ hd) hes⟩
        | exc x r2 => rw [q2] at e; cases e
        | bad => rw [q2] at e; cases e
      | exc x r1 => rw [q] at e; cases e
      | bad => rw [q] at e; cases e
theorem toDs_noexc : ∀ {xs : List Val} {r r' : Rho} {e : Exn}, toDs xs r ≠ .exc e r'
  | [], _, _, _ => fun h => nomatch h
  | x :: xs, r, r', e => by
    intro h
    simp only [toDs, mBind] at h
    cases q : toD x r with
    | ok d r1 =>
      rw [q] at h
      dsimp only at h
      cases q2 : toDs xs r1 with
      | ok es r2 => rw [q2] at h; cases h
      | exc y r2 => exact toDs_noexc q2
      | bad => rw [q2] at h; cases h
    | exc y r1 => exact toD_noexc q
    | bad => rw [q] at h; cases h
def eTup (fs : M (List Val)) : M Val := mBind fs fun xs => mBind (toDs xs) fun ds => if ds.length ≤ lim then mPure (.d (.tuple ds)) else mBad
def eLst (fs : M (List Val)) : M Val := mBind fs fun xs => mBind (toDs xs) fun ds => if ds.length ≤ lim then mPure (.d (.list ds)) else mBad
theorem pe_eTup {x1} {fs : M (List Val)} (h : PA X es (TAm c W fs)) : PE X (.Tuple es x1 pos) (TEm c W (eTup fs)) := by
  refine PE.weak (pe_tup h) fun σ H Q ⟨G, r, E, P⟩ => ?_
  refine TAm.imp (fun vs H1 ⟨xs, G1, r1, s1, E1, hx, P1⟩ => ?_) (bindAE E P)
  unfold mBind at P1
  cases q : toDs xs r1 with
  | ok ds r2 =>
    rw [q] at P1
    dsimp only at P1
    split at P1
    · rename_i hl
      obtain ⟨G2, s2, E2, hd⟩ := toDs_ok E1 hx q
      refine ⟨by rw [hd.len]; exact lim_le hl, fun p hp => ?_⟩
      have st : Step G2 H1 (upd G2 p (.tup vs)) (upd H1 p (.tup vs)) := Step.new E2.sub hp
      exact P1 _ _ _ (s2.trans st.gg) (E2.grow st) (.tup (SqT.of upd_same) (RlAll.mono st.gg _ _ hd))
    · exact P1.elim
  | exc x r2 => exact absurd q toDs_noexc
  | bad => rw [q] at P1; exact P1.elim
theorem pe_eLst {fs : M (List Val)} (h : PA X es (TAm c W fs)) : PE X (.List es pos) (TEm c W (eLst fs)) := by
  refine PE.weak (pe_lst h) fun σ H Q ⟨G, r, E, P⟩ => ?_
  refine TAm.imp (fun vs H1 ⟨xs, G1, r1, s1, E1, hx, P1⟩ => ?_) (bindAE E P)
  unfold mBind at P1
  cases q : toDs xs r1 with
  | ok ds r2 =>
    rw [q] at P1
    dsimp only at P1
    split at P1
    · rename_i hl
      obtain ⟨G2, s2, E2, hd⟩ := toDs_ok E1 hx q
      refine ⟨by rw [hd.len]; exact lim_le hl, fun p hp => ?_⟩
      have st : Step G2 H1 (upd G2 p (.lst vs)) (upd H1 p (.lst vs)) := Step.new E2.sub hp
      exact P1 _ _ _ (s2.trans st.gg) (E2.grow st) (.lst upd_same (RlAll.mono st.gg _ _ hd))
    · exact P1.elim
  | exc x r2 => exact absurd q toDs_noexc
  | bad => rw [q] at P1; exact P1.elim
end
end CT

/-! CT7: statements, loops. -/
namespace CT
open PySem PySem.Spec PyProof.Rows L2

section
variable {c : Gc} {W : WX} {X : Cx} {a b e : Expr} {es : List Expr} {fa fb fc : M Val} {ta tb : M Bool} {pos : Pos} {st : Stmt} {rest body orelse : List Stmt} {f g : M Fl}

/-! ### blocks -/
def sNx : M Fl := mPure .nx
def sSeq (f g : M Fl) : M Fl := fun r => match f r with
  | .ok .nx r' => g r'
  | o => o
theorem PostS.swap {G : Hp} {o : Out Fl} {D D' : Ends} (h : PostS c W G o D) (hn : ∀ r', o ≠ .ok .nx r') (e2 : D'.bk = D.bk) (e3 : D'.ct = D.ct) (e4 : D'.rt = D.rt) : PostS c W G o D' := by
  cases o with
  | ok x r' =>
    cases x with
    | nx => exact absurd rfl (hn r')
    | bk => intro G' H' σ' s E; rw [e2]; exact h G' H' σ' s E
    | ct => intro G' H' σ' s E; rw [e3]; exact h G' H' σ' s E
    | ret x => intro G' H' σ' v s E q; rw [e4]; exact h G' H' σ' v s E q
  | exc x r' => exact h
  | bad => exact h
theorem seq_ok {D : Ends} {σ : L2.St} {H : Hp} (h : TSm c W (sSeq f g) D σ H) : TSm c W f { D with nx := TSm c W g D } σ H := by
  obtain ⟨G, r, E, P⟩ := h
  refine ⟨G, r, E, ?_⟩
  unfold sSeq at P
  cases q : f r with
  | ok x r' =>
    rw [q] at P
    cases x with
    | nx => exact fun G' H' σ' s E' => ⟨G', r', E', P.mono s (fun _ _ z => z) (fun _ _ z => z) (fun _ _ z => z) fun _ _ z => z⟩
    | bk => exact P
    | ct => exact P
    | ret x => exact P
  | exc x r' => rw [q] at P; exact P
  | bad => rw [q] at P; exact P
theorem pss_sNil : PSs X [] (TSm c W sNx) := PSs.weak pss_nil fun D σ H ⟨G, r, E, P⟩ => P G H σ (Same.refl _) E
theorem pss_sCons (h1 : PS X st (TSm c W f)) (h2 : PSs X rest (TSm c W g)) : PSs X (st :: rest) (TSm c W (sSeq f g)) :=
  PSs.weak (pss_cons h1 h2) fun D σ H h => seq_ok h
theorem ps_sPass : PS X (.Pass pos) (TSm c W sNx) := PS.weak ps_pass fun D σ H ⟨G, r, E, P⟩ => P G H σ (Same.refl _) E
def sBk : M Fl := mPure .bk
def sCt : M Fl := mPure .ct
theorem ps_sBk : PS X (.Break pos) (TSm c W sBk) := PS.weak ps_break fun D σ H ⟨G, r, E, P⟩ => P G H σ (Same.refl _) E
theorem ps_sCt : PS X (.Continue pos) (TSm c W sCt) := PS.weak ps_continue fun D σ H ⟨G, r, E, P⟩ => P G H σ (Same.refl _) E
/-! ### expression statements, return -/
def sEx (fa : M Val) : M Fl := mBind fa fun _ => mPure .nx
theorem ps_sEx (he : PE X e (TEm c W fa)) (hs : swapsWith e none pos.line X.env = pure false) : PS X (.Expr e pos) (TSm c W (sEx fa)) := by
  refine PS.weak (ps_expr he hs) fun D σ H ⟨G, r, E, P⟩ => ?_
  exact TEm.imp (fun v H1 ⟨x, G1, r1, s1, E1, hx, P1⟩ => P1 G1 H1 σ (Same.refl _) E1) (bindES E P)
def sRet (fa : M Val) : M Fl := mBind fa fun x => mBind (toD x) fun d => mPure (.ret d)
theorem bindToD {σ : L2.St} {G H : Hp} {r : Rho} {x : Val} {v : V} {k : D → M Fl} {D' : Ends} (E : EnvRel c G r σ H) (hx : ValRel c G σ x v) (P : PostS c W G (mBind (toD x) k r) D') : ∃ d G1 r1, Same G G1 ∧ EnvRel c G1 r1 σ H ∧ Rl c.T G1 v d ∧ PostS c W G1 (k d r1) D' := by
  unfold mBind at P
  cases q : toD x r with
  | ok d r' =>
    rw [q] at P
    obtain ⟨G1, s1, E1, hd⟩ := toD_ok E hx q
    exact ⟨d, G1, r', s1, E1, hd, P.mono s1 (fun _ _ z => z) (fun _ _ z => z) (fun _ _ z => z) fun _ _ z => z⟩
  | exc x r' => exact absurd q toD_noexc
  | bad => rw [q] at P; exact P.elim
theorem ps_sRet (he : PE X e (TEm c W fa)) : PS X (.Return (some e) pos) (TSm c W (sRet fa)) := by
  refine PS.weak (ps_ret he) fun D σ H ⟨G, r, E, P⟩ => ?_
  refine TEm.imp (fun v H1 ⟨x, G1, r1, s1, E1, hx, P1⟩ => ?_) (bindES E P)
  obtain ⟨d, G2, r2, s2, E2, hd, P2⟩ := bindToD E1 hx P1
  exact P2 G2 H1 σ v (Same.refl _) E2 hd
def sRetN : M Fl := mPure (.ret .none)
theorem ps_sRetN : PS X (.Return none pos) (TSm c W sRetN) := PS.weak ps_retN fun D σ H ⟨G, r, E, P⟩ => P G H σ .non (Same.refl _) E .non
/-! ### if -/
def sIf (t : M Bool) (f g : M Fl) : M Fl := mBind t fun k => if k then f else g
theorem ps_sIf {d : Expr} (hc : PT X d (TTm c W ta)) (ha : PSs X body (TSm c W f)) (hb : PSs X orelse (TSm c W g)) : PS X (.If d body orelse pos) (TSm c W (sIf ta f g)) := by
  refine PS.weak (ps_if hc ha hb) fun D σ H ⟨G, r, E, P⟩ => ?_
  refine TTm.imp (fun k H1 ⟨G1, r1, s1, E1, P1⟩ => ?_) (bindTS E P)
  cases k with
  | true => exact ⟨G1, r1, E1, P1⟩
  | false => exact ⟨G1, r1, E1, P1⟩
/-! ### x = e -/
def sSet (i : Nat) (fa : M Val) : M Fl := mBind fa fun x => mBind (toD x) fun d => fun r => .ok .nx (r.set i (.d d))
theorem ps_sSet {i : Nat} {x : Str} {pos' : Pos} (hip : i ∉ c.par) (hN : X.N.Nodup) (hi : X.N[i]? = some x) (hx : Loc X.env.scope x) (he : PE X e (TEm c W fa)) (hs : swapsWith e (some (.Name x pos')) pos.line X.env = pure false) (hf : X.fn x = true ∨ X.env.scope.names.lookup x = some .local) :
    PS X (.Assign [.Name x pos'] e pos) (TSm c W (sSet i fa)) := by
  refine PS.weak (ps_set hN hi hx he hs hf) fun D σ H ⟨G, r, E, P⟩ => ?_
  refine TEm.imp (fun v H1 ⟨y, G1, r1, s1, E1, hy, P1⟩ => ?_) (bindES E P)
  obtain ⟨d, G2, r2, s2, E2, hd, P2⟩ := bindToD E1 hy P1
  exact P2 G2 H1 _ (Same.refl _) (E2.set hip hd)
/-- x op= e -/
def sAug (i : Nat) (op : Operator) (fa : M Val) : M Fl := fun r => match r[i]? with
  | some (.d x) => mBind fa (fun y => mBind (op2 (bop op) (.d x) y) fun z => mBind (toD z) fun d => fun r' => .ok .nx (r'.set i (.d d))) r
  | _ => .bad
/-- only ints are added in place here -/
def sAugI (i : Nat) (fa : M Val) : M Fl := fun r => match r[i]? with
  | some (.d (.int x)) => mBind fa (fun y => fun r' => match y with
    | .d (.int k) => .ok .nx (r'.set i (.d (.int (x + k))))
    | _ => .bad) r
  | _ => .bad
theorem ps_sAugI {i : Nat} {x : Str} {pos' : Pos} (hip : i ∉ c.par) (hN : X.N.Nodup) (hi : X.N[i]? = some x) (hx : Loc X.env.scope x) (he : PE X e (TEm c W fa)) (hf : X.fn x = true ∨ X.env.scope.names.lookup x = some .local) :
    PS X (.AugAssign (.Name x pos') .Add e pos) (TSm c W (sAugI i fa)) := by
  refine ⟨fun pins s σ H D I h => ?_⟩
  obtain ⟨G, r, E, P⟩ := h
  refine (ps_aug (ti := ipI fun i j => i + j) hN hi hx he ip_add hf).run pins s σ H D I ?_
  have hil : i < σ.length := by rw [I.len]; exact (List.getElem?_eq_some_iff.mp hi).1
  have hs : σ[i]? = some σ[i] := List.getElem?_eq_getElem hil
  unfold sAugI at P
  split at P
  · rename_i n hr
    obtain ⟨u, eu, ru⟩ := E.slot i _ _ hr hs
    cases ru
    refine ⟨.int n, by rw [hs, eu], ?_⟩
    refine TEm.imp (fun v H1 ⟨y, G1, r1, s1, E1, hy, P1⟩ => ?_) (bindES E P)
    split at P1
    · rename_i k
      cases hy
      exact ⟨n, k, rfl, rfl, P1 G1 H1 _ (Same.refl _) (E1.set hip (.int _))⟩
    · exact P1.elim
  · exact P.elim

/-! ### what a loop walks -/
/-- the iterator J yields the items, over the frozen heap G -/
structure ItOk (T : Ct) (J : It) (items : List D) (G : Hp) : Prop where
  go : ∀ (i : Nat) (H : Hp) (d : D), Same G H → items[i]? = some d → J.go i H
  yld : ∀ (i : Nat) (G1 H : Hp) (x : V) (H' : Hp) (d : D), Same G G1 → Same G1 H → items[i]? = some d → J.yld i H x H' → ∃ G2, Step G1 H G2 H' ∧ Rl T G2 x d
  stop : ∀ (i : Nat) (H : Hp), Same G H → items.length ≤ i → J.stop i H
def PostI (c : Gc) (W : WX) (σ : L2.St) (G : Hp) (o : Out (List D)) (R : It → Hp → Prop) : Prop := match o with
  | .ok items r' => ∀ G' H' J, Same G G' → EnvRel c G' r' σ H' → ItOk c.T J items G' → R J H'
  | .exc x r' => ∀ G' H' cls d, Same G G' → EnvRel c G' r' σ H' → XRel c G' H' x cls d → W cls d σ H'
  | .bad => False
def TIm (c : Gc) (W : WX) (f : M (List D)) : TI := fun σ H R => ∃ G r, EnvRel c G r σ H ∧ PostI c W σ G (f r) R
theorem PostI.mono {σ : L2.St} {G G' : Hp} {o : Out (List D)} {R R' : It → Hp → Prop} (s : Same G G') (q : ∀ v H', R v H' → R' v H') (h : PostI c W σ G o R) : PostI c W σ G' o R' := by
  cases o with
  | ok x r' => exact fun G1 H1 v s1 E V => q _ _ (h G1 H1 v (s.trans s1) E V)
  | exc x r' => exact fun G1 H1 k d s1 E V => h G1 H1 k d (s.trans s1) E V
  | bad => exact h
theorem bindEI {σ : L2.St} {G H : Hp} {f : M Val} {k : Val → M (List D)} {r : Rho} {Q : It → Hp → Prop} (E : EnvRel c G r σ H) (h : PostI c W σ G (mBind f k r) Q) : TEm c W f σ H (fun v H1 => ∃ x G1 r1, Same G G1 ∧ EnvRel c G1 r1 σ H1 ∧ ValRel c G1 σ x v ∧ PostI c W σ G1 (k x r1) Q) := by
  refine ⟨G, r, E, ?_⟩
  unfold mBind at h
  cases q : f r with
  | ok x r' => rw [q] at h; exact fun G1 H1 v s1 E1 V => ⟨x, G1, r', s1, E1, V, h.mono s1 fun _ _ z => z⟩
  | exc x r' => rw [q] at h; exact h
  | bad => rw [q] at h; exact h
theorem bindAI {σ : L2.St} {G H : Hp} {f : M (List Val)} {k : List Val → M (List D)} {r : Rho} {Q : It → Hp → Prop} (E : EnvRel c G r σ H) (h : PostI c W σ G (mBind f k r) Q) : TAm c W f σ H (fun vs H1 => ∃ xs G1 r1, Same G G1 ∧ EnvRel c G1 r1 σ H1 ∧ ValsRel c G1 σ xs vs ∧ PostI c W σ G1 (k xs r1) Q) := by
  refine ⟨G, r, E, ?_⟩
  unfold mBind at h
  cases q : f r with
  | ok x r' => rw [q] at h; exact fun G1 H1 v s1 E1 V => ⟨x, G1, r', s1, E1, V, h.mono s1 fun _ _ z => z⟩
  | exc x r' => rw [q] at h; exact h
  | bad => rw [q] at h; exact h
/-- a list or a tuple -/
theorem itL_ok {T : Ct} {K : PySem.W.Frag} {G : Hp} {a : Addr} {xs : List V} {ds : List D} (h : G a = some (.lst xs)) (r : RlAll T G xs ds) : ItOk T (Itl K a) ds G where
  go := fun i H d s e => by
    obtain ⟨v, ev, _⟩ := r.get e
    exact ⟨xs, v, SqL.of (s _ _ h), ev⟩
  yld := fun i G1 H x H' d s1 s2 e y => by
    obtain ⟨rfl, y⟩ := y
    have ex := y xs (SqL.of (s2 _ _ (s1 _ _ h)))
    obtain ⟨d', e', rd⟩ := r.getV ex
    rw [e] at e'; cases e'
    exact ⟨G1, Step.refl s2, Rl.mono s1 _ _ rd⟩
  stop := fun i H s hl => ⟨xs, SqL.of (s _ _ h), by rw [r.len]; exact hl⟩
theorem itT_ok {T : Ct} {K : PySem.W.Frag} (hK : T.K = K) {G : Hp} {a : Addr} {xs : List V} {ds : List D} (h : SqT T.K G a xs) (r : RlAll T G xs ds) : ItOk T (Itt K a) ds G where
  go := fun i H d s e => by
    obtain ⟨v, ev, _⟩ := r.get e
    exact ⟨xs, v, by rw [← hK]; exact sqT_mono s h, ev⟩
  yld := fun i G1 H x H' d s1 s2 e y => by
    obtain ⟨rfl, y⟩ := y
    have ex := y xs (by rw [← hK]; exact sqT_mono s2 (sqT_mono s1 h))
    obtain ⟨d', e', rd⟩ := r.getV ex
    rw [e] at e'; cases e'
    exact ⟨G1, Step.refl s2, Rl.mono s1 _ _ rd⟩
  stop := fun i H s hl => ⟨xs, by rw [← hK]; exact sqT_mono s h, by rw [r.len]; exact hl⟩
def rngD (lo : Int) (n : Nat) : List D := (List.range n).map fun (i : Nat) => .int (lo + (i : Int))
theorem rngD_get {lo : Int} {n i : Nat} {d : D} (h : (rngD lo n)[i]? = some d) : i < n ∧ d = .int (lo + (i : Int)) := by
  unfold rngD at h
  rw [List.getElem?_map] at h
  cases q : (List.range n)[i]? with
  | none => rw [q] at h; cases h
  | some j =>
    rw [q] at h
    have hi : i < n := by simpa using (List.getElem?_eq_some_iff.mp q).1
    rw [List.getElem?_range hi] at q
    cases q
    exact ⟨hi, (Option.some.inj h).symm⟩
theorem itR_ok {T : Ct} {G : Hp} {lo : Int} {n : Nat} : ItOk T (Itr lo n) (rngD lo n) G where
  go := fun i H d s e => (rngD_get e).1
  yld := fun i G1 H x H' d s1 s2 e y => by
    obtain ⟨rfl, rfl⟩ := y
    rw [(rngD_get e).2]
    exact ⟨G1, Step.refl s2, .int _⟩
  stop := fun i H s hl => by
    unfold rngD at hl
    rw [List.length_map, List.length_range] at hl
    exact hl
/-- iterate over a value: list or tuple (an own list is frozen first) -/
def iSeq (fa : M Val) : M (List D) := mBind fa fun x => mBind (toD x) fun d => match d with
  | .list ds => mPure ds
  | .tuple ds => mPure ds
  | _ => mBad
/-- a list -/
theorem PI.or {tg it : Expr} {w1 w2 : TI} (h1 : PI X tg it w1) (h2 : PI X tg it w2) : PI X tg it (fun σ H R => w1 σ H R ∨ w2 σ H R) :=
  ⟨fun pins s σ H R I h => h.elim (fun q => h1.run pins s σ H R I q) fun q => h2.run pins s σ H R I q⟩
theorem PI.weak {tg it : Expr} {w w' : TI} (h : PI X tg it w) (q : ∀ σ H R, w' σ H R → w σ H R) : PI X tg it w' := ⟨fun pins s σ H R I z => h.run pins s σ H R I (q _ _ _ z)⟩
/-- both kinds behind one evaluation -/
def iLT (K : PySem.W.Frag) (tl : TE) : TI := fun σ H R => tl σ H fun x H1 => ∃ a, x = .ref a ∧ ((∃ xs, SqL K H1 a xs) ∧ R (Itl K a) H1 ∨ (∃ xs, SqT K H1 a xs) ∧ R (Itt K a) H1)
theorem pi_LT {tg l : Expr} {tl : TE} (hl : PE X l tl) : PI X tg l (iLT X.K tl) := by
  refine ⟨fun pins s σ H R I h => ?_⟩
  refine thn (hl.run pins s σ H _ I h) fun v s1 ⟨x, H1, I1, r1, q1⟩ => ?_
  obtain ⟨a, e, q⟩ := q1
  subst e
  cases r1
  rcases q with ⟨⟨xs, hq⟩, q⟩ | ⟨⟨xs, hq⟩, q⟩
  · obtain ⟨its, rv, p, hz⟩ := I1.list hq
    refine wpAny_pyIter_list p.isList ?_
    refine ⟨s1.heap.objs.size, [s1.heap.objs.size], _, _, H1, rfl, I1.kept (t' := s1.toks) fun b o e => Heap.get?_push_of_some _ e, turn_list a _, ⟨_, Heap.get?_push_size _ rfl, rfl, rfl⟩, fun b hb => ?_, q⟩
    have e : b = s1.heap.objs.size := by simpa using hb
    subst e
    exact I1.fpOk (Nat.le_refl _) (I1.hok.fresh (Nat.le_refl _))
  · obtain ⟨its, rv, p, hz⟩ := I1.tuple hq
    refine wpAny_pyIter_tuple (show s1.heap.IsTuple a its.toArray from p) ?_
    refine ⟨s1.heap.objs.size, [s1.heap.objs.size], _, _, H1, rfl, I1.kept (t' := s1.toks) fun b o e => Heap.get?_push_of_some _ e, turn_tuple a _, ⟨_, Heap.get?_push_size _ rfl, rfl, rfl⟩, fun b hb => ?_, q⟩
    have e : b = s1.heap.objs.size := by simpa using hb
    subst e
    exact I1.fpOk (Nat.le_refl _) (I1.hok.fresh (Nat.le_refl _))
theorem pi_iSeq {tg : Expr} (k : XOk c X) (ha : PE X a (TEm c W fa)) : PI X tg a (TIm c W (iSeq fa)) := by
  refine PI.weak (pi_LT ha) fun σ H R ⟨G, r, E, P⟩ => ?_
  refine TEm.imp (fun v H1 ⟨x, G1, r1, s1, E1, hx, P1⟩ => ?_) (bindEI E P)
  unfold mBind at P1
  cases q : toD x r1 with
  | exc y r' => exact absurd q toD_noexc
  | bad => rw [q] at P1; exact P1.elim
  | ok d r2 =>
    rw [q] at P1
    obtain ⟨G2, s2, E2, hd⟩ := toD_ok E1 hx q
    cases d with
    | list ds =>
      cases hd with
      | lst ha hr => exact ⟨_, rfl, .inl ⟨⟨_, SqL.of (E2.sub _ _ ha)⟩, P1 G2 H1 _ s2 E2 (itL_ok ha hr)⟩⟩
    | tuple ds =>
      cases hd with
      | tup ha hr => exact ⟨_, rfl, .inr ⟨⟨_, by rw [← k.K]; exact sqT_mono E2.sub ha⟩, P1 G2 H1 _ s2 E2 (itT_ok k.K ha hr)⟩⟩
    | _ => exact P1.elim
/-- range(n), range(a, b) -/
def r62 (n : Int) : Bool := decide (-4611686018427387904 ≤ n) && decide (n < 4611686018427387904)
theorem r62_ok {n : Int} (h : r62 n = true) : -(2 ^ 62) ≤ n ∧ n < 2 ^ 62 := by
  unfold r62 at h
  rw [Bool.and_eq_true, decide_eq_true_eq, decide_eq_true_eq] at h
  exact h
def iRange1 (fa : M Val) : M (List D) := mBind fa fun x => match x with
  | .d (.int n) => if r62 n then mPure (rngD 0 n.toNat) else mBad
  | _ => mBad
def iRange2 (fa fb : M Val) : M (List D) := mBind fa fun x => mBind fb fun y => match x, y with
  | .d (.int m), .d (.int n) => if r62 m && r62 n then mPure (rngD m (n - m).toNat) else mBad
  | _, _ => mBad
theorem pi_iRange1 {tg : Expr} {p : Pos} (hg : Gl X "range") (hm : X.mg "range" = none) (ha : PE X a (TEm c W fa)) (hs : starEach [a] X.env = [(false, eval a X.env)]) (hs1 : starEach (a :: []) X.env = (false, eval a X.env) :: starEach [] X.env) : PI X tg (.Call (.Name "range" p) [a] [] pos) (TIm c W (iRange1 fa)) := by
  refine PI.weak (pi_range1 hg hm (pa_cons ha pa_nil hs1) hs) fun σ H R ⟨G, r, E, P⟩ => ?_
  refine TEm.imp (fun v H1 ⟨x, G1, r1, s1, E1, hx, P1⟩ => ?_) (bindEI E P)
  split at P1
  · rename_i n
    split at P1
    · rename_i hr
      cases hx
      obtain ⟨h1, h2⟩ := r62_ok hr
      exact ⟨n, rfl, h1, h2, P1 G1 H1 _ (Same.refl _) E1 itR_ok⟩
    · exact P1.elim
  · exact P1.elim
theorem pi_iRange2 {tg : Expr} {p : Pos} (hg : Gl X "range") (hm : X.mg "range" = none) (ha : PE X a (TEm c W fa)) (hb : PE X b (TEm c W fb)) (hs : starEach [a, b] X.env = [(false, eval a X.env), (false, eval b X.env)]) (hs2 : starEach [b] X.env = [(false, eval b X.env)])
    (hs1 : starEach (a :: [b]) X.env = (false, eval a X.env) :: starEach [b] X.env) (hs3 : starEach (b :: []) X.env = (false, eval b X.env) :: starEach [] X.env) : PI X tg (.Call (.Name "range" p) [a, b] [] pos) (TIm c W (iRange2 fa fb)) := by
  refine PI.weak (pi_range2 hg hm (pa_cons ha (pa_cons hb pa_nil hs3) hs1) hs hs2) fun σ H R ⟨G, r, E, P⟩ => ?_
  refine TEm.imp (fun v H1 ⟨x, G1, r1, s1, E1, hx, P1⟩ => ?_) (bindEI E P)
  refine TEm.imp (fun u H2 ⟨y, G2, r2, s2, E2, hy, P2⟩ => ?_) (bindEI E1 P1)
  split at P2
  · split at P2
    · rename_i hr
      rw [Bool.and_eq_true] at hr
      cases hx
      cases hy
      obtain ⟨h1, h2⟩ := r62_ok hr.1
      obtain ⟨h3, h4⟩ := r62_ok hr.2
      exact ⟨_, _, rfl, ⟨h1, h2, h3, h4⟩, P2 G2 H2 _ (Same.refl _) E2 itR_ok⟩
    · exact P2.elim
  · exact P2.elim

/-! ### targets -/
def TGm (c : Gc) (g : D → M Unit) : TG := fun v σ H Q => ∃ G r d, EnvRel c G r σ H ∧ Rl c.T G v d ∧ match g d r with
  | .ok _ r' => ∀ G' H' σ', Same G G' → EnvRel c G' r' σ' H' → Q σ' H'
  | .exc _ _ => False
  | .bad => False
theorem PG.weak {tg : Expr} {t t' : TG} (h : PG X tg t) (q : ∀ v σ H Q, t' v σ H Q → t v σ H Q) : PG X tg t' := ⟨fun pins s σ H v u Q I r z => h.run pins s σ H v u Q I r (q _ _ _ _ z)⟩
def gNm (i : Nat) (d : D) : M Unit := fun r => .ok () (r.set i (.d d))
theorem pg_gNm {i : Nat} {x : Str} (hip : i ∉ c.par) (hN : X.N.Nodup) (hi : X.N[i]? = some x) (hx : Loc X.env.scope x) (hf : X.fn x = true ∨ X.env.scope.names.lookup x = some .local) : PG X (.Name x pos) (TGm c (gNm i)) := by
  refine PG.weak (pg_name hN hi hx hf) fun v σ H Q ⟨G, r, d, E, hd, P⟩ => ?_
  exact P G H _ (Same.refl _) (E.set hip hd)
/-- several names -/
def gNms : List Nat → List D → M Unit
  | [], [] => mPure ()
  | i :: is, d :: ds => fun r => gNms is ds (r.set i (.d d))
  | _, _ => mBad
def TGsm (c : Gc) (g : List D → M Unit) : TGs := fun vs σ H Q => ∃ G r ds, EnvRel c G r σ H ∧ RlAll c.T G vs ds ∧ match g ds r with
  | .ok _ r' => ∀ G' H' σ', Same G G' → EnvRel c G' r' σ' H' → Q σ' H'
  | .exc _ _ => False
  | .bad => False
theorem PGs.weak {ts : List Expr} {t t' : TGs} (h : PGs X ts t) (q : ∀ v σ H Q, t' v σ H Q → t v σ H Q) : PGs X ts t' := ⟨fun pins s σ H v u Q I r z => h.run pins s σ H v u Q I r (q _ _ _ _ z)⟩
theorem pgs_gNil : PGs X [] (TGsm c (gNms [])) := by
  refine PGs.weak pgs_nil fun vs σ H Q ⟨G, r, ds, E, hd, P⟩ => ?_
  cases hd with
  | nil => exact ⟨rfl, P G H σ (Same.refl _) E⟩
  | cons h1 h2 => exact P.elim
theorem pgs_gCons {i : Nat} {is : List Nat} {x : Str} (hip : i ∉ c.par) (hN : X.N.Nodup) (hi : X.N[i]? = some x) (hx : Loc X.env.scope x) (hf : X.fn x = true ∨ X.env.scope.names.lookup x = some .local) (h2 : PGs X es (TGsm c (gNms is)))
    (hs : (assignEach (.Name x pos :: es) X.env).map (·.2) = assign (.Name x pos) X.env :: (assignEach es X.env).map (·.2)) : PGs X (.Name x pos :: es) (TGsm c (gNms (i :: is))) := by
  refine PGs.weak (pgs_cons (pg_name hN hi hx hf) h2 hs) fun vs σ H Q ⟨G, r, ds, E, hd, P⟩ => ?_
  cases hd with
  | nil => exact P.elim
  | cons h1 h3 => exact ⟨_, _, rfl, G, _, _, E.set hip h1, h3, P⟩
def gTp (is : List Nat) (d : D) : M Unit := match d with
  | .tuple ds => if ds.length = is.length then gNms is ds else mBad
  | _ => mBad
theorem pg_gTp {is : List Nat} {k n : Nat} (x : XOk c X) (hc : X.calm = true) (h : PGs X es (TGsm c (gNms is))) (hl : is.length = n) (hn : (assignEach es X.env).length = n) (hst : (assignEach es X.env).findIdx? (·.1) = none) : PG X (.Tuple es k pos) (TGm c (gTp is)) := by
  refine PG.weak (pg_tup hc h hn hst) fun v σ H Q ⟨G, r, d, E, hd, P⟩ => ?_
  unfold gTp at P
  cases d with
  | tuple ds =>
    dsimp only at P
    by_cases hlen : ds.length = is.length
    · rw [if_pos hlen] at P
      cases hd with
      | tup h1 h2 => exact ⟨_, _, rfl, by rw [← x.K]; exact sqT_mono E.sub h1, by rw [h2.len, hlen, hl], G, r, ds, E, h2, P⟩
    · rw [if_neg hlen] at P
      exact P.elim
  | _ => exact P.elim

/-! ### for -/
def forM (g : D → M Unit) (body : M Fl) : List D → M Fl
  | [] => mPure .nx
  | d :: ds => fun r => match g d r with
    | .ok _ r1 => (match body r1 with
      | .ok .nx r2 => forM g body ds r2
      | .ok .ct r2 => forM g body ds r2
      | .ok .bk r2 => .ok .nx r2
      | .ok (.ret x) r2 => .ok (.ret x) r2
      | .exc x r2 => .exc x r2
      | .bad => .bad)
    | .exc x r1 => .bad
    | .bad => .bad
def sFor (fi : M (List D)) (g : D → M Unit) (body : M Fl) : M Fl := mBind fi fun items => forM g body items
theorem for_ok {J : It} {items : List D} {g : D → M Unit} {bd : M Fl} {D : Ends} {σ : L2.St} {G H : Hp} {r : Rho} (hJ : ItOk c.T J items G) (E : EnvRel c G r σ H) (P : PostS c W G (forM g bd items r) D) :
    ∃ W' : Nat → Nat → L2.St → Hp → Prop, (∃ m, W' 0 m σ H) ∧ ∀ i m σ H, W' i m σ H →
      (J.stop i H ∧ D.nx σ H) ∨ (J.go i H ∧ ∃ N : L2.St → Hp → Prop, (∀ σ' H', N σ' H' → ∃ m', m' < m ∧ W' (i + 1) m' σ' H') ∧ ∀ x H', J.yld i H x H' → TGm c g x σ H' fun σ2 H2 => TSm c W bd { D with nx := N, ct := N, bk := D.nx } σ2 H2) := by
  refine ⟨fun i m σ H => m = items.length - i ∧ i ≤ items.length ∧ ∃ G1 r1, Same G G1 ∧ EnvRel c G1 r1 σ H ∧ PostS c W G1 (forM g bd (items.drop i) r1) D, ⟨items.length, by simp, Nat.zero_le _, G, r, Same.refl _, E, P⟩, ?_⟩
  rintro i m σ1 H1 ⟨rfl, hi, G1, r1, s1, E1, P1⟩
  by_cases hlt : i < items.length
  · have ed : items[i]? = some items[i] := List.getElem?_eq_getElem hlt
    refine .inr ⟨hJ.go i H1 _ (s1.trans E1.sub) ed, fun σ' H' => ∃ G2 r2, Same G G2 ∧ EnvRel c G2 r2 σ' H' ∧ PostS c W G2 (forM g bd (items.drop (i + 1)) r2) D, fun σ' H' ⟨G2, r2, s2, E2, P2⟩ => ⟨items.length - (i + 1), by omega, rfl, hlt, G2, r2, s2, E2, P2⟩, fun x H' y => ?_⟩
    obtain ⟨G2, st, hx⟩ := hJ.yld i G1 H1 x H' _ s1 E1.sub ed y
    have E2 := E1.grow st
    refine ⟨G2, r1, items[i], E2, hx, ?_⟩
    rw [List.drop_eq_getElem_cons hlt] at P1
    simp only [forM] at P1
    cases q : g items[i] r1 with
    | exc x r' => rw [q] at P1; exact P1.elim
    | bad => rw [q] at P1; exact P1.elim
    | ok u r2 =>
      rw [q] at P1
      intro G3 H3 σ3 s3 E3
      refine ⟨G3, r2, E3, ?_⟩
      dsimp only at P1
      have s13 : Same G1 G3 := st.gg.trans s3
      cases q2 : bd r2 with
      | bad => rw [q2] at P1; exact P1.elim
      | exc x r3 => rw [q2] at P1; exact fun G4 H4 σ4 cls d s4 E4 hx => P1 G4 H4 σ4 cls d (s13.trans s4) E4 hx
      | ok fl r3 =>
        rw [q2] at P1
        cases fl with
        | nx => exact fun G4 H4 σ4 s4 E4 => ⟨G4, r3, s1.trans (s13.trans s4), E4, P1.mono (s13.trans s4) (fun _ _ z => z) (fun _ _ z => z) (fun _ _ z => z) fun _ _ z => z⟩
        | ct => exact fun G4 H4 σ4 s4 E4 => ⟨G4, r3, s1.trans (s13.trans s4), E4, P1.mono (s13.trans s4) (fun _ _ z => z) (fun _ _ z => z) (fun _ _ z => z) fun _ _ z => z⟩
        | bk => exact fun G4 H4 σ4 s4 E4 => P1 G4 H4 σ4 (s13.trans s4) E4
        | ret x => exact fun G4 H4 σ4 v s4 E4 hv => P1 G4 H4 σ4 v (s13.trans s4) E4 hv
  · have e : i = items.length := by omega
    subst e
    rw [List.drop_length] at P1
    exact .inl ⟨hJ.stop _ H1 (s1.trans E1.sub) (Nat.le_refl _), P1 G1 H1 σ1 (Same.refl _) E1⟩
theorem bindIS {σ : L2.St} {G H : Hp} {fi : M (List PyData)} {k : List PyData → M Fl} {r : Rho} {D : Ends} (E : EnvRel c G r σ H) (h : PostS c W G (mBind fi k r) D) : TIm c W fi σ H (fun J H1 => ∃ items G1 r1, Same G G1 ∧ EnvRel c G1 r1 σ H1 ∧ ItOk c.T J items G1 ∧ PostS c W G1 (k items r1) D) := by
  refine ⟨G, r, E, ?_⟩
  unfold mBind at h
  cases q : fi r with
  | ok x r' => rw [q] at h; exact fun G1 H1 v s1 E1 V => ⟨x, G1, r', s1, E1, V, h.mono s1 (fun _ _ z => z) (fun _ _ z => z) (fun _ _ z => z) fun _ _ z => z⟩
  | exc x r' => rw [q] at h; exact fun G1 H1 cls d s1 E1 V => h G1 H1 σ cls d s1 E1 V
  | bad => rw [q] at h; exact h
theorem TIm.imp {σ : L2.St} {H : Hp} {fi : M (List PyData)} {Q Q' : It → Hp → Prop} (q : ∀ v H', Q v H' → Q' v H') (h : TIm c W fi σ H Q) : TIm c W fi σ H Q' := by
  obtain ⟨G, r, E, P⟩ := h
  exact ⟨G, r, E, P.mono (Same.refl _) q⟩
theorem ps_sFor {tg iter : Expr} {fi : M (List PyData)} {g : PyData → M Unit} (hp : PassesOwn (model X.prog X.w) X.A X.env X.xe) (hc : X.calm = true) (hi : PI X tg iter (TIm c W fi)) (hg : PG X tg (TGm c g)) (hb : PSs X body (TSm c W f)) (hs : ∀ x, foldedSetIterable iter X.env x = pure x) :
    PS X (.For tg iter body [] pos) (TSm c W (sFor fi g f)) := by
  refine PS.weak (ps_for hp hc hi hg hb hs) fun D σ H ⟨G, r, E, P⟩ => ?_
  exact TIm.imp (fun J H1 ⟨items, G1, r1, s1, E1, hJ, P1⟩ => for_ok hJ E1 P1) (bindIS E P)

/-! ### while -/
def whileM (t : M Bool) (body : M Fl) : Nat → M Fl
  | 0 => mBad
  | n + 1 => mBind t fun k => if k then (fun r => match body r with
      | .ok .nx r2 => whileM t body n r2
      | .ok .ct r2 => whileM t body n r2
      | .ok .bk r2 => .ok .nx r2
      | .ok (.ret x) r2 => .ok (.ret x) r2
      | .exc x r2 => .exc x r2
      | .bad => .bad) else mPure .nx
theorem ps_sWhile {d : Expr} (n : Nat) (hp : PassesOwn (model X.prog X.w) X.A X.env X.xe) (hc : PT X d (TTm c W ta)) (hb : PSs X body (TSm c W f)) : PS X (.While d body [] pos) (TSm c W (whileM ta f n)) := by
  refine PS.weak (ps_while hp hc hb) fun D σ H ⟨G, r, E, P⟩ => ?_
  refine ⟨fun m σ H => ∃ G1 r1, Same G G1 ∧ EnvRel c G1 r1 σ H ∧ PostS c W G1 (whileM ta f m r1) D, ⟨n, G, r, Same.refl _, E, P⟩, ?_⟩
  rintro m σ1 H1 ⟨G1, r1, s1, E1, P1⟩
  cases m with
  | zero => exact P1.elim
  | succ m =>
    refine TTm.imp (fun k H2 ⟨G2, r2, s2, E2, P2⟩ => ?_) (bindTS E1 P1)
    cases k with
    | false => exact P2 G2 H2 σ1 (Same.refl _) E2
    | true =>
      rw [if_pos rfl] at P2 ⊢
      refine ⟨fun σ' H' => ∃ G3 r3, Same G G3 ∧ EnvRel c G3 r3 σ' H' ∧ PostS c W G3 (whileM ta f m r3) D, fun σ' H' ⟨G3, r3, s3, E3, P3⟩ => ⟨m, Nat.lt_succ_self m, G3, r3, s3, E3, P3⟩, G2, r2, E2, ?_⟩
      cases q2 : f r2 with
      | bad => rw [q2] at P2; exact P2.elim
      | exc x r3 => rw [q2] at P2; exact P2
      | ok fl r3 =>
        rw [q2] at P2
        cases fl with
        | nx => exact fun G4 H4 σ4 s4 E4 => ⟨G4, r3, s1.trans (s2.trans s4), E4, P2.mono s4 (fun _ _ z => z) (fun _ _ z => z) (fun _ _ z => z) fun _ _ z => z⟩
        | ct => exact fun G4 H4 σ4 s4 E4 => ⟨G4, r3, s1.trans (s2.trans s4), E4, P2.mono s4 (fun _ _ z => z) (fun _ _ z => z) (fun _ _ z => z) fun _ _ z => z⟩
        | bk => exact P2
        | ret x => exact P2
end
end CT

/-! CT8: calls of defs. -/
namespace CT
open PySem PySem.Spec PyProof.Rows L2

inductive COut where
  | ok (d : D) (outs : List Slot)
  | exc (x : Exn) (outs : List Slot)
  | bad
abbrev FnS := List Slot → COut

/-- an argument (or what became of it) -/
def ArgRel (T : Ct) (G H : Hp) : Slot → V → Prop
  | .no, _ => True
  | .d x, v => Rl T G v x
  | .own o, v => ∃ a, v = .ref a ∧ G a = none ∧ ObRel T G H a o
  | .exn _, _ => False
  | .scr ns, v => ∃ a, v = .ref a ∧ SqL T.K G a (ns.map V.int)
inductive ArgsRel (T : Ct) (G H : Hp) : List Slot → List V → Prop
  | nil : ArgsRel T G H [] []
  | cons {s : Slot} {ss : List Slot} {v : V} {vs : List V} : ArgRel T G H s v → ArgsRel T G H ss vs → ArgsRel T G H (s :: ss) (v :: vs)
theorem ArgsRel.len {T : Ct} {G H : Hp} {ss : List Slot} {vs : List V} (h : ArgsRel T G H ss vs) : ss.length = vs.length := by
  induction h with
  | nil => rfl
  | cons _ _ ih => simp [ih]
theorem ArgsRel.get {T : Ct} {G H : Hp} {ss : List Slot} {vs : List V} (h : ArgsRel T G H ss vs) : ∀ {i : Nat} {s : Slot}, ss[i]? = some s → ∃ v, vs[i]? = some v ∧ ArgRel T G H s v := by
  induction h with
  | nil => intro i s e; simp at e
  | cons a _ ih =>
    intro i s e
    cases i with
    | zero => simp at e; subst e; exact ⟨_, rfl, a⟩
    | succ i =>
      obtain ⟨v, h1, h2⟩ := ih (i := i) (by simpa using e)
      exact ⟨v, by simpa using h1, h2⟩
def isOwn : Slot → Bool
  | .own _ => true
  | _ => false
/-- the borrowed addresses -/
def borrowed : List Slot → List V → List Addr
  | .own _ :: ss, .ref a :: vs => a :: borrowed ss vs
  | _ :: ss, _ :: vs => borrowed ss vs
  | _, _ => []
theorem mem_borrowed : ∀ {ss : List Slot} {vs : List V} {a : Addr}, a ∈ borrowed ss vs ↔ ∃ (i : Nat) (o : OB), ss[i]? = some (.own o) ∧ vs[i]? = some (.ref a)
  | [], vs, a => by
    constructor
    · intro h; cases vs <;> simp [borrowed] at h
    · rintro ⟨i, o, h, _⟩; simp at h
  | s :: ss, [], a => by
    constructor
    · intro h; cases s <;> simp [borrowed] at h
    · rintro ⟨i, o, _, h⟩; simp at h
  | s :: ss, v :: vs, a => by
    have ih := mem_borrowed (ss := ss) (vs := vs) (a := a)
    have step : (∃ (i : Nat) (o : OB), (s :: ss)[i]? = some (.own o) ∧ (v :: vs)[i]? = some (.ref a)) ↔ ((∃ o, s = .own o ∧ v = .ref a) ∨ ∃ (i : Nat) (o : OB), ss[i]? = some (.own o) ∧ vs[i]? = some (.ref a)) := by
      constructor
      · rintro ⟨i, o, h1, h2⟩
        cases i with
        | zero => simp at h1 h2; exact .inl ⟨o, h1, h2⟩
        | succ i => exact .inr ⟨i, o, by simpa using h1, by simpa using h2⟩
      · rintro (⟨o, rfl, rfl⟩ | ⟨i, o, h1, h2⟩)
        · exact ⟨0, o, rfl, rfl⟩
        · exact ⟨i + 1, o, by simpa using h1, by simpa using h2⟩
    rw [step, ← ih]
    cases s with
    | own o =>
      cases v with
      | ref b =>
        show a ∈ b :: borrowed ss vs ↔ _
        rw [List.mem_cons]
        constructor
        · rintro (rfl | h)
          · exact .inl ⟨o, rfl, rfl⟩
          · exact .inr h
        · rintro (⟨_, _, h⟩ | h)
          · cases h; exact .inl rfl
          · exact .inr h
      | _ => exact ⟨fun h => .inr h, fun h => h.elim (fun ⟨_, _, z⟩ => nomatch z) fun h => h⟩
    | _ => exact ⟨fun h => .inr h, fun h => h.elim (fun ⟨_, z, _⟩ => nomatch z) fun h => h⟩

/-- no own object twice -/
def OwnNd (ss : List Slot) (vs : List V) : Prop := ∀ (i j : Nat) (o o' : OB) (a : Addr), ss[i]? = some (.own o) → ss[j]? = some (.own o') → vs[i]? = some (.ref a) → vs[j]? = some (.ref a) → i = j

/-- what a callee leaves -/
structure After (T : Ct) (G H G' H' : Hp) (ss outs : List Slot) (vs : List V) : Prop where
  gg : Same G G'
  gh : Same G' H'
  fr : ∀ a o, H a = some o → a ∉ borrowed ss vs → H' a = some o
  go : ∀ a, H a ≠ none → a ∉ borrowed ss vs → G' a = G a
  br : ∀ a ∈ borrowed ss vs, H' a ≠ none
  out : ∀ (i : Nat) (o : OB) (s : Slot) (v : V), ss[i]? = some (.own o) → outs[i]? = some s → vs[i]? = some v → ArgRel T G' H' s v

def XRel' (T : Ct) (G H : Hp) (x : Exn) (cls : Value) (d : Option Addr) : Prop :=
  cls = .ref (T.cl x.cls) ∧ match x.pos with
    | none => d = none
    | some p => ∃ a v, d = some a ∧ H a = some (.xd [("position", v)]) ∧ Rl T G v p

def PostC (T : Ct) (G H : Hp) (ss : List Slot) (vs : List V) (o : COut) (Q : VK) (E : XK) : Prop := match o with
  | .ok d outs => ∀ G' H' v, After T G H G' H' ss outs vs → Rl T G' v d → Q v H'
  | .exc x outs => ∀ G' H' cls dd, After T G H G' H' ss outs vs → XRel' T G' H' x cls dd → E cls dd H'
  | .bad => False
/-- the promise of a def that is computed by F -/
def SpF (T : Ct) (n : Nat) (F : FnS) : Sp := fun vs H Q E => ∃ G ss, ss.length = n ∧ Same G H ∧ ArgsRel T G H ss vs ∧ OwnNd ss vs ∧ PostC T G H ss vs (F ss) Q E

/-! ### the caller -/
def argSlot (r : Rho) : Val → Option Slot
  | .d x => some (.d x)
  | .sl i => match r[i]? with
    | some (.own o) => some (.own o)
    | some (.scr ns) => some (.scr ns)
    | some (.d x) => some (.d x)
    | _ => none
def argSlots (r : Rho) : List Val → Option (List Slot)
  | [] => some []
  | x :: xs => (argSlot r x).bind fun s => (argSlots r xs).map fun ss => s :: ss
def isD : Val → Bool
  | .d _ => true
  | .sl _ => false
def isSl (j : Nat) : Val → Bool
  | .d _ => false
  | .sl i => i == j
/-- no slot is given twice -/
def slNd : List Val → Bool
  | [] => true
  | .d _ :: xs => slNd xs
  | .sl i :: xs => xs.all (fun x => !isSl i x) && slNd xs
def fixS : Slot → Slot
  | .d x => .d x
  | .own o => .own o
  | _ => .no
/-- the slots behind the call -/
def wb (r : Rho) (xs : List Val) (outs : List Slot) : Rho := if xs.all isD then r else r.mapIdx fun j s => match s with
  | .own _ => (match xs.findIdx? (isSl j) with
    | some k => fixS (outs.getD k .no)
    | none => s)
  | _ => s
def callM (F : FnS) (xs : List Val) : M Val := fun r => match argSlots r xs with
  | none => .bad
  | some ss => if slNd xs then (match F ss with
    | .ok d outs => .ok (.d d) (wb r xs outs)
    | .exc x outs => .exc x (wb r xs outs)
    | .bad => .bad) else .bad
theorem slNd_ok : ∀ {xs : List Val}, slNd xs = true → ∀ {k l i : Nat}, xs[k]? = some (.sl i) → xs[l]? = some (.sl i) → k = l
  | [], _, _, _, _, h, _ => by simp at h
  | .d _ :: xs, h, k, l, i, h1, h2 => by
    cases k with
    | zero => simp at h1
    | succ k =>
      cases l with
      | zero => simp at h2
      | succ l => rw [slNd_ok (xs := xs) h (k := k) (l := l) (i := i) (by simpa using h1) (by simpa using h2)]
  | .sl j :: xs, h, k, l, i, h1, h2 => by
    simp only [slNd, Bool.and_eq_true, List.all_eq_true] at h
    cases k with
    | zero =>
      simp at h1; subst h1
      cases l with
      | zero => rfl
      | succ l =>
        have := h.1 _ (List.mem_of_getElem? (show xs[l]? = some (.sl j) by simpa using h2))
        simp [isSl] at this
    | succ k =>
      cases l with
      | zero =>
        simp at h2; subst h2
        have := h.1 _ (List.mem_of_getElem? (show xs[k]? = some (.sl j) by simpa using h1))
        simp [isSl] at this
      | succ l => rw [slNd_ok (xs := xs) h.2 (k := k) (l := l) (i := i) (by simpa using h1) (by simpa using h2)]
theorem argSlots_get : ∀ {xs : List Val} {r : Rho} {ss : List Slot}, argSlots r xs = some ss → ∀ {i : Nat} {s : Slot}, ss[i]? = some s → ∃ x, xs[i]? = some x ∧ argSlot r x = some s
  | [], r, ss, h, i, s, e => by simp only [argSlots, Option.some.injEq] at h; subst h; simp at e
  | x :: xs, r, ss, h, i, s, e => by
    simp only [argSlots, Option.bind_eq_some_iff, Option.map_eq_some_iff] at h
    obtain ⟨s0, h1, ss0, h2, rfl⟩ := h
    cases i with
    | zero => simp at e; subst e; exact ⟨x, rfl, h1⟩
    | succ i =>
      obtain ⟨y, h3, h4⟩ := argSlots_get h2 (i := i) (s := s) (by simpa using e)
      exact ⟨y, by simpa using h3, h4⟩
theorem argSlot_own {r : Rho} {x : Val} {o : OB} (h : argSlot r x = some (.own o)) : ∃ i, x = .sl i ∧ r[i]? = some (.own o) := by
  cases x with
  | d x => simp [argSlot] at h
  | sl i =>
    refine ⟨i, rfl, ?_⟩
    simp only [argSlot] at h
    split at h <;> simp_all
section
variable {c : Gc} {σ : L2.St} {G H : Hp} {r : Rho}
theorem argSlot_ok (E : EnvRel c G r σ H) {x : Val} {v : V} {s : Slot} (hx : ValRel c G σ x v) (h : argSlot r x = some s) : ArgRel c.T G H s v := by
  cases x with
  | d x => simp only [argSlot, Option.some.injEq] at h; subst h; exact hx
  | sl i =>
    have h' : σ[i]? = some (some v) := hx
    simp only [argSlot] at h
    cases q : r[i]? with
    | none => rw [q] at h; cases h
    | some sl =>
      rw [q] at h
      have z := E.slot i sl _ q h'
      cases sl with
      | no => cases h
      | exn _ => cases h
      | d y => cases h; obtain ⟨u, e, ru⟩ := z; cases e; exact ru
      | own o => cases h; obtain ⟨a, e, g, ob⟩ := z; cases e; exact ⟨a, rfl, g, ob⟩
      | scr ns => cases h; obtain ⟨a, e, q⟩ := z; cases e; exact ⟨a, rfl, q⟩
theorem argSlots_ok (E : EnvRel c G r σ H) : ∀ {xs : List Val} {vs : List V} {ss : List Slot}, ValsRel c G σ xs vs → argSlots r xs = some ss → ArgsRel c.T G H ss vs
  | [], _, ss, h, e => by simp only [argSlots, Option.some.injEq] at e; subst e; cases h; exact .nil
  | x :: xs, _, ss, h, e => by
    simp only [argSlots, Option.bind_eq_some_iff, Option.map_eq_some_iff] at e
    obtain ⟨s0, h1, ss0, h2, rfl⟩ := e
    cases h with
    | cons h3 h4 => exact .cons (argSlot_ok E h3 h1) (argSlots_ok E h4 h2)
theorem ValsRel.get {xs : List Val} {vs : List V} (h : ValsRel c G σ xs vs) : ∀ {i : Nat} {x : Val}, xs[i]? = some x → ∃ v, vs[i]? = some v ∧ ValRel c G σ x v := by
  induction h with
  | nil => intro i x e; simp at e
  | cons a _ ih =>
    intro i s e
    cases i with
    | zero => simp at e; subst e; exact ⟨_, rfl, a⟩
    | succ i =>
      obtain ⟨v, h1, h2⟩ := ih (i := i) (by simpa using e)
      exact ⟨v, by simpa using h1, h2⟩
/-- an own argument, seen from both sides -/
theorem own_arg {xs : List Val} {vs : List V} {ss : List Slot} (hv : ValsRel c G σ xs vs) (he : argSlots r xs = some ss) {k : Nat} {o : OB} {v : V} (h1 : ss[k]? = some (.own o)) (h2 : vs[k]? = some v) : ∃ i, xs[k]? = some (.sl i) ∧ r[i]? = some (.own o) ∧ σ[i]? = some (some v) := by
  obtain ⟨x, e1, e2⟩ := argSlots_get he h1
  obtain ⟨i, rfl, e3⟩ := argSlot_own e2
  obtain ⟨u, e4, e5⟩ := hv.get e1
  rw [h2] at e4; cases e4
  exact ⟨i, e1, e3, e5⟩
theorem own_nd (E : EnvRel c G r σ H) {xs : List Val} {vs : List V} {ss : List Slot} (hv : ValsRel c G σ xs vs) (he : argSlots r xs = some ss) (nd : slNd xs = true) : OwnNd ss vs := fun k l o o' a h1 h2 h3 h4 => by
  obtain ⟨i, x1, r1, s1⟩ := own_arg hv he h1 h3
  obtain ⟨j, x2, r2, s2⟩ := own_arg hv he h2 h4
  have e := E.uniq i j o o' a r1 r2 s1 s2
  subst e
  exact slNd_ok nd x1 x2
theorem findIdx_sl {xs : List Val} {j k : Nat} (h : xs.findIdx? (isSl j) = some k) : xs[k]? = some (.sl j) := by
  rw [List.findIdx?_eq_some_iff_getElem] at h
  obtain ⟨h1, h2, _⟩ := h
  rw [List.getElem?_eq_getElem h1]
  cases q : xs[k] with
  | d x => rw [q] at h2; simp [isSl] at h2
  | sl i => rw [q] at h2; simp [isSl] at h2; rw [h2]
theorem findIdx_none {xs : List Val} {j k : Nat} (h : xs.findIdx? (isSl j) = none) : xs[k]? ≠ some (.sl j) := fun e => by
  rw [List.findIdx?_eq_none_iff] at h
  have := h _ (List.mem_of_getElem? e)
  simp [isSl] at this
theorem after_call (E : EnvRel c G r σ H) {G' H' : Hp} {xs : List Val} {vs : List V} {ss outs : List Slot} (hv : ValsRel c G σ xs vs) (he : argSlots r xs = some ss) (nd : slNd xs = true) (A : After c.T G H G' H' ss outs vs) : EnvRel c G' (wb r xs outs) σ H' := by
  -- the borrowed addresses are own slots' of ours
  have bo : ∀ a, a ∈ borrowed ss vs → ∃ (i k : Nat) (o : OB), xs[k]? = some (.sl i) ∧ ss[k]? = some (.own o) ∧ vs[k]? = some (.ref a) ∧ r[i]? = some (.own o) ∧ σ[i]? = some (some (.ref a)) := fun a ha => by
    obtain ⟨k, o, h1, h2⟩ := mem_borrowed.mp ha
    obtain ⟨i, x1, r1, s1⟩ := own_arg hv he h1 h2
    exact ⟨i, k, o, x1, h1, h2, r1, s1⟩
  -- what stands in each slot
  have at_ : ∀ (j : Nat) (s' : Slot), (wb r xs outs)[j]? = some s' → ∃ s, r[j]? = some s ∧ (s' = s ∧ (∀ o, s = .own o → ∀ k : Nat, xs[k]? ≠ some (.sl j)) ∨ ∃ (o : OB) (k : Nat), s = .own o ∧ xs[k]? = some (.sl j) ∧ s' = fixS (outs.getD k .no)) := fun j s' h => by
    unfold wb at h
    split at h
    · rename_i hall
      refine ⟨s', h, .inl ⟨rfl, fun o _ k e => ?_⟩⟩
      have := List.all_eq_true.mp hall _ (List.mem_of_getElem? e)
      simp [isD] at this
    · rw [List.getElem?_mapIdx] at h
      cases q : r[j]? with
      | none => rw [q] at h; cases h
      | some s =>
        rw [q] at h
        have h' := Option.some.inj h
        refine ⟨s, rfl, ?_⟩
        cases s with
        | own o =>
          dsimp only at h'
          cases f : xs.findIdx? (isSl j) with
          | none => rw [f] at h'; exact .inl ⟨h'.symm, fun _ _ k => findIdx_none f⟩
          | some k => rw [f] at h'; exact .inr ⟨o, k, rfl, findIdx_sl f, h'.symm⟩
        | _ => exact .inl ⟨h'.symm, fun o z => nomatch z⟩
  have ownk : ∀ {j k : Nat} {o : OB}, r[j]? = some (.own o) → xs[k]? = some (.sl j) → ss[k]? = some (.own o) := fun {j k o} h1 h2 => by
    have lenE : ∀ {ys : List Val} {ts : List Slot} {k : Nat} {x : Val}, argSlots r ys = some ts → ys[k]? = some x → ∃ s, ts[k]? = some s ∧ argSlot r x = some s := by
      intro ys
      induction ys with
      | nil => intro ts k x _ e; simp at e
      | cons y ys ih =>
        intro ts k x h e
        simp only [argSlots, Option.bind_eq_some_iff, Option.map_eq_some_iff] at h
        obtain ⟨s0, h1, ss0, h2, rfl⟩ := h
        cases k with
        | zero => simp at e; subst e; exact ⟨s0, rfl, h1⟩
        | succ k =>
          obtain ⟨s, h3, h4⟩ := ih h2 (k := k) (x := x) (by simpa using e)
          exact ⟨s, by simpa using h3, h4⟩
    obtain ⟨s, e1, e2⟩ := lenE he h2
    simp only [argSlot, h1, Option.some.injEq] at e2
    rw [e1, ← e2]
  have wlen : (wb r xs outs).length = r.length := by
    unfold wb
    split
    · rfl
    · simp
  have nbor : ∀ {j : Nat} {o : OB} {a : Addr}, r[j]? = some (.own o) → σ[j]? = some (some (.ref a)) → (∀ k : Nat, xs[k]? ≠ some (.sl j)) → a ∉ borrowed ss vs := fun {j o a} h1 h2 h3 ha => by
    obtain ⟨i, k, o', x1, s1, v1, r1, g1⟩ := bo a ha
    have e := E.uniq i j o' o a r1 h1 g1 h2
    subst e
    exact h3 k x1
  have backOwn : ∀ {j : Nat} {o : OB}, (wb r xs outs)[j]? = some (.own o) → ∃ o', r[j]? = some (.own o') := fun {j o} h => by
    obtain ⟨s, h1, h2⟩ := at_ j _ h
    rcases h2 with ⟨e, _⟩ | ⟨o', k, e, _⟩
    · exact ⟨o, by rw [h1, ← e]⟩
    · exact ⟨o', by rw [h1, e]⟩
  refine ⟨by rw [wlen, E.len], A.gh, fun j s' u h1 h2 => ?_, fun i j o o' a h1 h2 h3 h4 => ?_, fun a o h0 hb => ?_, fun j o a h1 h2 => ?_, fun a ha => ?_, fun a h0 hb => ?_, E.par⟩
  · obtain ⟨s, hs, alt⟩ := at_ j s' h1
    have old := E.slot j s u hs h2
    rcases alt with ⟨e, no⟩ | ⟨o, k, e, hk, e'⟩
    · subst e
      cases s' with
      | no => trivial
      | d x => obtain ⟨w, ew, rw'⟩ := old; exact ⟨w, ew, Rl.mono A.gg _ _ rw'⟩
      | own o =>
        obtain ⟨a, ea, g, ob⟩ := old
        have h2' : σ[j]? = some (some (.ref a)) := by rw [h2, ea]
        have nb := nbor hs h2' (no o rfl)
        exact ⟨a, ea, by rw [A.go a ob.there nb]; exact g, ob.grow A.gg fun x hx => A.fr a x hx nb⟩
      | exn x => exact old
      | scr ns => obtain ⟨a, ea, q⟩ := old; exact ⟨a, ea, sqL_mono A.gg q⟩
    · subst e
      obtain ⟨a, ea, g, ob⟩ := old
      have sk := ownk hs hk
      obtain ⟨v, ev, hvv⟩ := hv.get hk
      have hvv' : σ[j]? = some (some v) := hvv
      rw [h2] at hvv'
      have ev2 : u = some v := Option.some.inj hvv'
      cases q : outs[k]? with
      | none =>
        have : outs.getD k .no = .no := by rw [List.getD_eq_getElem?_getD, q]; rfl
        rw [this] at e'
        subst e'
        trivial
      | some so =>
        have : outs.getD k .no = so := by rw [List.getD_eq_getElem?_getD, q]; rfl
        rw [this] at e'
        have ar := A.out k o so v sk q ev
        subst e'
        cases so with
        | no => trivial
        | exn _ => trivial
        | scr _ => trivial
        | d x => exact ⟨v, ev2, ar⟩
        | own o2 => obtain ⟨b, eb, gb, obb⟩ := ar; exact ⟨b, by rw [ev2, eb], gb, obb⟩
  · obtain ⟨o1, q1⟩ := backOwn h1
    obtain ⟨o2, q2⟩ := backOwn h2
    exact E.uniq i j o1 o2 a q1 q2 h3 h4
  · have q := E.frame a o h0 hb
    refine A.fr a o q fun ha => ?_
    obtain ⟨i, k, o', x1, s1, v1, r1, g1⟩ := bo a ha
    rcases E.fresh i o' a r1 g1 with f | f
    · exact hb f
    · rw [f] at h0; cases h0
  · obtain ⟨o1, q1⟩ := backOwn h1
    exact E.fresh j o1 a q1 h2
  · by_cases hb : a ∈ borrowed ss vs
    · exact A.br a hb
    · cases q : H a with
      | none => exact absurd q (E.bor a ha)
      | some o => rw [A.fr a o q hb]; exact fun z => nomatch z
  · rw [← E.gold a h0 hb]
    refine A.go a ?_ fun ha => ?_
    · cases q : c.H0 a with
      | none => exact absurd q h0
      | some o => rw [E.frame a o q hb]; exact fun z => nomatch z
    · obtain ⟨i, k, o', x1, s1, v1, r1, g1⟩ := bo a ha
      rcases E.fresh i o' a r1 g1 with f | f
      · exact hb f
      · exact h0 f
end

/-! ### the rule of a call -/
def callN (n : Nat) (F : FnS) (xs : List Val) : M Val := if xs.length = n then callM F xs else mBad
theorem argSlots_len : ∀ {xs : List Val} {r : Rho} {ss : List Slot}, argSlots r xs = some ss → ss.length = xs.length
  | [], r, ss, h => by simp only [argSlots, Option.some.injEq] at h; subst h; rfl
  | x :: xs, r, ss, h => by
    simp only [argSlots, Option.bind_eq_some_iff, Option.map_eq_some_iff] at h
    obtain ⟨s0, h1, ss0, h2, rfl⟩ := h
    simp [argSlots_len h2]
theorem call_post {c : Gc} {W : WX} {σ : L2.St} {G H : Hp} {r : Rho} {n : Nat} {F : FnS} {xs : List Val} {vs : List V} {Q : VK} (E : EnvRel c G r σ H) (hv : ValsRel c G σ xs vs) (P : PostE c W σ G (callN n F xs r) Q) : SpF c.T n F vs H Q (WE W σ) := by
  unfold callN at P
  split at P
  · rename_i hn
    unfold callM at P
    cases he : argSlots r xs with
    | none => rw [he] at P; exact P.elim
    | some ss =>
      rw [he] at P
      dsimp only at P
      by_cases nd : slNd xs = true
      · rw [if_pos nd] at P
        refine ⟨G, ss, by rw [argSlots_len he, hn], E.sub, argSlots_ok E hv he, own_nd E hv he nd, ?_⟩
        cases q : F ss with
        | bad => rw [q] at P; exact P.elim
        | ok d outs => rw [q] at P; exact fun G' H' v A rv => P G' H' v A.gg (after_call E hv he nd A) rv
        | exc x outs => rw [q] at P; exact fun G' H' cls dd A rx => P G' H' cls dd A.gg (after_call E hv he nd A) rx
      · rw [if_neg nd] at P; exact P.elim
  · exact P.elim
def eCall (n : Nat) (F : FnS) (fs : M (List Val)) : M Val := mBind fs (callN n F)
section
variable {c : Gc} {W : WX} {X : Cx} {k : Nat} {f : Addr} {fd : FuncData} {ps : List Str} {x : Str} {p pos : Pos} {e : Expr} {es : List Expr}
theorem pe_eCall {n : Nat} {F : FnS} {fs : M (List Val)} (FO : FnOk X.prog X.w X.K X.mg X.base (L2.CX X.prog X.w) k f fd ps (SpF c.T n F)) (hr : Room k X.A) (hg : Gl X x) (hm : X.mg x = some (.ref f)) (hk : PySem.W.keepIn X.K (.ref f) = true) (hb : Binds X.K fd ps []) (tk : Takes X W)
    (ha : PA X (e :: es) (TAm c W fs)) (hdb : (x == ("__debug__" : Str)) = false) (he : starEach (e :: es) X.env = (false, eval e X.env) :: starEach es X.env) (hpl : (backTo pos (starEach es X.env)).any (·.1) = false) :
    PE X (.Call (.Name x p) (e :: es) [] pos) (TEm c W (eCall n F fs)) := by
  refine PE.weak (pe_callS (E := WE W) FO hr hg hm hk hb (fun σ => passAt tk σ) ha hdb he hpl) fun σ H Q ⟨G, r, E, P⟩ => ?_
  exact TAm.imp (fun vs H1 ⟨xs, G1, r1, s1, E1, hv, P1⟩ => call_post E1 hv P1) (bindAE E P)
end

/-! ### a def by its body -/
def keepOwn : Slot → Slot
  | .own o => .own o
  | _ => .no
def fnRun0 (L : Nat) (fb : M Fl) : FnS := fun ss => match fb (ss ++ List.replicate (L - ss.length) .no) with
  | .ok (.ret d) r' => .ok d ((r'.take ss.length).map keepOwn)
  | .ok .nx r' => .ok .none ((r'.take ss.length).map keepOwn)
  | .ok _ _ => .bad
  | .exc x r' => .exc x ((r'.take ss.length).map keepOwn)
  | .bad => .bad
/-- pp: the parameters that the body never stores; own arguments must stand there -/
def ownIn (pp : List Nat) : Nat → List Slot → Bool
  | _, [] => true
  | i, .own _ :: ss => pp.contains i && ownIn pp (i + 1) ss
  | i, _ :: ss => ownIn pp (i + 1) ss
theorem ownIn_ok {pp : List Nat} : ∀ {ss : List Slot} {n : Nat}, ownIn pp n ss = true → ∀ {i : Nat} {o : OB}, ss[i]? = some (.own o) → n + i ∈ pp
  | [], n, _, i, o, e => by simp at e
  | s :: ss, n, h, i, o, e => by
    have tl : ownIn pp (n + 1) ss = true := by
      cases s with
      | own o => simp only [ownIn, Bool.and_eq_true] at h; exact h.2
      | _ => exact h
    cases i with
    | zero =>
      simp at e
      subst e
      simp only [ownIn, Bool.and_eq_true] at h
      simpa using h.1
    | succ i =>
      have := ownIn_ok tl (i := i) (o := o) (by simpa using e)
      rw [show n + (i + 1) = n + 1 + i by omega]
      exact this
def fnRun (pp : List Nat) (L : Nat) (fb : M Fl) : FnS := fun ss => if ownIn pp 0 ss then fnRun0 L fb ss else .bad
theorem env_start {T : Ct} {G H : Hp} {ss : List Slot} {vs : List V} {N : List Str} {pp : List Nat} (sm : Same G H) (ha : ArgsRel T G H ss vs) (nd : OwnNd ss vs) :
    EnvRel ⟨T, G, H, borrowed ss vs, pp, start N vs, none⟩ G (ss ++ List.replicate (N.length - ss.length) .no) (start N vs) H := by
  have hl := ha.len
  have lo : ∀ {i : Nat} {s : Slot}, (ss ++ List.replicate (N.length - ss.length) Slot.no)[i]? = some s → (ss[i]? = some s ∧ i < ss.length) ∨ s = .no := fun {i s} h => by
    by_cases hi : i < ss.length
    · rw [List.getElem?_append_left hi] at h; exact .inl ⟨h, hi⟩
    · rw [List.getElem?_append_right (by omega), List.getElem?_replicate] at h
      split at h
      · exact .inr (Option.some.inj h).symm
      · cases h
  have st : ∀ {i : Nat}, i < ss.length → (start N vs)[i]? = (vs[i]?).map some := fun {i} hi => by
    unfold L2.start
    rw [List.getElem?_append_left (by rw [List.length_map]; omega), List.getElem?_map]
  have stv : ∀ {i : Nat} {a : Addr}, i < ss.length → (start N vs)[i]? = some (some (.ref a)) → vs[i]? = some (.ref a) := fun {i a} hi h => by
    rw [st hi] at h
    cases q : vs[i]? with
    | none => rw [q] at h; cases h
    | some v => rw [q] at h; cases h; rfl
  refine ⟨?_, sm, fun i s u h1 h2 => ?_, fun i j o o' a h1 h2 h3 h4 => ?_, fun _ _ h _ => h, fun i o a h1 h2 => ?_, fun a h => ?_, fun _ _ _ => rfl, fun _ _ => rfl⟩
  · unfold L2.start
    simp only [List.length_append, List.length_replicate, List.length_map]
    omega
  · rcases lo h1 with ⟨q, hi⟩ | rfl
    · obtain ⟨v, ev, ar⟩ := ha.get q
      rw [st hi, ev] at h2
      cases h2
      cases s with
      | no => trivial
      | d x => exact ⟨v, rfl, ar⟩
      | own o => obtain ⟨a, e, g, ob⟩ := ar; exact ⟨a, by rw [e], g, ob⟩
      | exn x => exact ar.elim
      | scr ns => obtain ⟨a, e, q⟩ := ar; exact ⟨a, by rw [e], q⟩
    · trivial
  · rcases lo h1 with ⟨q, hi⟩ | z
    · rcases lo h2 with ⟨q', hj⟩ | z
      · exact nd i j o o' a q q' (stv hi h3) (stv hj h4)
      · cases z
    · cases z
  · rcases lo h1 with ⟨q, hi⟩ | z
    · exact .inl (mem_borrowed.mpr ⟨i, o, q, stv hi h2⟩)
    · cases z
  · obtain ⟨i, o, h1, h2⟩ := mem_borrowed.mp h
    obtain ⟨v, ev, ar⟩ := ha.get h1
    rw [h2] at ev; cases ev
    obtain ⟨b, e, g, ob⟩ := ar
    cases e
    exact ob.there
theorem after_end {T : Ct} {G H G' H' : Hp} {ss : List Slot} {vs : List V} {N : List Str} {r' : Rho} {σ' : L2.St} {pp : List Nat} (ha : ArgsRel T G H ss vs) (hpp : ownIn pp 0 ss = true) (sg : Same G G') (E : EnvRel ⟨T, G, H, borrowed ss vs, pp, start N vs, none⟩ G' r' σ' H') : After T G H G' H' ss ((r'.take ss.length).map keepOwn) vs := by
  refine ⟨sg, E.sub, E.frame, E.gold, E.bor, fun i o s v h1 h2 h3 => ?_⟩
  have hi : i < ss.length := (List.getElem?_eq_some_iff.mp h1).1
  rw [List.getElem?_map, List.getElem?_take_of_lt hi] at h2
  cases q : r'[i]? with
  | none => rw [q] at h2; cases h2
  | some sl =>
    rw [q] at h2
    have e := Option.some.inj h2
    subst e
    cases sl with
    | own o2 =>
      have es := E.par i (by have := ownIn_ok hpp h1; rw [Nat.zero_add] at this; exact this)
      have e0 : (start N vs)[i]? = some (some v) := by
        unfold L2.start
        rw [List.getElem?_append_left (by rw [List.length_map, ← ha.len]; exact hi), List.getElem?_map, h3]
        rfl
      have es' : σ'[i]? = some (some v) := by rw [es]; exact e0
      obtain ⟨a, ea, g, ob⟩ := E.slot i _ _ q es'
      exact ⟨a, Option.some.inj ea, g, ob⟩
    | _ => trivial
theorem fn_ok {P : Program} {w : World} {K : PySem.W.Frag} {mg : Str → Option Value} {base : Heap} {x qual : Str} {st : Stmt} {f : Addr} {fd : FuncData} {N ps : List Str} {k : Nat} {pp : List Nat} {cl : Nat → Addr} {fb : M Fl} (F : Fun K x qual st f fd) (S : FnScope N ps (defScope st))
    (hb : ∀ (cdv : Value) (A : Around) (outer : List Env) (s : Shared) (H : Hp) (E : XK) (c : Gc), c.T = ⟨P, w, K, cl⟩ → c.ex = none → c.par = pp → Room k (A.deeper (envOfC qual (defScope st) s.heap.objs.size f cdv)) →
      PSs (cxOf (L2.CX P w) P w K mg base N qual (defScope st) f cdv A outer s H E) (defBody st) (TSm c (fun cls d _ H => E cls d H) fb)) :
    FnOk P w K mg base (L2.CX P w) (k + 1) f fd ps (SpF ⟨P, w, K, cl⟩ ps.length (fnRun pp N.length fb)) := by
  refine F.okX S (fun vs H Q E h => ?_) fun cdv A outer s H vs Q E hr h => ?_
  · obtain ⟨G, ss, hl, _, ha, _⟩ := h
    rw [← ha.len, hl]
  · obtain ⟨G, ss, hl, sm, ha, nd, PC⟩ := h
    unfold fnRun at PC
    by_cases hpp : ownIn pp 0 ss = true
    rotate_left
    · rw [if_neg hpp] at PC; exact PC.elim
    rw [if_pos hpp] at PC
    refine ⟨_, hb cdv A outer s H E ⟨⟨P, w, K, cl⟩, G, H, borrowed ss vs, pp, start N vs, none⟩ rfl rfl rfl hr, G, _, env_start (N := N) sm ha nd, ?_⟩
    unfold fnRun0 at PC
    cases q : fb (ss ++ List.replicate (N.length - ss.length) .no) with
    | bad => rw [q] at PC; exact PC.elim
    | exc y r' => rw [q] at PC; exact fun G' H' σ' cls d sg E' hx => PC G' H' cls d (after_end ha hpp sg E') hx
    | ok fl r' =>
      rw [q] at PC
      cases fl with
      | nx => exact fun G' H' σ' sg E' => PC G' H' .non (after_end ha hpp sg E') .non
      | ret d => exact fun G' H' σ' v sg E' rv => PC G' H' v (after_end ha hpp sg E') rv
      | bk => exact PC.elim
      | ct => exact PC.elim
end CT

/-! CT9: subscripts, len, isinstance, own lists. -/
namespace CT
open PySem PySem.Spec PyProof.Rows L2

/-! ### a[i] -/
def ixD : D → D → Option D
  | .list xs, .int i => atI xs i
  | .tuple xs, .int i => atI xs i
  | .str z, .int i => if z.length ≤ lim then (atI z.cps.toList i).map fun c => .str ⟨#[c]⟩ else none
  | .dict kvs, k => if keyOk k && allKeys kvs then dlook kvs k else none
  | _, _ => none
def ix2 (x y : Val) : M Val := fun r => match viewR r x, view r y with
  | some d, some e => (match ixD d e with
    | some z => .ok (.d z) r
    | none => .bad)
  | _, _ => .bad
theorem atI_rl {T : Ct} {G : Hp} {vs : List V} {ds : List D} {i : Int} {d : D} (h : RlAll T G vs ds) (e : atI ds i = some d) : ∃ v, atI vs i = some v ∧ Rl T G v d := by
  unfold atI at e ⊢
  rw [h.len]
  cases q : ixN ds.length i with
  | none => rw [q] at e; cases e
  | some j =>
    rw [q] at e
    exact h.get e
section
variable {c : Gc} {W : WX} {X : Cx} {a b e : Expr} {es : List Expr} {fa fb fc : M Val} {ta tb : M Bool} {pos : Pos}
def rIxM (T : Ct) : R2 := fun x y H Q => ∃ G d k z, Same G H ∧ RlR T G H x d ∧ RlV T G H y k ∧ ixD d k = some z ∧ ∀ v, Rl T G v z → Q v H
theorem ix_ok (k : XOk c X) : IxR X (rIxM c.T) := by
  intro value slice pins s σ H x y v u Q I rx ry h hs
  obtain ⟨G, d, kd, z, sm, rd, rk, ez, q⟩ := h
  cases d with
  | list ds =>
    cases kd with
    | int i =>
      obtain ⟨p, xs, ep, hp, rp⟩ := rd.items sm
      obtain ⟨w, ew, hw⟩ := atI_rl rp ez
      exact ix_list value slice pins s σ H x y v u Q I rx ry ⟨p, xs, i, w, ep, rk.int, by rw [← k.K]; exact hp, ew, q w hw⟩ hs
    | _ => simp [ixD] at ez
  | tuple ds =>
    cases kd with
    | int i =>
      cases rd with
      | of rd =>
        obtain ⟨p, xs, ep, hp, rp⟩ := rd.itemsT sm
        obtain ⟨w, ew, hw⟩ := atI_rl rp ez
        exact ix_tup value slice pins s σ H x y v u Q I rx ry ⟨p, xs, i, w, ep, rk.int, by rw [← k.K]; exact hp, ew, q w hw⟩ hs
    | _ => simp [ixD] at ez
  | str t =>
    cases kd with
    | int i =>
      simp only [ixD] at ez
      split at ez
      · rename_i hl
        rw [Option.map_eq_some_iff] at ez
        obtain ⟨n, e1, rfl⟩ := ez
        cases rd with
        | of rd => exact ix_str value slice pins s σ H x y v u Q I rx ry ⟨t, i, n, rd.str, rk.int, lim_le hl, e1, q _ (.str _)⟩ hs
      · cases ez
    | _ => simp [ixD] at ez
  | dict kvs =>
    simp only [ixD] at ez
    split at ez
    · rename_i hk
      rw [Bool.and_eq_true] at hk
      cases rd with
      | of rd =>
        obtain ⟨a, ea, hd⟩ := rd.dict sm
        subst ea
        cases rx
        obtain ⟨xs, vvs, hm, hsys, hl, hn, hv, hr⟩ := dict_of k.K k.P k.w I sm hd hk.2
        obtain ⟨key, b, ek, ev, eu, is⟩ := key_is k.K I (rk.whole sm) ry hk.1
        subst ev eu
        have lk := look_ok ek hn hv hr
        rw [ez] at lk
        obtain ⟨u, w, e1, r1, r2⟩ := lk
        have hD : s.heap.DictKeyed (nestedKind X.prog X.w) a (pairsH xs) := ⟨xs, hm, rfl⟩
        exact tail_any hm.typeIs PySem.F.slot_dict_getitem.lookup (getItem_keyed (knd := nestedKind X.prog X.w) (by have := k.hu; show X.A.units + 1 + 8 < cLine; omega) is hD e1 ⟨w, H, I.tok _, r1, q w r2⟩) hs
    · cases ez
  | _ => simp [ixD] at ez
def eIx (fa fb : M Val) : M Val := mBind fa fun x => mBind fb fun y => ix2 x y
theorem pe_eIx (k : XOk c X) (ha : PE X a (TEm c W fa)) (hb : PE X b (TEm c W fb)) (hs : PlainIx b) : PE X (.Subscript a b pos) (TEm c W (eIx fa fb)) := by
  refine PE.weak (pe_ix (ix_ok k) ha hb hs) fun σ H Q ⟨G, r, E, P⟩ => ?_
  refine TEm.imp (fun v H1 ⟨x, G1, r1, s1, E1, hx, P1⟩ => ?_) (bindE E P)
  refine TEm.imp (fun u H2 ⟨y, G2, r2, s2, E2, hy, P2⟩ => ?_) (bindE E1 P1)
  unfold ix2 at P2
  cases q1 : viewR r2 x with
  | none => rw [q1] at P2; exact P2.elim
  | some d =>
    cases q2 : view r2 y with
    | none => rw [q1, q2] at P2; exact P2.elim
    | some e =>
      rw [q1, q2] at P2
      dsimp only at P2
      cases q3 : ixD d e with
      | none => rw [q3] at P2; exact P2.elim
      | some z => rw [q3] at P2; exact ⟨G2, d, e, z, E2.sub, E2.viewR (hx.mono s2) q1, E2.view hy q2, q3, fun w hw => P2 G2 H2 w (Same.refl _) E2 hw⟩

/-! ### len -/
def lenD : D → Option Nat
  | .list xs => some xs.length
  | .tuple xs => some xs.length
  | .str z => if z.length ≤ lim then some z.length else none
  | .dict kvs => if allKeys kvs then some kvs.length else none
  | _ => none
def len1 (x : Val) : M Val := fun r => match viewR r x with
  | some d => (match lenD d with
    | some n => .ok (.d (.int n)) r
    | none => .bad)
  | none => .bad
def rLenM (T : Ct) : List V → Hp → VK → Prop := fun xs H Q => ∃ x G d n, xs = [x] ∧ Same G H ∧ RlR T G H x d ∧ lenD d = some n ∧ Q (.int n) H
theorem nks_length : ∀ {ds : List D} {ks : List NestedKey}, nks ds = some ks → ds.length = ks.length
  | [], _, h => by simp only [nks, Option.some.injEq] at h; subst h; rfl
  | x :: xs, _, h => by
    simp only [nks, Option.bind_eq_some_iff, Option.map_eq_some_iff] at h
    obtain ⟨k, h1, ks, h2, rfl⟩ := h
    simp [nks_length h2]
theorem len_ok (k : XOk c X) : CallR X (.builtin "len") (rLenM c.T) := by
  intro pins s σ H xs us Q I r h
  obtain ⟨x, G, d, n, rfl, sm, rd, en, q⟩ := h
  cases d with
  | list ds =>
    cases en
    obtain ⟨p, ys, ep, hp, rp⟩ := rd.items sm
    subst ep
    exact call_len pins s σ H _ us Q I r ⟨_, _, rfl, .inl ⟨ys, by rw [← k.K]; exact hp, rfl⟩, by rw [rp.len]; exact q⟩
  | tuple ds =>
    cases en
    cases rd with
    | of rd =>
      obtain ⟨p, ys, ep, hp, rp⟩ := rd.itemsT sm
      subst ep
      exact call_len pins s σ H _ us Q I r ⟨_, _, rfl, .inr ⟨ys, by rw [← k.K]; exact hp, rfl⟩, by rw [rp.len]; exact q⟩
  | str z =>
    simp only [lenD] at en
    split at en
    · rename_i hl
      cases en
      cases rd with
      | of rd =>
        have := rd.str
        subst this
        exact call_len pins s σ H _ us Q I r ⟨_, _, rfl, ⟨lim_le hl, rfl⟩, q⟩
    · cases en
  | dict kvs =>
    simp only [lenD] at en
    split at en
    · rename_i hk
      cases en
      cases rd with
      | of rd =>
        obtain ⟨a, ea, hd⟩ := rd.dict sm
        subst ea
        obtain ⟨u, rfl, rx⟩ := vals1 r
        cases rx
        obtain ⟨ys, vvs, hm, hsys, hl, hn, hv, hr⟩ := dict_of k.K k.P k.w I sm hd hk
        have el : kvs.length = (pairsH ys).length := by
          have := nks_length hn
          rw [List.length_map, List.length_map] at this
          rw [pairsH_length, this]
        have hD : s.heap.DictKeyed (nestedKind X.prog X.w) a (pairsH ys) := ⟨ys, hm, rfl⟩
        have hz : (pairsH ys).length ≤ sizeLine := by rw [pairsH_length]; exact hl
        refine PyProof.Rows.call_len_slot (n := (pairsH ys).length) hD.typeIs PySem.F.slot_dict_len (fun Q' hq => len_keyed hsys hD hq) (by omega) (by rw [sizeLine_eq] at hz; omega) ?_
        rw [← el]
        exact ⟨.int kvs.length, H, I.tok _, ⟨_, rfl⟩, q⟩
    · cases en
  | _ => simp [lenD] at en
def eLen (fa : M Val) : M Val := mBind fa len1
theorem pe_eLen {p : Pos} (k : XOk c X) (hg : Gl X "len") (hm : X.mg "len" = none) (ha : PE X a (TEm c W fa)) (hs : starEach (a :: []) X.env = (false, eval a X.env) :: starEach [] X.env) (hpl : (backTo pos (starEach [] X.env)).any (·.1) = false) : PE X (.Call (.Name "len" p) [a] [] pos) (TEm c W (eLen fa)) := by
  refine PE.weak (pe_callB (len_ok k) hg hm PySem.boot_len (pa_cons ha pa_nil hs) (by decide) (by decide) hs hpl) fun σ H Q ⟨G, r, E, P⟩ => ?_
  refine TEm.imp (fun v H1 ⟨x, G1, r1, s1, E1, hx, P1⟩ => ?_) (bindE E P)
  unfold len1 at P1
  cases q1 : viewR r1 x with
  | none => rw [q1] at P1; exact P1.elim
  | some d =>
    rw [q1] at P1
    dsimp only at P1
    cases q2 : lenD d with
    | none => rw [q2] at P1; exact P1.elim
    | some n => rw [q2] at P1; exact ⟨v, G1, d, n, rfl, E1.sub, E1.viewR hx q1, q2, P1 G1 H1 _ (Same.refl _) E1 (.int _)⟩

/-! ### isinstance(x, T) -/
inductive Ty where
  | int | bool | tuple | list | str
def Ty.nm : Ty → String
  | .int => "int"
  | .bool => "bool"
  | .tuple => "tuple"
  | .list => "list"
  | .str => "str"
def isiD : Ty → D → Option Bool
  | .int, .int _ => some true
  | .int, .bool _ => some true
  | .bool, .bool _ => some true
  | .tuple, .tuple _ => some true
  | .list, .list _ => some true
  | .str, .str _ => some true
  | _, .dict _ => none
  | _, _ => some false
def tyN : D → String
  | .none => "NoneType"
  | .bool _ => "bool"
  | .int _ => "int"
  | .str _ => "str"
  | .list _ => "list"
  | .tuple _ => "tuple"
  | .dict _ => "dict"
theorem isi_kit (t : Ty) (d : D) (b : Bool) (h : isiD t d = some b) : kitB (tyN d) t.nm = some b := by
  cases t <;> cases d <;> simp only [isiD, Option.some.injEq] at h <;> first | (subst h; simp only [tyN, Ty.nm]; decide +kernel) | cases h
theorem ty_of {K : PySem.W.Frag} {T : Ct} (hK : T.K = K) {G H : Hp} {v : V} {d : D} (sm : Same G H) (h : RlV T G H v d) (nd : ∀ kvs, d ≠ .dict kvs) : TyX K H v (.type (tyN d)) := by
  cases d with
  | none => rw [h.non]; exact .base .non
  | bool b => rw [h.bl]; exact .base (.bl b)
  | int b => rw [h.int]; exact .base (.int b)
  | str b => rw [h.str]; exact .base (.str b)
  | list ds =>
    obtain ⟨a, xs, ea, ha, _⟩ := h.items sm
    rw [ea]
    exact .base (.lst ha)
  | tuple ds =>
    obtain ⟨a, xs, ea, ha, _⟩ := h.itemsT sm
    rw [ea]
    rw [hK] at ha
    rcases ha with (ha | ⟨o, ha⟩) | ⟨o, its, n, hk, hc, _⟩
    · exact .base (.tup ha)
    · exact .fTuple ha
    · exact .kTuple hk hc
  | dict kvs => exact absurd rfl (nd kvs)
def isi1 (t : Ty) (x : Val) : M Val := fun r => match view r x with
  | some d => (match isiD t d with
    | some b => .ok (.d (.bool b)) r
    | none => .bad)
  | none => .bad
def eIsi (t : Ty) (fa : M Val) : M Val := mBind fa (isi1 t)
theorem boot_ty (t : Ty) : bootBuiltins (Str.ofString t.nm) = some (.type t.nm) := by cases t <;> decide +kernel
theorem pe_eIsi {t : Ty} {x : Str} {p p2 : Pos} (k : XOk c X) (hg : Gl X "isinstance") (hm : X.mg "isinstance" = none) (hx : x = Str.ofString t.nm) (hg2 : Gl X x) (hm2 : X.mg x = none) (ha : PE X a (TEm c W fa))
    (hs : starEach (a :: [.Name x p2]) X.env = (false, eval a X.env) :: starEach [.Name x p2] X.env) (hs2 : starEach (.Name x p2 :: []) X.env = (false, eval (.Name x p2) X.env) :: starEach [] X.env) (hpl : (backTo pos (starEach [.Name x p2] X.env)).any (·.1) = false) :
    PE X (.Call (.Name "isinstance" p) [a, .Name x p2] [] pos) (TEm c W (eIsi t fa)) := by
  subst hx
  have hn : (Str.ofString t.nm) ≠ ("__name__" : Str) := by cases t <;> decide +kernel
  have hd : ((Str.ofString t.nm) == ("__debug__" : Str)) = false := by cases t <;> decide +kernel
  refine PE.weak (pe_callB call_isi hg hm (by decide +kernel) (pa_cons ha (pa_cons (pe_bltn (v := .ty t.nm) hg2 hm2 (boot_ty t) rfl hn hd) pa_nil hs2) hs) (by decide) (by decide) hs hpl) fun σ H Q ⟨G, r, E, P⟩ => ?_
  refine TEm.imp (fun v H1 ⟨x, G1, r1, s1, E1, hx, P1⟩ => ?_) (bindE E P)
  unfold isi1 at P1
  cases q1 : view r1 x with
  | none => rw [q1] at P1; exact P1.elim
  | some d =>
    rw [q1] at P1
    dsimp only at P1
    cases q2 : isiD t d with
    | none => rw [q2] at P1; exact P1.elim
    | some b =>
      rw [q2] at P1
      refine ⟨v, .ty t.nm, .type (tyN d), .type t.nm, b, rfl, .ty _, ty_of k.K E1.sub (E1.view hx q1) (fun kvs z => ?_), kit_ty (isi_kit t d b q2), P1 G1 H1 _ (Same.refl _) E1 (.bl b)⟩
      subst z
      cases t <;> simp [isiD] at q2

/-! ### own lists -/
/-- x = [..], x's own -/
def sOwnL (i : Nat) (fs : M (List Val)) : M Fl := mBind fs fun xs => mBind (toDs xs) fun ds => if ds.length ≤ lim then (fun r => .ok .nx (r.set i (.own (.lst ds)))) else mBad
theorem bindAS {σ : L2.St} {G H : Hp} {f : M (List Val)} {k : List Val → M Fl} {r : Rho} {D : Ends} (E : EnvRel c G r σ H) (h : PostS c W G (mBind f k r) D) : TAm c W f σ H (fun vs H1 => ∃ xs G1 r1, Same G G1 ∧ EnvRel c G1 r1 σ H1 ∧ ValsRel c G1 σ xs vs ∧ PostS c W G1 (k xs r1) D) := by
  refine ⟨G, r, E, ?_⟩
  unfold mBind at h
  cases q : f r with
  | ok x r' => rw [q] at h; exact fun G1 H1 v s1 E1 V => ⟨x, G1, r', s1, E1, V, h.mono s1 (fun _ _ z => z) (fun _ _ z => z) (fun _ _ z => z) fun _ _ z => z⟩
  | exc x r' => rw [q] at h; exact fun G1 H1 cls d s1 E1 V => h G1 H1 σ cls d s1 E1 V
  | bad => rw [q] at h; exact h
theorem EnvRel.setNew {σ : L2.St} {G H : Hp} {r : Rho} (E : EnvRel c G r σ H) {i : Nat} {o : OB} {p : Addr} {ho : HO} (hip : i ∉ c.par) (hp : H p = none) (hr : ObRel c.T G (upd H p ho) p o) : EnvRel c G (r.set i (.own o)) (σ.set i (some (.ref p))) (upd H p ho) := by
  obtain ⟨g, h0, nb, no⟩ := E.new hp
  exact (E.grow (Step.raw E.sub hp)).setOwn hr g no h0 hip
theorem ps_sOwnL {i : Nat} {x : Str} {pos' p2 : Pos} {fs : M (List Val)} (hip : i ∉ c.par) (hN : X.N.Nodup) (hi : X.N[i]? = some x) (hx : Loc X.env.scope x) (h : PA X es (TAm c W fs)) (hs : swapsWith (.List es p2) (some (.Name x pos')) pos.line X.env = pure false) (hf : X.fn x = true ∨ X.env.scope.names.lookup x = some .local) :
    PS X (.Assign [.Name x pos'] (.List es p2) pos) (TSm c W (sOwnL i fs)) := by
  refine PS.weak (ps_set hN hi hx (pe_lst h) hs hf) fun D σ H ⟨G, r, E, P⟩ => ?_
  refine TAm.imp (fun vs H1 ⟨xs, G1, r1, s1, E1, hx, P1⟩ => ?_) (bindAS E P)
  unfold mBind at P1
  cases q : toDs xs r1 with
  | exc x r2 => exact absurd q toDs_noexc
  | bad => rw [q] at P1; exact P1.elim
  | ok ds r2 =>
    rw [q] at P1
    dsimp only at P1
    split at P1
    · rename_i hl
      obtain ⟨G2, s2, E2, hd⟩ := toDs_ok E1 hx q
      refine ⟨by rw [hd.len]; exact lim_le hl, fun p hp => ?_⟩
      exact P1 G2 _ _ s2 (E2.setNew hip hp ⟨vs, upd_same, hd⟩)
    · exact P1.elim
/-! ### methods of own lists -/
/-- slot i holds an own list; then f -/
def onL (i : Nat) (f : M Val) : M Val := fun r => match r[i]? with
  | some (.own (.lst _)) => f r
  | _ => .bad
theorem onL_ok {i : Nat} {f : M Val} {σ : L2.St} {G H : Hp} {r : Rho} {Q : VK} (hl : i < σ.length) (E : EnvRel c G r σ H) (P : PostE c W σ G (onL i f r) Q) : ∃ a xs, σ[i]? = some (some (.ref a)) ∧ H a = some (.lst xs) ∧ PostE c W σ G (f r) Q := by
  unfold onL at P
  split at P
  · rename_i ds q
    have hs : σ[i]? = some σ[i] := List.getElem?_eq_getElem hl
    obtain ⟨a, ea, g, xs, hx, _⟩ := E.slot i _ _ q hs
    exact ⟨a, xs, by rw [hs, ea], hx, P⟩
  · exact P.elim
theorem tyV_list {K : PySem.W.Frag} {H : Hp} {a : Addr} {xs : List V} (h : H a = some (.lst xs)) : tyV K "list" (.ref a) H := .inl ⟨rfl, _, SqL.of h⟩
/-- what a method call needs -/
structure MethOk (X : Cx) (o a : Expr) (name : Str) (apos cpos : Pos) : Prop where
  hbase : attributeBase o name X.env (eval o X.env) = eval o X.env
  hfew : ((backTo cpos (starEach [a] X.env)).all (fun x => !x.1) && (backToKw cpos (keywordEach [] X.env)).all (fun x => x.1.isSome) && decide ([a].length + ([] : List Keyword).length + (if ([] : List Keyword).isEmpty then 0 else 1) < 30)) = true
  hline : (apos.endLine == cpos.line) = true
  hs : starEach (a :: []) X.env = (false, eval a X.env) :: starEach [] X.env
  hpl : (backTo cpos (starEach [] X.env)).any (·.1) = false
def eApp (i : Nat) (fa : M Val) : M Val := onL i (mBind fa fun x => mBind (toD x) fun d => fun r => match r[i]? with
  | some (.own (.lst ds)) => if ds.length < lim then .ok (.d .none) (r.set i (.own (.lst (ds ++ [d])))) else .bad
  | _ => .bad)
theorem bindToE {σ : L2.St} {G H : Hp} {r : Rho} {x : Val} {v : V} {k : D → M Val} {Q : VK} (E : EnvRel c G r σ H) (hx : ValRel c G σ x v) (P : PostE c W σ G (mBind (toD x) k r) Q) : ∃ d G1 r1, Same G G1 ∧ EnvRel c G1 r1 σ H ∧ Rl c.T G1 v d ∧ PostE c W σ G1 (k d r1) Q := by
  unfold mBind at P
  cases q : toD x r with
  | ok d r' =>
    rw [q] at P
    obtain ⟨G1, s1, E1, hd⟩ := toD_ok E hx q
    exact ⟨d, G1, r', s1, E1, hd, P.mono s1 fun _ _ z => z⟩
  | exc x r' => exact absurd q toD_noexc
  | bad => rw [q] at P; exact P.elim
theorem pe_eApp {i : Nat} {x : Str} {p2 p3 p4 : Pos} (hN : X.N[i]? = some x) (hv : Vis X.env.scope x) (hd : (x == ("__debug__" : Str)) = false) (hcd : (x == ("__classdict__" : Str)) = false) (ha : PE X a (TEm c W fa)) (m : MethOk X (.Name x p4) a "append" p2 p3) :
    PE X (.Call (.Attribute (.Name x p4) "append" p2) [a] [] p3) (TEm c W (eApp i fa)) := by
  refine ⟨fun pins s σ H Q I h => ?_⟩
  refine (pe_bm PySem.F.plainAttrs_list PySem.F.slot_list_append PySem.F.type_list_append mt_append (pe_var (pos := p4) hN hv hd hcd) (pa_cons ha pa_nil m.hs) m.hbase m.hfew m.hline m.hs m.hpl).run pins s σ H Q I ?_
  obtain ⟨G, r, E, P⟩ := h
  have hil : i < σ.length := by rw [I.len]; exact (List.getElem?_eq_some_iff.mp hN).1
  obtain ⟨l, xs, hl, hx, P⟩ := onL_ok hil E P
  refine ⟨.ref l, hl, tyV_list hx, ?_⟩
  refine TEm.imp (fun v H1 ⟨y, G1, r1, s1, E1, hy, P1⟩ => ?_) (bindE E P)
  obtain ⟨d, G2, r2, s2, E2, hd, P2⟩ := bindToE E1 hy P1
  split at P2
  · rename_i ds q
    split at P2
    · rename_i hlen
      obtain ⟨b, eb, g, ⟨ys, hys, rys⟩, _⟩ := E2.own q hl
      cases eb
      refine ⟨l, ys, v, rfl, rfl, hys, by rw [rys.len]; exact lim_lt hlen, ?_⟩
      exact P2 G2 _ _ (Same.refl _) (E2.write q hl ⟨ys ++ [v], upd_same, rys.append (.cons hd .nil)⟩) .non
    · exact P2.elim
  · exact P2.elim
end
end CT

/-! CT10: list comprehensions. -/
namespace CT
open PySem PySem.Spec PyProof.Rows L2

/-! ### looking at one evaluation by itself -/
def ownA : Rho → L2.St → List Addr
  | .own _ :: r, some (.ref a) :: σ => a :: ownA r σ
  | _ :: r, _ :: σ => ownA r σ
  | _, _ => []
theorem mem_ownA : ∀ {r : Rho} {σ : L2.St} {a : Addr}, a ∈ ownA r σ ↔ ∃ (i : Nat) (o : OB), r[i]? = some (.own o) ∧ σ[i]? = some (some (.ref a))
  | [], σ, a => by
    constructor
    · intro h; cases σ <;> simp [ownA] at h
    · rintro ⟨i, o, h, _⟩; simp at h
  | s :: r, [], a => by
    constructor
    · intro h; cases s <;> simp [ownA] at h
    · rintro ⟨i, o, _, h⟩; simp at h
  | s :: r, v :: σ, a => by
    have ih := mem_ownA (r := r) (σ := σ) (a := a)
    have step : (∃ (i : Nat) (o : OB), (s :: r)[i]? = some (.own o) ∧ (v :: σ)[i]? = some (some (.ref a))) ↔ ((∃ o, s = .own o ∧ v = some (.ref a)) ∨ ∃ (i : Nat) (o : OB), r[i]? = some (.own o) ∧ σ[i]? = some (some (.ref a))) := by
      constructor
      · rintro ⟨i, o, h1, h2⟩
        cases i with
        | zero => simp at h1 h2; exact .inl ⟨o, h1, h2⟩
        | succ i => exact .inr ⟨i, o, by simpa using h1, by simpa using h2⟩
      · rintro (⟨o, rfl, rfl⟩ | ⟨i, o, h1, h2⟩)
        · exact ⟨0, o, rfl, rfl⟩
        · exact ⟨i + 1, o, by simpa using h1, by simpa using h2⟩
    rw [step, ← ih]
    cases s with
    | own o =>
      cases v with
      | none => exact ⟨fun h => .inr h, fun h => h.elim (fun ⟨_, _, z⟩ => nomatch z) fun h => h⟩
      | some v =>
        cases v with
        | ref b =>
          show a ∈ b :: ownA r σ ↔ _
          rw [List.mem_cons]
          constructor
          · rintro (rfl | h)
            · exact .inl ⟨o, rfl, rfl⟩
            · exact .inr h
          · rintro (⟨_, _, h⟩ | h)
            · cases h; exact .inl rfl
            · exact .inr h
        | _ => exact ⟨fun h => .inr h, fun h => h.elim (fun ⟨_, _, z⟩ => nomatch z) fun h => h⟩
    | _ => exact ⟨fun h => .inr h, fun h => h.elim (fun ⟨_, z, _⟩ => nomatch z) fun h => h⟩
def Gc.at (c : Gc) (G H : Hp) (r : Rho) (σ : L2.St) : Gc := ⟨c.T, G, H, ownA r σ, [], σ, c.ex⟩
section
variable {c : Gc} {G H G' H' : Hp} {r r' : Rho} {σ : L2.St}
theorem EnvRel.atIn (E : EnvRel c G r σ H) : EnvRel (c.at G H r σ) G r σ H :=
  ⟨E.len, E.sub, E.slot, E.uniq, fun _ _ h _ => h, fun i o a h1 h2 => .inl (mem_ownA.mpr ⟨i, o, h1, h2⟩), fun a h => by
    obtain ⟨i, o, h1, h2⟩ := mem_ownA.mp h
    obtain ⟨b, eb, g, ob, _⟩ := E.own h1 h2
    cases eb
    exact ob.there, fun _ _ _ => rfl, fun _ h => nomatch h⟩
theorem EnvRel.atOut (E : EnvRel c G r σ H) (E' : EnvRel (c.at G H r σ) G' r' σ H') : EnvRel c G' r' σ H' := by
  have own : ∀ a, a ∈ ownA r σ → a ∈ c.B ∨ c.H0 a = none := fun a h => by
    obtain ⟨i, o, h1, h2⟩ := mem_ownA.mp h
    exact E.fresh i o a h1 h2
  have there : ∀ a, c.H0 a ≠ none → a ∉ c.B → H a ≠ none := fun a h0 hb => by
    cases q : c.H0 a with
    | none => exact absurd q h0
    | some o => rw [E.frame a o q hb]; exact fun z => nomatch z
  have no : ∀ a, c.H0 a ≠ none → a ∉ c.B → a ∉ ownA r σ := fun a h0 hb h => by
    rcases own a h with f | f
    · exact hb f
    · exact h0 f
  refine ⟨E'.len, E'.sub, E'.slot, E'.uniq, fun a o h0 hb => ?_, fun i o a h1 h2 => ?_, fun a ha => ?_, fun a h0 hb => ?_, E.par⟩
  · exact E'.frame a o (E.frame a o h0 hb) (no a (by rw [h0]; exact fun z => nomatch z) hb)
  · rcases E'.fresh i o a h1 h2 with f | f
    · exact own a f
    · by_cases hb : a ∈ c.B
      · exact .inl hb
      · refine .inr ?_
        cases q : c.H0 a with
        | none => rfl
        | some u => exact absurd f (there a (by rw [q]; exact fun z => nomatch z) hb)
  · by_cases h : a ∈ ownA r σ
    · exact E'.bor a h
    · cases q : H a with
      | none => exact absurd q (E.bor a ha)
      | some o => rw [E'.frame a o q h]; exact fun z => nomatch z
  · rw [← E.gold a h0 hb]
    exact E'.gold a (there a h0 hb) (no a h0 hb)
/-- an object that no slot owns is frozen -/
theorem EnvRel.adopt (E : EnvRel c G r σ H) {p : Addr} {ho : HO} (hp : H p = some ho) (hg : G p = none) (hno : p ∉ ownA r σ) (h0 : c.H0 p = none) : EnvRel c (upd G p ho) r σ H := by
  have sm : Same G (upd G p ho) := same_new hg
  refine ⟨E.len, fun b x hb => ?_, fun i s v h1 h2 => ?_, E.uniq, E.frame, E.fresh, E.bor, fun a ha hb => ?_, E.par⟩
  · by_cases e : b = p
    · subst e; rw [upd_same] at hb; cases hb; exact hp
    · rw [upd_ne e] at hb; exact E.sub b x hb
  · have := E.slot i s v h1 h2
    cases s with
    | no => trivial
    | d x => obtain ⟨u, e, q⟩ := this; exact ⟨u, e, Rl.mono sm _ _ q⟩
    | own o =>
      obtain ⟨a, e, g, ob⟩ := this
      have : a ≠ p := fun z => hno (mem_ownA.mpr ⟨i, o, h1, by rw [h2, e, z]⟩)
      exact ⟨a, e, by rw [upd_ne this]; exact g, ob.grow sm fun x hx => hx⟩
    | exn x => exact this
    | scr ns => obtain ⟨a, e, q⟩ := this; exact ⟨a, e, sqL_mono sm q⟩
  · have : a ≠ p := fun z => ha (by rw [z]; exact h0)
    rw [upd_ne this]
    exact E.gold a ha hb
/-- an object that no slot owns, not frozen, is written -/
theorem EnvRel.poke (E : EnvRel c G r σ H) {p : Addr} {ho : HO} (hg : G p = none) (hno : p ∉ ownA r σ) (h0 : c.H0 p = none) (hb : p ∉ c.B) : EnvRel c G r σ (upd H p ho) := by
  refine ⟨E.len, fun b x h => ?_, fun i s v h1 h2 => ?_, E.uniq, fun a o h h' => ?_, E.fresh, fun a ha => ?_, E.gold, E.par⟩
  · have : b ≠ p := fun z => by rw [z, hg] at h; cases h
    rw [upd_ne this]; exact E.sub b x h
  · have := E.slot i s v h1 h2
    cases s with
    | no => trivial
    | d x => exact this
    | own o =>
      obtain ⟨a, e, g, ob⟩ := this
      have : a ≠ p := fun z => hno (mem_ownA.mpr ⟨i, o, h1, by rw [h2, e, z]⟩)
      exact ⟨a, e, g, ob.grow (Same.refl _) fun x hx => by rw [upd_ne this]; exact hx⟩
    | exn x => exact this
    | scr ns => exact this
  · have : a ≠ p := fun z => by rw [z, h0] at h; cases h
    rw [upd_ne this]; exact E.frame a o h h'
  · have : a ≠ p := fun z => hb (by rw [← z]; exact ha)
    rw [upd_ne this]; exact E.bor a ha

/-! ### the block's own names -/
def wipeR (r : Rho) : List Nat → Rho
  | [] => r
  | v :: vs => (wipeR r vs).set v .no
theorem EnvRel.wipe (E : EnvRel c G r σ H) : ∀ {vs : List Nat}, (∀ v ∈ vs, v ∉ c.par) → EnvRel c G (wipeR r vs) (L2.wipe σ vs) H
  | [], _ => E
  | v :: vs, h => (EnvRel.wipe E fun u hu => h u (List.mem_cons_of_mem _ hu)).forget (h v List.mem_cons_self)
theorem wipe_get (σ : L2.St) (i : Nat) : ∀ vs : List Nat, (L2.wipe σ vs)[i]? = if i ∈ vs then (σ[i]?).map fun _ => none else σ[i]?
  | [] => by simp [L2.wipe]
  | v :: vs => by
    have ih := wipe_get σ i vs
    simp only [L2.wipe]
    by_cases hv : v = i
    · subst hv
      rw [if_pos List.mem_cons_self]
      by_cases hl : v < (L2.wipe σ vs).length
      · rw [List.getElem?_set_self hl]
        rw [wipe_length] at hl
        rw [List.getElem?_eq_getElem hl]
        rfl
      · rw [List.getElem?_eq_none (by simpa using hl)]
        rw [wipe_length] at hl
        rw [List.getElem?_eq_none (by omega)]
        rfl
    · rw [List.getElem?_set_ne hv, ih]
      have : (i ∈ v :: vs) ↔ i ∈ vs := by
        rw [List.mem_cons]
        exact ⟨fun h => h.elim (fun z => absurd z.symm hv) fun h => h, .inr⟩
      simp only [this]
theorem wipe_ext {σ τ : L2.St} {vs : List Nat} (hl : σ.length = τ.length) (h : ∀ i, i ∉ vs → σ[i]? = τ[i]?) : L2.wipe σ vs = L2.wipe τ vs := by
  apply List.ext_getElem?
  intro i
  rw [wipe_get, wipe_get]
  by_cases hi : i ∈ vs
  · rw [if_pos hi, if_pos hi]
    by_cases hlt : i < σ.length
    · rw [List.getElem?_eq_getElem hlt, List.getElem?_eq_getElem (by omega : i < τ.length)]; rfl
    · rw [List.getElem?_eq_none (by omega), List.getElem?_eq_none (by omega)]
  · rw [if_neg hi, if_neg hi, h i hi]
theorem wipe_set {σ : L2.St} {vs : List Nat} {j : Nat} {v : Option V} (h : j ∈ vs) : L2.wipe (σ.set j v) vs = L2.wipe σ vs :=
  wipe_ext (by simp) fun i hi => List.getElem?_set_ne fun z => hi (by rw [← z]; exact h)
theorem wipe_wipe {σ : L2.St} {vs : List Nat} : L2.wipe (L2.wipe σ vs) vs = L2.wipe σ vs :=
  wipe_ext (wipe_length _ _) fun i hi => by rw [wipe_get, if_neg hi]
/-- the slots as they were, where the block had its own names -/
def keepD : Slot → Slot
  | .d x => .d x
  | .scr ns => .scr ns
  | _ => .no
def restore (r r' : Rho) (vs : List Nat) : Rho := r'.mapIdx fun i s => if vs.contains i then keepD (r.getD i .no) else s
theorem EnvRel.restore {vs : List Nat} (E : EnvRel c G r σ H) (E' : EnvRel c G' r' (L2.wipe σ vs) H') (sg : Same G G') : EnvRel c G' (CT.restore r r' vs) σ H' := by
  have hl : r'.length = σ.length := by rw [E'.len, wipe_length]
  have at_ : ∀ {i : Nat} {s : Slot}, (CT.restore r r' vs)[i]? = some s → (i ∈ vs ∧ s = keepD (r.getD i .no)) ∨ (i ∉ vs ∧ r'[i]? = some s) := fun {i s} h => by
    unfold CT.restore at h
    rw [List.getElem?_mapIdx] at h
    cases q : r'[i]? with
    | none => rw [q] at h; cases h
    | some s' =>
      rw [q] at h
      have h' := Option.some.inj h
      dsimp only at h'
      by_cases hi : i ∈ vs
      · rw [if_pos (by simpa using hi)] at h'
        exact .inl ⟨hi, h'.symm⟩
      · rw [if_neg (by simpa using hi)] at h'
        exact .inr ⟨hi, by rw [h']⟩
  have ownAt : ∀ {i : Nat} {o : OB}, (CT.restore r r' vs)[i]? = some (.own o) → i ∉ vs ∧ r'[i]? = some (.own o) := fun {i o} h => by
    rcases at_ h with ⟨_, e⟩ | q
    · cases q : r.getD i .no <;> rw [q] at e <;> cases e
    · exact q
  have sg' : ∀ {i : Nat}, i ∉ vs → (L2.wipe σ vs)[i]? = σ[i]? := fun {i} hi => by rw [wipe_get, if_neg hi]
  refine ⟨by unfold CT.restore; rw [List.length_mapIdx, hl], E'.sub, fun i s v h1 h2 => ?_, fun i j o o' a h1 h2 h3 h4 => ?_, E'.frame, fun i o a h1 h2 => ?_, E'.bor, E'.gold, E.par⟩
  · rcases at_ h1 with ⟨hi, e⟩ | ⟨hi, q⟩
    · cases qr : r[i]? with
      | none =>
        rw [List.getD_eq_getElem?_getD, qr] at e
        rw [e]; trivial
      | some s0 =>
        rw [List.getD_eq_getElem?_getD, qr] at e
        have z := E.slot i s0 v qr h2
        cases s0 with
        | d x => rw [e]; obtain ⟨u, eu, ru⟩ := z; exact ⟨u, eu, Rl.mono sg _ _ ru⟩
        | scr ns => rw [e]; obtain ⟨a, ea, q⟩ := z; exact ⟨a, ea, sqL_mono sg q⟩
        | no => rw [e]; trivial
        | own _ => rw [e]; trivial
        | exn _ => rw [e]; trivial
    · exact E'.slot i s v q (by rw [sg' hi]; exact h2)
  · obtain ⟨n1, q1⟩ := ownAt h1
    obtain ⟨n2, q2⟩ := ownAt h2
    exact E'.uniq i j o o' a q1 q2 (by rw [sg' n1]; exact h3) (by rw [sg' n2]; exact h4)
  · obtain ⟨n1, q1⟩ := ownAt h1
    exact E'.fresh i o a q1 (by rw [sg' n1]; exact h2)
end

/-! ### targets of a comprehension -/
inductive Tgt where
  | nm (j : Nat)
  | pr (j k : Nat)
def Tgt.slots : Tgt → List Nat
  | .nm j => [j]
  | .pr j k => [j, k]
def tgS : Tgt → D → M Unit
  | .nm j => gNm j
  | .pr j k => gTp [j, k]
def tgT (K : PySem.W.Frag) : Tgt → TG
  | .nm j => gName j
  | .pr j k => gTup K 2 (gCons (gName j) (gCons (gName k) gNil))
section
variable {c : Gc} {G H : Hp} {r r1 : Rho} {τ : L2.St}
theorem tg_ok {K : PySem.W.Frag} (hK : c.T.K = K) {tg : Tgt} {x : V} {d : D} {u : Unit} {Q : L2.St → Hp → Prop} (E : EnvRel c G r τ H) (hx : Rl c.T G x d) (e : tgS tg d r = .ok u r1) (hp : ∀ j ∈ tg.slots, j ∉ c.par)
    (h : ∀ σ2, EnvRel c G r1 σ2 H → (∀ vs, (∀ j ∈ tg.slots, j ∈ vs) → L2.wipe σ2 vs = L2.wipe τ vs) → Q σ2 H) : tgT K tg x τ H Q := by
  cases tg with
  | nm j =>
    cases e
    exact h _ (E.set (hp j List.mem_cons_self) hx) fun vs hv => wipe_set (hv j List.mem_cons_self)
  | pr j k =>
    simp only [tgS, gTp] at e
    cases d with
    | tuple ds =>
      dsimp only at e
      split at e
      · rename_i hl
        cases hx with
        | tup h1 h2 =>
          cases h2 with
          | nil => simp at hl
          | cons a1 t1 =>
            cases t1 with
            | nil => simp at hl
            | cons a2 t2 =>
              cases t2 with
              | cons _ _ => simp at hl
              | nil =>
                cases e
                refine ⟨_, _, rfl, by rw [← hK]; exact sqT_mono E.sub h1, rfl, _, _, rfl, _, _, rfl, rfl, ?_⟩
                refine h _ ((E.set (hp j List.mem_cons_self) a1).set (hp k (List.mem_cons_of_mem _ List.mem_cons_self)) a2) fun vs hv => ?_
                rw [wipe_set (hv k (List.mem_cons_of_mem _ List.mem_cons_self)), wipe_set (hv j List.mem_cons_self)]
      · cases e
    | _ => cases e
end

theorem tgS_own (tg : Tgt) (d : D) (r0 r1 : Rho) (u : Unit) (he : tgS tg d r0 = .ok u r1) (j : Nat) (o : OB) (hj : r1[j]? = some (.own o)) : r0[j]? = some (.own o) := by
  have one : ∀ {r0 : Rho} {k : Nat} {x : D}, (r0.set k (.d x))[j]? = some (.own o) → r0[j]? = some (.own o) := fun {r0 k x} hj => by
    by_cases hk : k = j
    · subst hk
      by_cases hl : k < r0.length
      · rw [List.getElem?_set_self hl] at hj; cases hj
      · rw [List.getElem?_eq_none (by simpa using hl)] at hj; cases hj
    · rw [List.getElem?_set_ne hk] at hj; exact hj
  cases tg with
  | nm k => cases he; exact one hj
  | pr k l =>
    simp only [tgS, gTp] at he
    cases d with
    | tuple ds =>
      dsimp only at he
      split at he
      · match ds, he with
        | [a, b], he => cases he; exact one (one hj)
      · cases he
    | _ => cases he
theorem lim_lt' {n : Nat} (h : n < lim + 1) : n < sizeLine := Nat.lt_of_lt_of_le h (by rw [sizeLine_eq]; decide)
/-! ### the loop -/
def eD (e : M Val) : M D := mBind e toD
def lcGo (vs : List Nat) (tg : Tgt) (t : M Bool) (e : M Val) : List D → Rho → Option (List D × Rho)
  | [], r => some ([], r)
  | d :: ds, r => match tgS tg d r with
    | .ok _ r1 => (match t r1 with
      | .ok true r2 => (match eD e r2 with
        | .ok y r3 => (lcGo vs tg t e ds (wipeR r3 vs)).map fun p => (y :: p.1, p.2)
        | _ => none)
      | .ok false r2 => lcGo vs tg t e ds (wipeR r2 vs)
      | _ => none)
    | _ => none
def eLc (fi : M (List D)) (vs : List Nat) (tg : Tgt) (t : M Bool) (e : M Val) : M Val := mBind fi fun items => fun r => match lcGo vs tg t e items (wipeR r vs) with
  | some (ys, r') => if ys.length ≤ lim then .ok (.d (.list ys)) (restore r r' vs) else .bad
  | none => .bad
abbrev W0 : WX := fun _ _ _ _ => False
section
variable {c : Gc} {W : WX} {X : Cx}
theorem bindIE {σ : L2.St} {G H : Hp} {fi : M (List D)} {k : List D → M Val} {r : Rho} {Q : VK} (E : EnvRel c G r σ H) (h : PostE c W σ G (mBind fi k r) Q) : TIm c W fi σ H (fun J H1 => ∃ items G1 r1, Same G G1 ∧ EnvRel c G1 r1 σ H1 ∧ ItOk c.T J items G1 ∧ PostE c W σ G1 (k items r1) Q) := by
  refine ⟨G, r, E, ?_⟩
  unfold mBind at h
  cases q : fi r with
  | ok x r' => rw [q] at h; exact fun G1 H1 v s1 E1 V => ⟨x, G1, r', s1, E1, V, h.mono s1 fun _ _ z => z⟩
  | exc x r' => rw [q] at h; exact h
  | bad => rw [q] at h; exact h
/-- one evaluation within, seen by itself: what no slot owns stays -/
theorem lc_ok {J : It} {items : List D} {vs : List Nat} {tg : Tgt} {t : M Bool} {e : M Val} {σ : L2.St} {G H : Hp} {r : Rho} {Q : VK} (x : XOk c X) (hJ : ItOk c.T J items G) (E : EnvRel c G r σ H) (hvp : ∀ v ∈ vs, v ∉ c.par) (htg : ∀ j ∈ tg.slots, j ∈ vs)
    (P : PostE c W σ G (match lcGo vs tg t e items (wipeR r vs) with | some (ys, r') => if ys.length ≤ lim then .ok (.d (.list ys)) (restore r r' vs) else .bad | none => .bad) Q)
    (tt : TT) (te : TE) (htt : ∀ c' : Gc, c'.T = c.T → (c'.ex = c.ex ∧ c'.par = []) → ∀ σ H Q, TTm c' W0 t σ H Q → tt σ H Q) (hte : ∀ c' : Gc, c'.T = c.T → (c'.ex = c.ex ∧ c'.par = []) → ∀ σ H Q, TEm c' W0 e σ H Q → te σ H Q) :
    ∀ D, H D = none → ∃ W : Nat → Nat → Hp → Prop, (∃ m, W 0 m (upd H D (.lst []))) ∧ ∀ i m H, W i m H →
      (J.stop i H ∧ Q (.ref D) H) ∨ (J.go i H ∧ ∃ Nx : Hp → Prop, (∀ H', Nx H' → ∃ m', m' < m ∧ W (i + 1) m' H') ∧ ∀ x H', J.yld i H x H' → tgT X.K tg x (L2.wipe σ vs) H' fun σ2 H2 => L2.wipe σ2 vs = L2.wipe σ vs ∧ tt σ2 H2 fun b H3 =>
        if b = true then te σ2 H3 fun y H4 => ∃ acc, H4 D = some (.lst acc) ∧ acc.length < sizeLine ∧ Nx (upd H4 D (.lst (acc ++ [y]))) else Nx H3) := by
  intro A hA
  cases hgo : lcGo vs tg t e items (wipeR r vs) with
  | none => rw [hgo] at P; exact P.elim
  | some p =>
    obtain ⟨ys, rE⟩ := p
    rw [hgo] at P
    dsimp only at P
    by_cases hlen : ys.length ≤ lim
    rotate_left
    · rw [if_neg hlen] at P; exact P.elim
    rw [if_pos hlen] at P
    obtain ⟨gA, h0A, nbA, noA⟩ := E.new hA
    have Ew : EnvRel c G (wipeR r vs) (L2.wipe σ vs) H := E.wipe hvp
    have noAw : A ∉ ownA (wipeR r vs) (L2.wipe σ vs) := fun z => by
      obtain ⟨i, o, h1, h2⟩ := mem_ownA.mp z
      obtain ⟨b, eb, _, ob, _⟩ := Ew.own h1 h2
      cases eb
      exact ob.there hA
    -- the word
    let Word : Nat → Hp → Prop := fun i Hi => ∃ Gi ri acc dacc ysr, Same G Gi ∧ EnvRel c Gi ri (L2.wipe σ vs) Hi ∧ Hi A = some (.lst acc) ∧ Gi A = none ∧ A ∉ ownA ri (L2.wipe σ vs) ∧ RlAll c.T Gi acc dacc ∧ lcGo vs tg t e (items.drop i) ri = some (ysr, rE) ∧ ys = dacc ++ ysr
    refine ⟨fun i m Hi => m = items.length - i ∧ i ≤ items.length ∧ Word i Hi, ⟨items.length, by simp, Nat.zero_le _, G, wipeR r vs, [], [], ys, Same.refl _, ?_, upd_same, gA, noAw, .nil, hgo, rfl⟩, ?_⟩
    · exact Ew.poke gA noAw h0A nbA
    rintro i m Hi ⟨rfl, hi, Gi, ri, acc, dacc, ysr, sg, Ei, hacc, gi, noi, racc, go, eys⟩
    by_cases hlt : i < items.length
    · have ed : items[i]? = some items[i] := List.getElem?_eq_getElem hlt
      refine .inr ⟨hJ.go i Hi _ (sg.trans Ei.sub) ed, fun H' => Word (i + 1) H', fun H' w => ⟨items.length - (i + 1), by omega, rfl, hlt, w⟩, fun x0 H' y => ?_⟩
      obtain ⟨G2, st, hx⟩ := hJ.yld i Gi Hi x0 H' _ sg Ei.sub ed y
      have E2 := Ei.grow st
      have hacc2 : H' A = some (.lst acc) := st.hh _ _ hacc
      have g2 : G2 A = none := by rw [st.old A (by rw [hacc]; exact fun z => nomatch z)]; exact gi
      have racc2 := RlAll.mono st.gg _ _ racc
      rw [List.drop_eq_getElem_cons hlt] at go
      simp only [lcGo] at go
      cases qt : tgS tg items[i] ri with
      | exc _ _ => rw [qt] at go; cases go
      | bad => rw [qt] at go; cases go
      | ok u r1 =>
        rw [qt] at go
        dsimp only at go
        refine tg_ok x.K E2 hx qt (fun j hj => hvp j (htg j hj)) fun σ2 E3 hw => ?_
        have hw2 : L2.wipe σ2 vs = L2.wipe σ vs := by rw [hw vs htg, wipe_wipe]
        -- own slots of r1 at σ2 are not at A
        have no3 : A ∉ ownA r1 σ2 := fun z => by
          obtain ⟨j, o, h1, h2⟩ := mem_ownA.mp z
          obtain ⟨b, eb, gb, ob, fr⟩ := E3.own h1 h2
          cases eb
          rcases fr with f | f
          · exact nbA f
          · -- an own slot that stands at A: it must be one of ri's
            by_cases hj : j ∈ vs
            · -- a target's slot holds data
              have old := tgS_own tg _ _ _ _ qt j o h1
              have hjl : j < (L2.wipe σ vs).length := by rw [← E2.len]; exact (List.getElem?_eq_some_iff.mp old).1
              obtain ⟨b2, eb2, _⟩ := E2.slot j _ _ old (List.getElem?_eq_getElem hjl)
              have : (L2.wipe σ vs)[j]? = (σ[j]?).map fun _ => none := by rw [wipe_get, if_pos hj]
              rw [List.getElem?_eq_getElem hjl, eb2] at this
              cases q : σ[j]? <;> rw [q] at this <;> cases this
            · have e1 : σ2[j]? = (L2.wipe σ vs)[j]? := by
                have a1 : (L2.wipe σ2 vs)[j]? = σ2[j]? := by rw [wipe_get, if_neg hj]
                rw [← a1, hw2]
              have old : ri[j]? = some (.own o) := tgS_own tg _ _ _ _ qt j o h1
              exact noi (mem_ownA.mpr ⟨j, o, old, by rw [← e1]; exact h2⟩)
        refine ⟨hw2, ?_⟩
        -- the test
        refine htt (c.at G2 H' r1 σ2) rfl ⟨rfl, rfl⟩ σ2 H' _ ⟨G2, r1, E3.atIn, ?_⟩
        have stay : ∀ {G4 H4 : Hp} {r4 : Rho}, EnvRel (c.at G2 H' r1 σ2) G4 r4 σ2 H4 → H4 A = some (.lst acc) ∧ G4 A = none ∧ A ∉ ownA r4 σ2 := fun {G4 H4 r4} E4 => by
          refine ⟨E4.frame A _ hacc2 no3, ?_, fun z => ?_⟩
          · rw [E4.gold A (by show H' A ≠ none; rw [hacc2]; exact fun z => nomatch z) no3]; exact g2
          · obtain ⟨j, o, h1, h2⟩ := mem_ownA.mp z
            rcases E4.fresh j o A h1 h2 with f | f
            · exact no3 f
            · have : H' A = none := f
              rw [hacc2] at this; cases this
        have wiped : ∀ {G4 H4 : Hp} {r4 : Rho}, EnvRel c G4 r4 σ2 H4 → A ∉ ownA r4 σ2 → EnvRel c G4 (wipeR r4 vs) (L2.wipe σ vs) H4 ∧ A ∉ ownA (wipeR r4 vs) (L2.wipe σ vs) := fun {G4 H4 r4} E4 no4 => by
          have Z := E4.wipe hvp
          rw [hw2] at Z
          refine ⟨Z, fun z => ?_⟩
          obtain ⟨j, o, h1, h2⟩ := mem_ownA.mp z
          have : ∀ (vs : List Nat) (j : Nat) (o : OB), (wipeR r4 vs)[j]? = some (.own o) → r4[j]? = some (.own o) ∧ j ∉ vs := by
            intro vs
            induction vs with
            | nil => intro j o h; exact ⟨h, by simp⟩
            | cons v vs ih =>
              intro j o h
              simp only [wipeR] at h
              by_cases hv : v = j
              · subst hv
                by_cases hl : v < (wipeR r4 vs).length
                · rw [List.getElem?_set_self hl] at h; cases h
                · rw [List.getElem?_eq_none (by simpa using hl)] at h; cases h
              · rw [List.getElem?_set_ne hv] at h
                obtain ⟨h3, h4⟩ := ih j o h
                exact ⟨h3, fun z => (List.mem_cons.mp z).elim (fun z => hv z.symm) h4⟩
          obtain ⟨h3, h4⟩ := this vs j o h1
          refine no4 (mem_ownA.mpr ⟨j, o, h3, ?_⟩)
          have a1 : (L2.wipe σ2 vs)[j]? = σ2[j]? := by rw [wipe_get, if_neg h4]
          rw [← a1, hw2]; exact h2
        cases q2 : t r1 with
        | bad => rw [q2] at go; cases go
        | exc _ _ => rw [q2] at go; cases go
        | ok b r2 =>
          rw [q2] at go
          intro G4 H4 s4 E4
          obtain ⟨hacc4, g4, no4⟩ := stay E4
          have E4c := E3.atOut E4
          have racc4 := RlAll.mono s4 _ _ racc2
          cases b with
          | false =>
            rw [if_neg Bool.false_ne_true]
            obtain ⟨Z, nz⟩ := wiped E4c no4
            exact ⟨G4, wipeR r2 vs, acc, dacc, ysr, sg.trans (st.gg.trans s4), Z, hacc4, g4, nz, racc4, go, eys⟩
          | true =>
            rw [if_pos rfl]
            dsimp only at go
            -- the element
            refine hte (c.at G4 H4 r2 σ2) rfl ⟨rfl, rfl⟩ σ2 H4 _ ⟨G4, r2, E4c.atIn, ?_⟩
            cases q3 : e r2 with
            | bad => simp only [eD, mBind, q3] at go; cases go
            | exc _ _ => simp only [eD, mBind, q3] at go; cases go
            | ok w r3 =>
              intro G5 H5 v s5 E5 hv
              cases q4 : toD w r3 with
              | bad => simp only [eD, mBind, q3, q4] at go; cases go
              | exc _ _ => exact absurd q4 toD_noexc
              | ok yd r4 =>
                simp only [eD, mBind, q3, q4] at go
                rw [Option.map_eq_some_iff] at go
                obtain ⟨⟨ysr', rE'⟩, go', eg⟩ := go
                cases eg
                have hacc5 : H5 A = some (.lst acc) := E5.frame A _ hacc4 no4
                have g5 : G5 A = none := by rw [E5.gold A (by show H4 A ≠ none; rw [hacc4]; exact fun z => nomatch z) no4]; exact g4
                obtain ⟨G6, s6, E6, hyd⟩ := toD_ok E5 hv q4
                have no6 : A ∉ ownA r4 σ2 := fun z => by
                  obtain ⟨j, o, h1, h2⟩ := mem_ownA.mp z
                  rcases E6.fresh j o A h1 h2 with f | f
                  · exact no4 f
                  · have : H4 A = none := f
                    rw [hacc4] at this; cases this
                have g6 : G6 A = none := by rw [E6.gold A (by show H4 A ≠ none; rw [hacc4]; exact fun z => nomatch z) no4]; exact g4
                have E6c := E4c.atOut E6
                obtain ⟨Z, nz⟩ := wiped E6c no6
                have racc6 := RlAll.mono s6 _ _ (RlAll.mono s5 _ _ racc4)
                have hl : acc.length < lim + 1 := by
                  have := racc.len
                  have e2 : ys.length = dacc.length + (yd :: ysr').length := by rw [eys, List.length_append]
                  simp only [List.length_cons] at e2
                  omega
                refine ⟨acc, hacc5, lim_lt' hl, G6, wipeR r4 vs, acc ++ [v], dacc ++ [yd], ysr', sg.trans (st.gg.trans (s4.trans (s5.trans s6))), Z.poke g6 nz h0A nbA, upd_same, g6, nz, racc6.append (.cons hyd .nil), go', ?_⟩
                rw [eys, List.append_assoc]; rfl
    · have ei : i = items.length := by omega
      subst ei
      rw [List.drop_length] at go
      cases go
      rw [List.append_nil] at eys
      subst eys
      refine .inl ⟨hJ.stop _ Hi (sg.trans Ei.sub) (Nat.le_refl _), ?_⟩
      have Z := Ei.adopt hacc gi noi h0A
      have sm : Same Gi (upd Gi A (.lst acc)) := same_new gi
      exact P (upd Gi A (.lst acc)) Hi (.ref A) (sg.trans sm) (E.restore Z (sg.trans sm)) (.lst upd_same (RlAll.mono sm _ _ racc))
end
end CT

/-! CT11: comprehensions as expressions; raise, try; tuple targets. -/
namespace CT
open PySem PySem.Spec PyProof.Rows L2

section
variable {c : Gc} {W : WX} {X : Cx} {a b e : Expr} {es : List Expr} {fa fb fc : M Val} {ta tb : M Bool} {pos : Pos} {st : Stmt} {rest body orelse : List Stmt} {f g : M Fl}
/-! ### [e for t in it if c] -/
def exTT (c : Gc) (t : M Bool) : TT := fun σ H Q => ∃ c' : Gc, c'.T = c.T ∧ (c'.ex = c.ex ∧ c'.par = []) ∧ TTm c' W0 t σ H Q
def exTE (c : Gc) (f : M Val) : TE := fun σ H Q => ∃ c' : Gc, c'.T = c.T ∧ (c'.ex = c.ex ∧ c'.par = []) ∧ TEm c' W0 f σ H Q
theorem pts_ex {X : Cx} {ifs : List Expr} {t : M Bool} (h : ∀ c' : Gc, c'.T = c.T → (c'.ex = c.ex ∧ c'.par = []) → PTs X ifs (TTm c' W0 t)) : PTs X ifs (exTT c t) := ⟨fun pins s σ H Q I ⟨c', h1, h2, z⟩ => (h c' h1 h2).run pins s σ H Q I z⟩
theorem pe_ex {X : Cx} {e : Expr} {f : M Val} (h : ∀ c' : Gc, c'.T = c.T → (c'.ex = c.ex ∧ c'.par = []) → PE X e (TEm c' W0 f)) : PE X e (exTE c f) := ⟨fun pins s σ H Q I ⟨c', h1, h2, z⟩ => (h c' h1 h2).run pins s σ H Q I z⟩
theorem pts_tYes {X : Cx} {c' : Gc} : PTs X [] (TTm c' W0 (mPure true)) := ⟨fun pins s σ H Q I ⟨G, r, E, P⟩ => pts_nil.run pins s σ H Q I (P G H (Same.refl _) E)⟩
theorem pts_tOne {X : Cx} {c' : Gc} {d : Expr} {t : M Bool} (h : PT X d (TTm c' W0 t)) : PTs X [d] (TTm c' W0 t) := pts_one h
theorem pe_eLc {elt tgE iter : Expr} {ifs : List Expr} {scope : Scope} {own : List (Str × Nat)} {fi : M (List D)} {tg : Tgt} {t : M Bool} {fe : M Val} (x : XOk c X) (hc : X.calm = true) (hN : X.N.Nodup) (hi : PI X tgE iter (TIm c W fi)) (ok : BlkOk X.N X.env.scope scope own)
    (hvp : ∀ v ∈ own.map (·.2), v ∉ c.par) (htg : ∀ j ∈ tg.slots, j ∈ own.map (·.2))
    (hg : ∀ (s : Shared) (H : Hp) (C : Addr) (cl : List (Str × Addr)) (fp : List Addr), PG (X.blk s H scope (compEnvC scope cl C X.env) fp) tgE (tgT X.K tg))
    (ht : ∀ (s : Shared) (H : Hp) (C : Addr) (cl : List (Str × Addr)) (fp : List Addr) (c' : Gc), c'.T = c.T → (c'.ex = c.ex ∧ c'.par = []) → PTs (X.blk s H scope (compEnvC scope cl C X.env) fp) ifs (TTm c' W0 t))
    (he : ∀ (s : Shared) (H : Hp) (C : Addr) (cl : List (Str × Addr)) (fp : List Addr) (c' : Gc), c'.T = c.T → (c'.ex = c.ex ∧ c'.par = []) → PE (X.blk s H scope (compEnvC scope cl C X.env) fp) elt (TEm c' W0 fe)) (hs : ∀ x, foldedSetIterable iter X.env x = pure x) :
    PE X (.ListComp elt [⟨tgE, iter, ifs, 0⟩] scope pos) (TEm c W (eLc fi (own.map (·.2)) tg t fe)) := by
  refine PE.weak (pe_lc hc hN hi ok hg (fun s H C cl fp => pts_ex (c := c) (ht s H C cl fp)) (fun s H C cl fp => pe_ex (c := c) (he s H C cl fp)) hs) fun σ H Q ⟨G, r, E, P⟩ => ?_
  refine TIm.imp (fun J H1 ⟨items, G1, r1, s1, E1, hJ, P1⟩ => ?_) (bindIE E P)
  exact lc_ok x hJ E1 hvp htg P1 (exTT c t) (exTE c fe) (fun c' h1 h2 σ H Q z => ⟨c', h1, h2, z⟩) fun c' h1 h2 σ H Q z => ⟨c', h1, h2, z⟩
/-- y = [..] on one line -/
def sSetLc (i : Nat) (fe : M Val) : M Fl := sSet i fe
theorem ps_sSetLc {i : Nat} {y : Str} {py spos : Pos} {elt tgE iter : Expr} {ifs : List Expr} {scope : Scope} {own : List (Str × Nat)} {fi : M (List D)} {tg : Tgt} {t : M Bool} {fe : M Val} (hip : i ∉ c.par) (x : XOk c X) (hc : X.calm = true) (hN : X.N.Nodup) (hy : X.N[i]? = some y) (hyl : X.env.scope.names.lookup y = some .local)
    (hsw : swapsWith (.ListComp elt [⟨tgE, iter, ifs, 0⟩] scope pos) (some (.Name y py)) spos.line X.env = pure true) (hi : PI X tgE iter (TIm c W fi)) (ok : BlkOk X.N X.env.scope scope own)
    (hvp : ∀ v ∈ own.map (·.2), v ∉ c.par) (htg : ∀ j ∈ tg.slots, j ∈ own.map (·.2))
    (hg : ∀ (s : Shared) (H : Hp) (C : Addr) (cl : List (Str × Addr)) (fp : List Addr), PG (X.blk s H scope (compEnvC scope cl C X.env) fp) tgE (tgT X.K tg))
    (ht : ∀ (s : Shared) (H : Hp) (C : Addr) (cl : List (Str × Addr)) (fp : List Addr) (c' : Gc), c'.T = c.T → (c'.ex = c.ex ∧ c'.par = []) → PTs (X.blk s H scope (compEnvC scope cl C X.env) fp) ifs (TTm c' W0 t))
    (he : ∀ (s : Shared) (H : Hp) (C : Addr) (cl : List (Str × Addr)) (fp : List Addr) (c' : Gc), c'.T = c.T → (c'.ex = c.ex ∧ c'.par = []) → PE (X.blk s H scope (compEnvC scope cl C X.env) fp) elt (TEm c' W0 fe)) (hs : ∀ x, foldedSetIterable iter X.env x = pure x) :
    PS X (.Assign [.Name y py] (.ListComp elt [⟨tgE, iter, ifs, 0⟩] scope pos) spos) (TSm c W (sSet i (eLc fi (own.map (·.2)) tg t fe))) := by
  refine PS.weak (ps_setLc hc hN hy hyl hsw hi ok hg (fun s H C cl fp => pts_ex (c := c) (ht s H C cl fp)) (fun s H C cl fp => pe_ex (c := c) (he s H C cl fp)) hs) fun D σ H ⟨G, r, E, P⟩ => ?_
  -- the value, then the store
  have P' : PostE c W σ G (eLc fi (own.map (·.2)) tg t fe r) (fun v H1 => D.nx (σ.set i (some v)) H1) := by
    unfold sSet mBind at P
    cases q : eLc fi (own.map (·.2)) tg t fe r with
    | bad => rw [q] at P; exact P
    | exc y r' => rw [q] at P; exact fun G1 H1 cls d s1 E1 hx => P G1 H1 σ cls d s1 E1 hx
    | ok v r' =>
      rw [q] at P
      intro G1 H1 w s1 E1 hw
      obtain ⟨d, G2, r2, s2, E2, hd, P2⟩ := bindToD (k := fun d => fun r => .ok .nx (r.set i (.d d))) E1 hw (P.mono s1 (fun _ _ z => z) (fun _ _ z => z) (fun _ _ z => z) fun _ _ z => z)
      exact P2 G2 H1 _ (Same.refl _) (E2.set hip hd)
  refine TIm.imp (fun J H1 ⟨items, G1, r1, s1, E1, hJ, P1⟩ => ?_) (bindIE E P')
  exact lc_ok x hJ E1 hvp htg P1 (exTT c t) (exTE c fe) (fun c' h1 h2 σ H Q z => ⟨c', h1, h2, z⟩) fun c' h1 h2 σ H Q z => ⟨c', h1, h2, z⟩

/-! ### a, b, .. = e -/
def sUnp (is : List Nat) (fa : M Val) : M Fl := mBind fa fun x => mBind (toD x) fun d => fun r => match gTp is d r with
  | .ok _ r' => .ok .nx r'
  | _ => .bad
theorem ps_sUnp {is : List Nat} {k n : Nat} {tpos : Pos} (x : XOk c X) (hc : X.calm = true) (h : PGs X es (TGsm c (gNms is))) (hl : is.length = n) (hn : (assignEach es X.env).length = n) (hst : (assignEach es X.env).findIdx? (·.1) = none) (he : PE X e (TEm c W fa))
    (hs : swapsWithSole [.Tuple es k tpos] e pos.line X.env = pure false) (hw : swappedStores [.Tuple es k tpos] e X.env = pure none) (h1 : (assignEach [.Tuple es k tpos] X.env).map (·.2) = [assign (.Tuple es k tpos) X.env]) : PS X (.Assign [.Tuple es k tpos] e pos) (TSm c W (sUnp is fa)) := by
  refine PS.weak (ps_asg he (pg_gTp x hc h hl hn hst) hs hw h1) fun D σ H ⟨G, r, E, P⟩ => ?_
  refine TEm.imp (fun v H1 ⟨y, G1, r1, s1, E1, hy, P1⟩ => ?_) (bindES E P)
  obtain ⟨d, G2, r2, s2, E2, hd, P2⟩ := bindToD E1 hy P1
  refine ⟨G2, r2, d, E2, hd, ?_⟩
  cases q : gTp is d r2 with
  | ok u r3 => rw [q] at P2; exact fun G' H' σ' s' E' => P2 G' H' σ' s' E'
  | exc _ _ => rw [q] at P2; exact P2.elim
  | bad => rw [q] at P2; exact P2.elim

/-! ### raise -/
/-- an own exception class without __init__ -/
structure ClsOk (X : Cx) (C : Addr) (x : Str) : Prop where
  ex : PySem.W.excIn X.K C [.type "ValueError", .type "Exception", .type "BaseException", .type "object"] "ValueError.__new__" = true
  mg : X.mg x = some (.ref C)
  kp : PySem.W.keepIn X.K (.ref C) = true
  sub : PySem.W.subIn X.K (.ref C) (.type "BaseException") = some true
  ty : PySem.W.typeIn X.K (.ref C) = some (.type "type")
def sRaise (k : Nat) : M Fl := fun r => .exc ⟨k, none⟩ r
theorem ps_sRaise {k : Nat} {x m : Str} {j : Nat} {p p2 p3 : Pos} (hc : X.calm = true) (tk : Takes X W) (o : ClsOk X (c.T.cl k) x) (hg : Gl X x) (hdb : (x == ("__debug__" : Str)) = false) : PS X (.Raise (some (.Call (.Name x p) [.Constant (.str m) j p2] [] p3)) none pos) (TSm c W (sRaise k)) := by
  refine PS.weak (ps_raise hc tk (pmk_own PySem.F.excBase_ValueError o.ex o.mg o.kp (raises_own o.sub o.ty) hg hdb)) fun D σ H ⟨G, r, E, P⟩ => ?_
  exact P G H σ _ none (Same.refl _) E ⟨rfl, rfl⟩

/-! ### try .. except C as n -/
/-- class 0 is the base of all -/
def subC (n k j : Nat) : Option Bool := if k < n ∧ j < n then some (k == j || j == 0) else none
def dropX : Slot → Slot
  | .exn _ => .no
  | s => s
def sTry (n : Nat) (fb : M Fl) (j i : Nat) (fs : M Fl) : M Fl := fun r => match fb r with
  | .exc x r1 => (match subC n x.cls j with
    | some true => (match fs (r1.set i (.exn x)) with
      | .ok fl r2 => .ok fl ((r2.set i .no).map dropX)
      | _ => .bad)
    | some false => .exc x r1
    | none => .bad)
  | o => o
def Gc.hand (c : Gc) (a : Addr) (x : Exn) : Gc := { c with ex := some (a, x) }
theorem EnvRel.exn {σ : L2.St} {G H : Hp} {r : Rho} {i : Nat} {a : Addr} {x : Exn} (hx : c.ex = none) (E : EnvRel c G r σ H) (hip : i ∉ c.par) : EnvRel (c.hand a x) G (r.set i (.exn x)) (σ.set i (some (.ref a))) H := by
  have E1 : EnvRel c G (r.set i .no) (σ.set i (some (.ref a))) H := E.forget hip
  have own : ∀ {j : Nat} {o : OB}, (r.set i (.exn x))[j]? = some (.own o) → (r.set i .no)[j]? = some (.own o) := fun {j o} h => by
    by_cases hj : i = j
    · subst hj
      by_cases hl : i < r.length
      · rw [List.getElem?_set_self hl] at h; cases h
      · rw [List.getElem?_eq_none (by simpa using hl)] at h; cases h
    · rw [List.getElem?_set_ne hj] at h ⊢; exact h
  refine ⟨by have := E1.len; simpa using this, E1.sub, fun j s v h1 h2 => ?_, fun j k o o' b h1 h2 h3 h4 => E1.uniq j k o o' b (own h1) (own h2) h3 h4, E1.frame, fun j o b h1 h2 => E1.fresh j o b (own h1) h2, E1.bor, E1.gold, E1.par⟩
  by_cases hj : i = j
  · subst hj
    have hl : i < σ.length := by
      have := (List.getElem?_eq_some_iff.mp h2).1
      simpa using this
    have hr : i < r.length := by rw [E.len]; exact hl
    rw [List.getElem?_set_self hr] at h1
    rw [List.getElem?_set_self hl] at h2
    cases h1; cases h2
    exact ⟨a, rfl, rfl⟩
  · rw [List.getElem?_set_ne hj] at h1 h2
    have z := E.slot j s v h1 h2
    cases s with
    | no => trivial
    | d y => exact z
    | own o => exact z
    | exn y => obtain ⟨b, _, e⟩ := z; rw [hx] at e; cases e
    | scr ns => exact z
theorem EnvRel.unexn {σ : L2.St} {G H : Hp} {r : Rho} {i : Nat} {a : Addr} {x : Exn} (E : EnvRel (c.hand a x) G r σ H) (hip : i ∉ c.par) : EnvRel c G ((r.set i .no).map dropX) (σ.set i none) H := by
  have E1 : EnvRel (c.hand a x) G (r.set i .no) (σ.set i none) H := E.forget hip
  have at_ : ∀ {j : Nat} {s : Slot}, ((r.set i .no).map dropX)[j]? = some s → ∃ s', (r.set i .no)[j]? = some s' ∧ s = dropX s' := fun {j s} h => by
    rw [List.getElem?_map] at h
    cases q : (r.set i .no)[j]? with
    | none => rw [q] at h; cases h
    | some s' => rw [q] at h; exact ⟨s', rfl, (Option.some.inj h).symm⟩
  have own : ∀ {j : Nat} {o : OB}, ((r.set i .no).map dropX)[j]? = some (.own o) → (r.set i .no)[j]? = some (.own o) := fun {j o} h => by
    obtain ⟨s', h1, h2⟩ := at_ h
    cases s' with
    | no => cases h2
    | d y => cases h2
    | own o' => rw [h1, h2]; rfl
    | exn y => cases h2
    | scr ns => cases h2
  refine ⟨by have := E1.len; simpa using this, E1.sub, fun j s v h1 h2 => ?_, fun j k o o' b h1 h2 h3 h4 => E1.uniq j k o o' b (own h1) (own h2) h3 h4, E1.frame, fun j o b h1 h2 => E1.fresh j o b (own h1) h2, E1.bor, E1.gold, E1.par⟩
  obtain ⟨s', q1, q2⟩ := at_ h1
  have z := E1.slot j s' v q1 h2
  subst q2
  cases s' with
  | no => trivial
  | d y => exact z
  | own o => exact z
  | exn y => trivial
  | scr ns => exact z
/-- the suite's reading, whatever the exception's field is -/
def tSuite (c : Gc) (f : M Fl) (a : Addr) (cls : Value) (d : Option Addr) : TS := fun D σ H => ∃ (x : Exn), cls = .ref (c.T.cl x.cls) ∧ (x.pos = none → d = none) ∧ TSm (c.hand a x) W0 f D σ H
theorem ps_sTry {n j i : Nat} {x nm : Str} {suite : List Stmt} {b₀ : Stmt} {np pos' : Pos} (hx0 : c.ex = none) (hip : i ∉ c.par) (hs : X.stack = X.env :: X.outer) (hf : X.env.frame = some X.env.locals) (hN : X.N.Nodup) (hi : X.N[i]? = some nm) (hln : X.env.kindOf nm = some .local)
    (hc : Names X x (.ref (c.T.cl j))) (tk : Takes X W) (hexm : ∀ k b, subC n k j = some b → PySem.W.exmOne X.K (.ref (c.T.cl k)) (.ref (c.T.cl j)) = some b)
    (hb : ∀ (W' : WX) (pn : List (Addr × Obj)) (xe : Value → Shared → Prop), Takes (X.tr pn xe) W' → PassesOwn (model X.prog X.w) X.A X.env xe → PSs (X.tr pn xe) body (TSm c W' f))
    (hsu : ∀ (a : Addr) (oe : Obj) (d : Option Addr) (pn : List (Addr × Obj)) (x : Exn), Zc (.ref (c.T.cl x.cls)) d oe → (∃ vs, oe.data = .fields vs) → (x.pos = none → d = none) → PSs (X.suite a ((a, oe) :: pn)) (b₀ :: suite) (TSm (c.hand a x) W0 g)) :
    PS X (.Try body [.ExceptHandler (some (.Name x np)) (some nm) (b₀ :: suite) pos'] [] [] pos) (TSm c W (sTry n f j i g)) := by
  refine PS.weak (ps_try_as hs hf hN hi hln hc tk hb (ts := tSuite c g) fun a oe cls d pn hz hfd => ⟨fun pins s σ H D I ⟨y, ey, ed, z⟩ => ?_⟩) fun D σ H ⟨G, r, E, P⟩ => ⟨G, r, E, ?_⟩
  · subst ey
    exact (hsu a oe d pn y hz hfd ed).run pins s σ H D I z
  · unfold sTry at P
    cases q : f r with
    | bad => rw [q] at P; exact P
    | ok fl r' => rw [q] at P; cases fl <;> exact P
    | exc y r1 =>
      rw [q] at P
      dsimp only at P
      intro G1 H1 σ1 cls d s1 E1 hx
      cases q2 : subC n y.cls j with
      | none => rw [q2] at P; exact P.elim
      | some b =>
        rw [q2] at P
        have ec := hx.1
        refine ⟨b, by rw [ec]; exact hexm _ _ q2, fun hbt a ha => ?_, fun hbf => ?_⟩
        · subst hbt
          dsimp only at P
          refine ⟨y, ec, fun hp => ?_, G1, r1.set i (.exn y), E1.exn hx0 hip, ?_⟩
          · have := hx.2
            rw [hp] at this
            exact this
          · cases q3 : g (r1.set i (.exn y)) with
            | bad => rw [q3] at P; exact P.elim
            | exc _ _ => rw [q3] at P; exact P.elim
            | ok fl r2 =>
              rw [q3] at P
              cases fl with
              | nx => exact fun G2 H2 σ2 s2 E2 => P G2 H2 _ (s1.trans s2) (E2.unexn hip)
              | bk => exact fun G2 H2 σ2 s2 E2 => P G2 H2 _ (s1.trans s2) (E2.unexn hip)
              | ct => exact fun G2 H2 σ2 s2 E2 => P G2 H2 _ (s1.trans s2) (E2.unexn hip)
              | ret v => exact fun G2 H2 σ2 u s2 E2 hu => P G2 H2 _ u (s1.trans s2) (E2.unexn hip) hu
        · subst hbf
          exact P G1 H1 σ1 cls d s1 E1 hx
/-- isinstance(e, C) in the suite -/
def eIsE (n i j : Nat) : M Val := fun r => match r[i]? with
  | some (.exn x) => (match x.pos with
    | none => (match subC n x.cls j with
      | some b => .ok (.d (.bool b)) r
      | none => .bad)
    | some _ => .bad)
  | _ => .bad
theorem pe_eIsE {n i j : Nat} {nm x : Str} {a0 : Addr} {oe : Obj} {d : Option Addr} {pn : List (Addr × Obj)} {y : Exn} {p p1 p2 : Pos} (hce : c.ex = some (a0, y)) (hz : Zc (.ref (c.T.cl y.cls)) d oe) (hfd : ∃ vs, oe.data = .fields vs) (hpd : y.pos = none → d = none)
    (hC : ∀ k, k < n → ExcC X.K (c.T.cl k)) (hkit : ∀ k b, subC n k j = some b → PySem.W.kitOne X.K (.ref (c.T.cl k)) (.ref (c.T.cl j)) = some b)
    (hN : X.N[i]? = some nm) (hv : Vis X.env.scope nm) (hd : (nm == ("__debug__" : Str)) = false) (hcd : (nm == ("__classdict__" : Str)) = false) (hg : Gl X "isinstance") (hm : X.mg "isinstance" = none) (hg2 : Gl X x) (hm2 : X.mg x = some (.ref (c.T.cl j))) (hdx : (x == ("__debug__" : Str)) = false)
    (hs : starEach (.Name nm p1 :: [.Name x p2]) X.env = (false, eval (.Name nm p1) X.env) :: starEach [.Name x p2] X.env) (hs2 : starEach (.Name x p2 :: []) X.env = (false, eval (.Name x p2) X.env) :: starEach [] X.env) (hpl : (backTo pos (starEach [.Name x p2] X.env)).any (·.1) = false) :
    PE (X.suite a0 ((a0, oe) :: pn)) (.Call (.Name "isinstance" p) [.Name nm p1, .Name x p2] [] pos) (TEm c W (eIsE n i j)) := by
  refine ⟨fun pins s σ H Q I h => ?_⟩
  obtain ⟨G, r, E, P⟩ := h
  unfold eIsE at P
  split at P
  · rename_i y' q
    have hil : i < σ.length := by rw [I.len]; exact (List.getElem?_eq_some_iff.mp hN).1
    have hsg : σ[i]? = some σ[i] := List.getElem?_eq_getElem hil
    obtain ⟨a1, ea, ex⟩ := E.slot i _ _ q hsg
    rw [hce] at ex
    cases ex
    split at P
    · rename_i hpos
      have hd0 := hpd hpos
      subst hd0
      split at P
      · rename_i b hb
        have hk : y.cls < n := by
          unfold subC at hb
          split at hb
          · rename_i hh; exact hh.1
          · cases hb
        refine (pe_callB (X := X.suite a0 ((a0, oe) :: pn)) (call_isE (X := X) (hC _ hk) hz hfd) hg hm (by decide +kernel) (pa_cons (X := X.suite a0 ((a0, oe) :: pn)) (pe_var (X := X.suite a0 ((a0, oe) :: pn)) (i := i) (pos := p1) hN hv hd hcd) (pa_cons (X := X.suite a0 ((a0, oe) :: pn)) (pe_glob (X := X.suite a0 ((a0, oe) :: pn)) (v := .ref (c.T.cl j)) hg2 hm2 rfl hdx) pa_nil hs2) hs) (by decide) (by decide) hs hpl).run pins s σ H Q I ?_
        refine ⟨.ref a0, by rw [hsg, ea], .ref (c.T.cl j), .ref (c.T.cl j), b, rfl, fun u hu => hu, hkit _ _ hb, P G H _ (Same.refl _) E (.bl b)⟩
      · exact P.elim
    · exact P.elim
  · exact P.elim
end
end CT

/-! CT12: from the program's text to closures. -/
namespace CT
open PySem PySem.Spec PyProof.Rows L2

structure Cc where
  N : List Str
  sc : Scope
  par : List Nat
  cel : Str → Bool
  calm : Bool
  hand : Bool
  ow : Str → Bool
  blt : Str → Bool
  fns : Str → Option (Nat × Nat)
  cls : Str → Option Nat
  nC : Nat
  con : Str → Option D
  wf : Nat

def notDbg (x : Str) : Bool := !(x == ("__debug__" : Str)) && !(x == ("__classdict__" : Str))
def ixN : List Str → Str → Option Nat
  | [], _ => none
  | y :: r, x => if y = x then some 0 else (ixN r x).map (· + 1)
theorem ixN_ok : ∀ {N : List Str} {x : Str} {i : Nat}, ixN N x = some i → N[i]? = some x
  | [], _, _, h => by cases h
  | y :: r, x, i, h => by
    unfold ixN at h
    split at h
    · rename_i e; cases h; subst e; rfl
    · cases q : ixN r x with
      | none => rw [q] at h; cases h
      | some j =>
        rw [q] at h; cases h
        show (y :: r)[j + 1]? = some x
        have z := ixN_ok q
        simpa using z
def Cc.gl (cc : Cc) (x : Str) : Bool := match cc.sc.names.lookup x with
  | some .globalImplicit => true
  | _ => false
def Cc.vis (cc : Cc) (x : Str) : Bool := match cc.sc.names.lookup x with
  | some .local => true
  | some .cell => true
  | some .free => true
  | _ => false
def Cc.loc (cc : Cc) (x : Str) : Bool := match cc.sc.names.lookup x with
  | some .local => true
  | some .cell => cc.cel x
  | _ => false
def Cc.blk (cc : Cc) (scope : Scope) : Cc := { cc with sc := relS scope cc.sc, par := [], cel := fun y => scope.names.lookup y == some .cell }

structure CcOk (cc : Cc) (F : Nat → FnS) (c : Gc) (W : WX) (X : Cx) : Prop where
  x : XOk c X
  N : X.N = cc.N
  nd : X.N.Nodup
  sc : X.env.scope = cc.sc
  par : c.par = cc.par
  fn : ∀ y, cc.cel y = true → X.fn y = true
  calm : cc.calm = true → X.calm = true
  blt : ∀ y, cc.blt y = true → X.mg y = none
  fns : cc.calm = true → ∀ y i m, cc.fns y = some (i, m) → ∃ k f fd ps, FnOk X.prog X.w X.K X.mg X.base (L2.CX X.prog X.w) k f fd ps (SpF c.T m (F i)) ∧ Room k X.A ∧ X.mg y = some (.ref f) ∧ PySem.W.keepIn X.K (.ref f) = true ∧ Binds X.K fd ps []
  con : ∀ y d, cc.con y = some d → ∃ v u, X.mg y = some u ∧ RelV v u ∧ ∀ G, Rl c.T G v d
  tk : Takes X W
  ise : ∀ (nm x : Str) (i j : Nat) (p p1 p2 pos : Pos), cc.hand = true → cc.N[i]? = some nm → cc.cls x = some j → cc.vis nm = true → notDbg nm = true → cc.gl "isinstance" = true → cc.blt "isinstance" = true → cc.gl x = true → notDbg x = true →
    PE X (.Call (.Name "isinstance" p) [.Name nm p1, .Name x p2] [] pos) (TEm c W (eIsE cc.nC i j))

section
variable {cc : Cc} {F : Nat → FnS} {c : Gc} {W : WX} {X : Cx}
theorem CcOk.glOk (k : CcOk cc F c W X) {x : Str} (h : cc.gl x = true) : Gl X x := by
  unfold Cc.gl at h
  unfold Gl Env.kindOf
  rw [k.sc]
  split at h
  · assumption
  · cases h
theorem CcOk.visOk (k : CcOk cc F c W X) {x : Str} (h : cc.vis x = true) : Vis X.env.scope x := by
  unfold Cc.vis at h
  unfold Vis
  rw [k.sc]
  split at h
  · exact .inl ‹_›
  · exact .inr (.inl ‹_›)
  · exact .inr (.inr ‹_›)
  · cases h
theorem CcOk.locOk (k : CcOk cc F c W X) {x : Str} (h : cc.loc x = true) : L2.Loc X.env.scope x ∧ (X.fn x = true ∨ X.env.scope.names.lookup x = some .local) := by
  unfold Cc.loc at h
  unfold L2.Loc
  rw [k.sc]
  split at h
  · exact ⟨.inl ‹_›, .inr ‹_›⟩
  · exact ⟨.inr ‹_›, .inl (k.fn _ h)⟩
  · cases h
theorem CcOk.ixOk (k : CcOk cc F c W X) {x : Str} {i : Nat} (h : ixN cc.N x = some i) : X.N[i]? = some x := by rw [k.N]; exact ixN_ok h
theorem dbg1 {x : Str} (h : notDbg x = true) : (x == ("__debug__" : Str)) = false := by
  unfold notDbg at h; simp only [Bool.and_eq_true, Bool.not_eq_true'] at h; exact h.1
theorem dbg2 {x : Str} (h : notDbg x = true) : (x == ("__classdict__" : Str)) = false := by
  unfold notDbg at h; simp only [Bool.and_eq_true, Bool.not_eq_true'] at h; exact h.2
theorem CcOk.blkOk (k : CcOk cc F c W X) (hh : cc.hand = false) (s : Shared) (H : Hp) (scope : Scope) (C : Addr) (cl : List (Str × Addr)) (fp : List Addr) (c' : Gc) (h1 : c'.T = c.T) (h2 : c'.par = []) : CcOk (cc.blk scope) F c' W0 (X.blk s H scope (compEnvC scope cl C X.env) fp) where
  x := ⟨by rw [h1]; exact k.x.K, by rw [h1]; exact k.x.P, by rw [h1]; exact k.x.w, k.x.hu⟩
  N := k.N
  nd := k.nd
  sc := by
    show PySem.relabel scope X.env = relS scope cc.sc
    rw [← k.sc]
    rfl
  par := h2
  fn := fun y h => h
  calm := k.calm
  blt := k.blt
  fns := fun hc y i m h => by rw [h1]; exact k.fns hc y i m h
  con := fun y d h => by rw [h1]; exact k.con y d h
  tk := takes0
  ise := fun nm x i j p p1 p2 pos h => by rw [show (cc.blk scope).hand = cc.hand from rfl, hh] at h; cases h

/-! ### names, constants -/
def cName (cc : Cc) (x : Str) : Option (M Val) :=
  if notDbg x then (if cc.vis x then (ixN cc.N x).map eVar else if cc.gl x then (cc.con x).map eC else none) else none
theorem cName_ok (k : CcOk cc F c W X) {x : Str} {p : Pos} {f : M Val} (h : cName cc x = some f) : PE X (.Name x p) (TEm c W f) := by
  unfold cName at h
  split at h
  · rename_i hd
    split at h
    · rename_i hv
      simp only [Option.map_eq_some_iff] at h
      obtain ⟨i, hi, rfl⟩ := h
      exact pe_eVar (k.ixOk hi) (k.visOk hv) (dbg1 hd) (dbg2 hd)
    · split at h
      · rename_i hg
        simp only [Option.map_eq_some_iff] at h
        obtain ⟨d, hi, rfl⟩ := h
        obtain ⟨v, u, h1, h2, h3⟩ := k.con _ _ hi
        exact pe_eC (pe_glob (k.glOk hg) h1 h2 (dbg1 hd)) h3
      · cases h
  · cases h
def cConst : Const → Option (M Val)
  | .int i => some (eC (.int i))
  | .bool b => some (eC (.bool b))
  | .none => some (eC .none)
  | .str x => some (eC (.str x))
  | _ => none
theorem cConst_ok {v : Const} {j : Nat} {p : Pos} {f : M Val} (h : cConst v = some f) : PE X (.Constant v j p) (TEm c W f) := by
  unfold cConst at h
  split at h <;> cases h
  · exact pe_eC pe_int fun G => .int _
  · exact pe_eC pe_bl fun G => .bl _
  · exact pe_eC pe_non fun G => .non
  · exact pe_eC pe_str fun G => .str _

/-! ### argument lists -/
def noStar : Expr → Bool
  | .Starred .. => false
  | _ => true
theorem star_ok {e : Expr} {es : List Expr} {env : Env} (h : noStar e = true) : starEach (e :: es) env = (false, eval e env) :: starEach es env := by
  cases e <;> first | rfl | cases h
theorem star_any {pos : Pos} {env : Env} : ∀ {es : List Expr}, es.all noStar = true → (backTo pos (starEach es env)).any (·.1) = false
  | [], _ => rfl
  | e :: es, h => by
    simp only [List.all_cons, Bool.and_eq_true] at h
    rw [star_ok h.1]
    have := star_any (pos := pos) (env := env) h.2
    unfold backTo at this ⊢
    simp only [List.map_cons, List.any_cons]
    rw [this]
    rfl
def cArgs (r : Expr → Option (M Val)) : List Expr → Option (M (List Val))
  | [] => some aNil
  | e :: es => if noStar e then (match r e, cArgs r es with
    | some f, some g => some (aCons f g)
    | _, _ => none) else none
theorem cArgs_ok {r : Expr → Option (M Val)} (hr : ∀ e f, r e = some f → PE X e (TEm c W f)) : ∀ {es : List Expr} {g : M (List Val)}, cArgs r es = some g → PA X es (TAm c W g) ∧ es.all noStar = true
  | [], g, h => by cases h; exact ⟨pa_aNil, rfl⟩
  | e :: es, g, h => by
    unfold cArgs at h
    split at h
    · rename_i hs
      split at h
      · rename_i f g' h1 h2
        cases h
        obtain ⟨q1, q2⟩ := cArgs_ok hr h2
        exact ⟨pa_aCons (hr _ _ h1) q1 (star_ok hs), by simp [hs, q2]⟩
      · cases h
    · cases h

/-! ### and, or -/
def cAnd (r : Expr → Option (M Val)) : List Expr → Option (M Val)
  | [] => none
  | [a] => r a
  | a :: b :: es => match r a, cAnd r (b :: es) with
    | some f, some g => some (eAn f g)
    | _, _ => none
def cOr (r : Expr → Option (M Val)) : List Expr → Option (M Val)
  | [] => none
  | [a] => r a
  | a :: b :: es => match r a, cOr r (b :: es) with
    | some f, some g => some (eOo f g)
    | _, _ => none
theorem pe_one {op : BoolOp} {a : Expr} {t : TE} {pos : Pos} (h : PE X a t) : PE X (.BoolOp op [a] pos) t := ⟨fun pins s σ H Q I z => h.run pins s σ H Q I z⟩
theorem cAnd_ok {r : Expr → Option (M Val)} (hr : ∀ e f, r e = some f → PE X e (TEm c W f)) {pos : Pos} : ∀ {es : List Expr} {g : M Val}, cAnd r es = some g → PE X (.BoolOp .And es pos) (TEm c W g)
  | [], g, h => by cases h
  | [a], g, h => pe_one (hr _ _ h)
  | a :: b :: es, g, h => by
    unfold cAnd at h
    split at h
    · rename_i f g' h1 h2
      cases h
      exact pe_eAn (hr _ _ h1) (cAnd_ok hr h2)
    · cases h
theorem cOr_ok {r : Expr → Option (M Val)} (hr : ∀ e f, r e = some f → PE X e (TEm c W f)) {pos : Pos} : ∀ {es : List Expr} {g : M Val}, cOr r es = some g → PE X (.BoolOp .Or es pos) (TEm c W g)
  | [], g, h => by cases h
  | [a], g, h => pe_one (hr _ _ h)
  | a :: b :: es, g, h => by
    unfold cOr at h
    split at h
    · rename_i f g' h1 h2
      cases h
      exact pe_eOo (hr _ _ h1) (cOr_ok hr h2)
    · cases h
def ctAnd (r : Expr → Option (M Bool)) : List Expr → Option (M Bool)
  | [] => none
  | [a] => r a
  | a :: b :: es => match r a, ctAnd r (b :: es) with
    | some f, some g => some (tAn f g)
    | _, _ => none
def ctOr (r : Expr → Option (M Bool)) : List Expr → Option (M Bool)
  | [] => none
  | [a] => r a
  | a :: b :: es => match r a, ctOr r (b :: es) with
    | some f, some g => some (tOo f g)
    | _, _ => none
theorem ctAnd_ok {r : Expr → Option (M Bool)} (hr : ∀ e f, r e = some f → PT X e (TTm c W f)) {pos : Pos} : ∀ {es : List Expr} {g : M Bool}, ctAnd r es = some g → PW X (.BoolOp .And es pos) (TTm c W g)
  | [], g, h => by cases h
  | [a], g, h => pw_and1 (hr _ _ h)
  | a :: b :: es, g, h => by
    unfold ctAnd at h
    split at h
    · rename_i f g' h1 h2
      cases h
      exact pw_tAn (hr _ _ h1) (ctAnd_ok hr h2)
    · cases h
theorem ctOr_ok {r : Expr → Option (M Bool)} (hr : ∀ e f, r e = some f → PT X e (TTm c W f)) {pos : Pos} : ∀ {es : List Expr} {g : M Bool}, ctOr r es = some g → PW X (.BoolOp .Or es pos) (TTm c W g)
  | [], g, h => by cases h
  | [a], g, h => pw_or1 (hr _ _ h)
  | a :: b :: es, g, h => by
    unfold ctOr at h
    split at h
    · rename_i f g' h1 h2
      cases h
      exact pw_tOo (hr _ _ h1) (ctOr_ok hr h2)
    · cases h

/-! ### comparisons -/
def noSet : Expr → Bool
  | .Set .. => false
  | _ => true
theorem marks_ok {op : CmpOp} {b : Expr} (h : noSet b = true) : behindInMarks op b = false := by cases b <;> first | rfl | cases h
theorem folded_ok {e : Expr} {env : Env} (h : noSet e = true) : ∀ x, foldedSetIterable e env x = pure x := fun x => by cases e <;> first | rfl | cases h
def cCmp (r : Expr → Option (M Val)) (a : Expr) : List CmpOp → List Expr → Option (M Bool)
  | [op], [b] => if noSet b then (match r a, r b with
    | some f, some g => some (tCm op f g)
    | _, _ => none) else none
  | [op, op'], [b, d] => if noSet d then (match r a, r b, r d with
    | some f, some g, some h => some (tCh op op' f g h)
    | _, _, _ => none) else none
  | _, _ => none
theorem cCmp_ok {r : Expr → Option (M Val)} (k : XOk c X) (hr : ∀ e f, r e = some f → PE X e (TEm c W f)) {a : Expr} {ops : List CmpOp} {es : List Expr} {g : M Bool} {pos : Pos} (h : cCmp r a ops es = some g) : PT X (.Compare a ops es pos) (TTm c W g) ∧ PE X (.Compare a ops es pos) (TEm c W (eT g)) := by
  unfold cCmp at h
  split at h
  · split at h
    · rename_i hs
      split at h
      · rename_i f g' h1 h2
        cases h
        exact ⟨pt_tCm k (hr _ _ h1) (hr _ _ h2) (marks_ok hs), pe_eCm k (hr _ _ h1) (hr _ _ h2) (marks_ok hs)⟩
      · cases h
    · cases h
  · split at h
    · rename_i hs
      split at h
      · rename_i f g' h' h1 h2 h3
        cases h
        exact ⟨pt_tCh k (hr _ _ h1) (hr _ _ h2) (hr _ _ h3) (marks_ok hs), pe_eCh k (hr _ _ h1) (hr _ _ h2) (hr _ _ h3) (marks_ok hs)⟩
      · cases h
    · cases h
  · cases h

/-! ### iterables -/
def cRng (r : Expr → Option (M Val)) : List Expr → Option (M (List D))
  | [a] => if noStar a then (r a).map iRange1 else none
  | [a, b] => if noStar a && noStar b then (match r a, r b with
    | some f, some g => some (iRange2 f g)
    | _, _ => none) else none
  | _ => none
def isRng (cc : Cc) (x : Str) : Bool := decide (x = ("range" : Str)) && cc.gl x && cc.blt x
def cIt (cc : Cc) (r : Expr → Option (M Val)) (e : Expr) : Option (M (List D)) := match e with
  | .Call (.Name x _) args [] _ => if isRng cc x then cRng r args else (r e).map iSeq
  | .Set .. => none
  | _ => (r e).map iSeq
theorem cIt_ok {r : Expr → Option (M Val)} (k : CcOk cc F c W X) (hr : ∀ e f, r e = some f → PE X e (TEm c W f)) {e tg : Expr} {g : M (List D)} (h : cIt cc r e = some g) : PI X tg e (TIm c W g) ∧ ∀ x, foldedSetIterable e X.env x = pure x := by
  have sq : ∀ {e : Expr}, noSet e = true → (r e).map iSeq = some g → PI X tg e (TIm c W g) ∧ ∀ x, foldedSetIterable e X.env x = pure x := fun {e} hs h => by
    simp only [Option.map_eq_some_iff] at h
    obtain ⟨f, h1, rfl⟩ := h
    exact ⟨pi_iSeq k.x (hr _ _ h1), folded_ok hs⟩
  unfold cIt at h
  split at h
  · rename_i x p args pos
    split at h
    · rename_i hx
      unfold isRng at hx
      simp only [Bool.and_eq_true, decide_eq_true_eq] at hx
      obtain ⟨⟨rfl, hg⟩, hb⟩ := hx
      refine ⟨?_, folded_ok rfl⟩
      unfold cRng at h
      split at h
      · split at h
        · rename_i hs
          simp only [Option.map_eq_some_iff] at h
          obtain ⟨f, h1, rfl⟩ := h
          exact pi_iRange1 (k.glOk hg) (k.blt _ hb) (hr _ _ h1) (star_ok hs) (star_ok hs)
        · cases h
      · split at h
        · rename_i hs
          simp only [Bool.and_eq_true] at hs
          split at h
          · rename_i f g' h1 h2
            cases h
            exact pi_iRange2 (k.glOk hg) (k.blt _ hb) (hr _ _ h1) (hr _ _ h2) (by rw [star_ok hs.1, star_ok hs.2]; rfl) (by rw [star_ok hs.2]; rfl) (star_ok hs.1) (star_ok hs.2)
          · cases h
        · cases h
      · cases h
    · exact sq rfl h
  · cases h
  · rename_i h0
    exact sq (by cases e <;> first | rfl | exact absurd rfl (h0 _ _ _)) h
end
end CT

/-! CT13: expressions, compiled. -/
namespace CT
open PySem PySem.Spec PyProof.Rows L2

section
variable {cc : Cc} {F : Nat → FnS} {c : Gc} {W : WX} {X : Cx}
/-! ### calls -/
def tyOf (x : Str) : Option Ty :=
  if x = Str.ofString Ty.int.nm then some .int else if x = Str.ofString Ty.bool.nm then some .bool else if x = Str.ofString Ty.str.nm then some .str else if x = Str.ofString Ty.tuple.nm then some .tuple else if x = Str.ofString Ty.list.nm then some .list else none
theorem tyOf_ok {x : Str} {t : Ty} (h : tyOf x = some t) : x = Str.ofString t.nm := by
  unfold tyOf at h
  repeat' split at h
  all_goals first | (cases h; assumption) | cases h
def cIsi (cc : Cc) (r : Expr → Option (M Val)) : List Expr → Option (M Val)
  | [a, .Name x _] => (match tyOf x with
    | some t => if noStar a && cc.gl x && cc.blt x then (r a).map (eIsi t) else none
    | none => (match a, cc.cls x with
      | .Name nm _, some j => if cc.hand && cc.vis nm && notDbg nm && cc.gl x && notDbg x then (ixN cc.N nm).map fun i => eIsE cc.nC i j else none
      | _, _ => none))
  | _ => none
def cBlt (cc : Cc) (r : Expr → Option (M Val)) (x : Str) (args : List Expr) : Option (M Val) :=
  if x = ("len" : Str) then (match args with
    | [a] => if noStar a then (r a).map eLen else none
    | _ => none)
  else if x = ("isinstance" : Str) then cIsi cc r args
  else none
def lineOk (ap cp : Pos) : Bool := ap.endLine == cp.line
theorem meth_ok {X : Cx} {o a : Expr} {name : Str} {ap cp : Pos} (ho : attributeBase o name X.env (eval o X.env) = eval o X.env) (hs : noStar a = true) (hl : lineOk ap cp = true) : MethOk X o a name ap cp where
  hbase := ho
  hfew := by
    rw [star_ok hs]
    rfl
  hline := hl
  hs := star_ok hs
  hpl := rfl
def cMeth (cc : Cc) (r : Expr → Option (M Val)) (x m : Str) (ap cp : Pos) (args : List Expr) : Option (M Val) :=
  if m = ("append" : Str) then (match args with
    | [a] => if noStar a && lineOk ap cp && cc.vis x && notDbg x then (match ixN cc.N x, r a with
      | some i, some f => some (eApp i f)
      | _, _ => none) else none
    | _ => none)
  else none
def cCall (cc : Cc) (F : Nat → FnS) (r : Expr → Option (M Val)) (f : Expr) (args : List Expr) (ks : List Keyword) (pos : Pos) : Option (M Val) := match f, ks with
  | .Attribute (.Name o _) m ap, [] => cMeth cc r o m ap pos args
  | .Name x _, [] => if cc.gl x then (match cc.fns x with
    | some (i, m) => if cc.calm && notDbg x then (match args with
      | [] => none
      | a :: as => (cArgs r (a :: as)).map (eCall m (F i))) else none
    | none => if cc.blt x then cBlt cc r x args else none) else none
  | _, _ => none
theorem cCall_ok {r : Expr → Option (M Val)} (k : CcOk cc F c W X) (hr : ∀ e f, r e = some f → PE X e (TEm c W f)) {f : Expr} {args : List Expr} {ks : List Keyword} {pos : Pos} {g : M Val} (h : cCall cc F r f args ks pos = some g) : PE X (.Call f args ks pos) (TEm c W g) := by
  unfold cCall at h
  split at h
  · rename_i o p m ap
    unfold cMeth at h
    split at h
    · rename_i hm
      subst hm
      split at h
      · split at h
        · rename_i hs
          simp only [Bool.and_eq_true] at hs
          split at h
          · rename_i h1 h2
            cases h
            exact pe_eApp (k.ixOk h1) (k.visOk hs.1.2) (dbg1 hs.2) (dbg2 hs.2) (hr _ _ h2) (meth_ok rfl hs.1.1.1 hs.1.1.2)
          · cases h
        · cases h
      · cases h
    · cases h
  rotate_left
  · cases h
  rename_i x p
  split at h
  rotate_left
  · cases h
  rename_i hg
  split at h
  · rename_i i m hf
    split at h
    rotate_left
    · cases h
    rename_i hc
    simp only [Bool.and_eq_true] at hc
    split at h
    · cases h
    · simp only [Option.map_eq_some_iff] at h
      obtain ⟨fs, h1, rfl⟩ := h
      obtain ⟨q1, q2⟩ := cArgs_ok hr h1
      obtain ⟨k', f, fd, ps, FO, rm, hm, kp, bd⟩ := k.fns hc.1 _ _ _ hf
      simp only [List.all_cons, Bool.and_eq_true] at q2
      exact pe_eCall FO rm (k.glOk hg) hm kp bd k.tk q1 (dbg1 hc.2) (star_ok q2.1) (star_any q2.2)
  · split at h
    rotate_left
    · cases h
    rename_i hb
    unfold cBlt at h
    split at h
    · rename_i hx
      subst hx
      split at h
      · split at h
        · rename_i hs
          simp only [Option.map_eq_some_iff] at h
          obtain ⟨f, h1, rfl⟩ := h
          exact pe_eLen k.x (k.glOk hg) (k.blt _ hb) (hr _ _ h1) (star_ok hs) rfl
        · cases h
      · cases h
    · split at h
      · rename_i hx
        subst hx
        unfold cIsi at h
        split at h
        · rename_i a x2 p2
          split at h
          · rename_i t ht
            split at h
            · rename_i hs
              simp only [Bool.and_eq_true] at hs
              simp only [Option.map_eq_some_iff] at h
              obtain ⟨f, h1, rfl⟩ := h
              exact pe_eIsi k.x (k.glOk hg) (k.blt _ hb) (tyOf_ok ht) (k.glOk hs.1.2) (k.blt _ hs.2) (hr _ _ h1) (star_ok hs.1.1) (star_ok rfl) (star_any (by rfl))
            · cases h
          · split at h
            · rename_i nm p3 j hj
              split at h
              · rename_i hs
                simp only [Bool.and_eq_true] at hs
                simp only [Option.map_eq_some_iff] at h
                obtain ⟨i, h1, rfl⟩ := h
                exact k.ise nm x2 i j p _ p2 pos hs.1.1.1.1 (ixN_ok h1) hj hs.1.1.1.2 hs.1.1.2 hg hb hs.1.2 hs.2
              · cases h
            · cases h
        · cases h
      · cases h

/-! ### targets -/
def cNms (cc : Cc) : List Expr → Option (List Nat)
  | [] => some []
  | .Name x _ :: es => if cc.loc x then (match ixN cc.N x, cNms cc es with
    | some i, some is => if cc.par.contains i then none else some (i :: is)
    | _, _ => none) else none
  | _ => none
theorem par_ok (k : CcOk cc F c W X) {i : Nat} (h : ¬ cc.par.contains i = true) : i ∉ c.par := by
  rw [k.par]
  intro z
  exact h (by simpa using z)
theorem cNms_ok (k : CcOk cc F c W X) : ∀ {es : List Expr} {is : List Nat}, cNms cc es = some is → PGs X es (TGsm c (gNms is)) ∧ is.length = es.length ∧ (assignEach es X.env).length = es.length ∧ (assignEach es X.env).findIdx? (·.1) = none
  | [], is, h => by cases h; exact ⟨pgs_gNil, rfl, rfl, rfl⟩
  | e :: es, is, h => by
    unfold cNms at h
    split at h
    · rename_i h0
      cases h0
    · rename_i x p es' h0
      cases h0
      split at h
      · rename_i hl
        split at h
        · rename_i i is' h1 h2
          split at h
          · cases h
          · rename_i hp
            cases h
            obtain ⟨q1, q2, q3, q4⟩ := cNms_ok k h2
            refine ⟨pgs_gCons (par_ok k hp) k.nd (k.ixOk h1) (k.locOk hl).1 (k.locOk hl).2 q1 rfl, by simp [q2], ?_, ?_⟩
            · show ((false, assign (.Name x p) X.env) :: assignEach es X.env).length = _
              simp [q3]
            · show ((false, assign (.Name x p) X.env) :: assignEach es X.env).findIdx? _ = none
              rw [List.findIdx?_cons, q4]
              rfl
        · cases h
      · cases h
    · cases h
def cTg (cc : Cc) (own : List Nat) : Expr → Option Tgt
  | .Name x _ => if cc.loc x then (match ixN cc.N x with
    | some i => if own.contains i then some (.nm i) else none
    | none => none) else none
  | .Tuple [.Name x _, .Name y _] _ _ => if cc.calm && cc.loc x && cc.loc y then (match ixN cc.N x, ixN cc.N y with
    | some i, some j => if own.contains i && own.contains j then some (.pr i j) else none
    | _, _ => none) else none
  | _ => none
theorem cTg_slots {own : List Nat} {tg : Expr} {t : Tgt} (h : cTg cc own tg = some t) : ∀ j ∈ t.slots, j ∈ own := by
  unfold cTg at h
  repeat' split at h
  all_goals first | cases h; done | skip
  all_goals cases h
  · rename_i ho
    intro j hj
    simp only [Tgt.slots, List.mem_singleton] at hj
    subst hj
    simpa using ho
  · rename_i ho
    simp only [Bool.and_eq_true] at ho
    intro n hn
    simp only [Tgt.slots, List.mem_cons, List.not_mem_nil, or_false] at hn
    rcases hn with rfl | rfl
    · simpa using ho.1
    · simpa using ho.2
theorem cTg_ok (k : CcOk cc F c W X) {own : List Nat} {tg : Expr} {t : Tgt} (h : cTg cc own tg = some t) : PG X tg (tgT X.K t) := by
  unfold cTg at h
  split at h
  · split at h
    · rename_i hl
      split at h
      · rename_i i hi
        split at h
        · rename_i ho
          cases h
          exact pg_name k.nd (k.ixOk hi) (k.locOk hl).1 (k.locOk hl).2
        · cases h
      · cases h
    · cases h
  · split at h
    · rename_i hl
      simp only [Bool.and_eq_true] at hl
      split at h
      · rename_i i j hi hj
        split at h
        · rename_i ho
          cases h
          exact pg_tup (k.calm hl.1.1) (pgs_cons (pg_name k.nd (k.ixOk hi) (k.locOk hl.1.2).1 (k.locOk hl.1.2).2) (pgs_cons (pg_name k.nd (k.ixOk hj) (k.locOk hl.2).1 (k.locOk hl.2).2) pgs_nil))
        · cases h
      · cases h
    · cases h
  · cases h

/-! ### comprehensions -/
def ownOf (N : List Str) (scope : Scope) : List (Str × Nat) := scope.names.filterMap fun y => match y.2 with
  | .local => (ixN N y.1).map fun i => (y.1, i)
  | .cell => (ixN N y.1).map fun i => (y.1, i)
  | _ => none
def cIfs (r : Expr → Option (M Bool)) : List Expr → Option (M Bool)
  | [] => some (mPure true)
  | [d] => r d
  | _ => none
structure LcP where
  fi : M (List D)
  vs : List Nat
  tg : Tgt
  t : M Bool
  fe : M Val
def cLc (cc : Cc) (rE : Cc → Expr → Option (M Val)) (rT : Cc → Expr → Option (M Bool)) (elt : Expr) (gens : List Comprehension) (scope : Scope) : Option LcP := match gens with
  | [⟨tg, iter, ifs, as⟩] => if decide (as = 0) && cc.calm && !cc.hand && blkC cc.N cc.sc scope (ownOf cc.N scope) && ((ownOf cc.N scope).map (·.2)).all (fun i => !cc.par.contains i) then
      (match cIt cc (rE cc) iter, cTg (cc.blk scope) ((ownOf cc.N scope).map (·.2)) tg, cIfs (rT (cc.blk scope)) ifs, rE (cc.blk scope) elt with
        | some fi, some t, some tt, some fe => some ⟨fi, (ownOf cc.N scope).map (·.2), t, tt, fe⟩
        | _, _, _, _ => none) else none
  | _ => none
def SE (F : Nat → FnS) (rE : Cc → Expr → Option (M Val)) : Prop := ∀ (cc : Cc) (c : Gc) (W : WX) (X : Cx), CcOk cc F c W X → ∀ e f, rE cc e = some f → PE X e (TEm c W f)
def STt (F : Nat → FnS) (rT : Cc → Expr → Option (M Bool)) : Prop := ∀ (cc : Cc) (c : Gc) (W : WX) (X : Cx), CcOk cc F c W X → ∀ e f, rT cc e = some f → PT X e (TTm c W f)
theorem cIfs_ok {r : Expr → Option (M Bool)} (hr : ∀ e f, r e = some f → PT X e (TTm c W0 f)) {ifs : List Expr} {t : M Bool} (h : cIfs r ifs = some t) : PTs X ifs (TTm c W0 t) := by
  unfold cIfs at h
  split at h
  · cases h; exact pts_tYes
  · exact pts_tOne (hr _ _ h)
  · cases h
/-- what a comprehension's rules ask for -/
structure LcOk (c : Gc) (W : WX) (X : Cx) (elt : Expr) (tgE iter : Expr) (ifs : List Expr) (scope : Scope) (p : LcP) : Prop where
  calm : X.calm = true
  hi : PI X tgE iter (TIm c W p.fi)
  ok : ∃ own : List (Str × Nat), own.map (·.2) = p.vs ∧ BlkOk X.N X.env.scope scope own
  hvp : ∀ v ∈ p.vs, v ∉ c.par
  htg : ∀ j ∈ p.tg.slots, j ∈ p.vs
  hg : ∀ (s : Shared) (H : Hp) (C : Addr) (cl : List (Str × Addr)) (fp : List Addr), PG (X.blk s H scope (compEnvC scope cl C X.env) fp) tgE (tgT X.K p.tg)
  ht : ∀ (s : Shared) (H : Hp) (C : Addr) (cl : List (Str × Addr)) (fp : List Addr) (c' : Gc), c'.T = c.T → (c'.ex = c.ex ∧ c'.par = []) → PTs (X.blk s H scope (compEnvC scope cl C X.env) fp) ifs (TTm c' W0 p.t)
  he : ∀ (s : Shared) (H : Hp) (C : Addr) (cl : List (Str × Addr)) (fp : List Addr) (c' : Gc), c'.T = c.T → (c'.ex = c.ex ∧ c'.par = []) → PE (X.blk s H scope (compEnvC scope cl C X.env) fp) elt (TEm c' W0 p.fe)
  hs : ∀ x, foldedSetIterable iter X.env x = pure x
theorem cLc_ok {rE : Cc → Expr → Option (M Val)} {rT : Cc → Expr → Option (M Bool)} (hE : SE F rE) (hT : STt F rT) (k : CcOk cc F c W X) {elt : Expr} {gens : List Comprehension} {scope : Scope} {p : LcP} (h : cLc cc rE rT elt gens scope = some p) :
    ∃ tg iter ifs, gens = [⟨tg, iter, ifs, 0⟩] ∧ LcOk c W X elt tg iter ifs scope p := by
  unfold cLc at h
  split at h
  rotate_left
  · cases h
  rename_i tg iter ifs as
  split at h
  rotate_left
  · cases h
  rename_i hb
  simp only [Bool.and_eq_true, decide_eq_true_eq, Bool.not_eq_true', List.all_eq_true] at hb
  obtain ⟨⟨⟨⟨rfl, hc⟩, hh⟩, hbl⟩, hp⟩ := hb
  split at h
  rotate_left
  · cases h
  rename_i fi t tt fe h1 h2 h3 h4
  cases h
  obtain ⟨q1, q2⟩ := cIt_ok (tg := tg) k (hE cc c W X k) h1
  have kb := fun s H C cl fp (c' : Gc) (e1 : c'.T = c.T) (e2 : c'.par = []) => k.blkOk hh s H scope C cl fp c' e1 e2
  refine ⟨tg, iter, ifs, rfl, k.calm hc, q1, ⟨_, rfl, blkOk_by (by rw [k.N, k.sc]; exact hbl)⟩, fun v hv => ?_, ?_, fun s H C cl fp => ?_, fun s H C cl fp c' e1 e2 => ?_, fun s H C cl fp c' e1 e2 => ?_, q2⟩
  · exact par_ok k (by rw [hp v hv]; exact Bool.false_ne_true)
  · exact (cTg_slots h2)
  · exact cTg_ok (kb s H C cl fp ⟨c.T, c.G0, c.H0, c.B, [], c.s0, c.ex⟩ rfl rfl) h2
  · exact cIfs_ok (hT _ _ _ _ (kb s H C cl fp c' e1 e2.2)) h3
  · exact hE _ _ _ _ (kb s H C cl fp c' e1 e2.2) _ _ h4
theorem LcOk.pe (k : XOk c X) (nd : X.N.Nodup) {elt tg iter : Expr} {ifs : List Expr} {scope : Scope} {p : LcP} {pos : Pos} (L : LcOk c W X elt tg iter ifs scope p) : PE X (.ListComp elt [⟨tg, iter, ifs, 0⟩] scope pos) (TEm c W (eLc p.fi p.vs p.tg p.t p.fe)) := by
  obtain ⟨own, e, ok⟩ := L.ok
  have := L.hvp
  have h2 := L.htg
  rw [← e] at this h2 ⊢
  exact pe_eLc k L.calm nd L.hi ok this h2 L.hg L.ht L.he L.hs

/-! ### expressions -/
def cUn : UnaryOp → Option (M Val) → Option (M Val)
  | .Not, f => f.map fun f => eT (tNo (tVal f))
  | .USub, f => f.map eNeg
  | _, _ => none
def plainB : Expr → Bool
  | .Slice .. => false
  | _ => true
theorem plainB_ok {b : Expr} (h : plainB b = true) : PlainIx b := by
  intro o i
  cases b <;> first | rfl | cases h
def cE (cc : Cc) (F : Nat → FnS) (rE : Cc → Expr → Option (M Val)) (rT : Cc → Expr → Option (M Bool)) (e : Expr) : Option (M Val) := match e with
  | .Name x _ => cName cc x
  | .Constant v _ _ => cConst v
  | .BinOp a op b _ => (match rE cc a, rE cc b with
    | some f, some g => some (eBin op f g)
    | _, _ => none)
  | .UnaryOp op a _ => cUn op (rE cc a)
  | .BoolOp .And es _ => cAnd (rE cc) es
  | .BoolOp .Or es _ => cOr (rE cc) es
  | .Compare a ops es _ => (cCmp (rE cc) a ops es).map eT
  | .IfExp t a b _ => (match rT cc t, rE cc a, rE cc b with
    | some t, some f, some g => some (eIf t f g)
    | _, _, _ => none)
  | .Tuple es _ _ => (cArgs (rE cc) es).map eTup
  | .List es _ => (cArgs (rE cc) es).map eLst
  | .Subscript a b _ => if plainB b then (match rE cc a, rE cc b with
    | some f, some g => some (eIx f g)
    | _, _ => none) else none
  | .Call f args ks pos => cCall cc F (rE cc) f args ks pos
  | .ListComp elt gens scope _ => (cLc cc rE rT elt gens scope).map fun p => eLc p.fi p.vs p.tg p.t p.fe
  | _ => none
theorem cE_ok {rE : Cc → Expr → Option (M Val)} {rT : Cc → Expr → Option (M Bool)} (hE : SE F rE) (hT : STt F rT) : SE F (fun cc => cE cc F rE rT) := by
  intro cc c W X k e f h
  have he := hE cc c W X k
  have ht := hT cc c W X k
  dsimp only at h
  unfold cE at h
  split at h
  · exact cName_ok k h
  · exact cConst_ok h
  · split at h
    · rename_i h1 h2; cases h; exact pe_eBin k.x (he _ _ h1) (he _ _ h2)
    · cases h
  · unfold cUn at h
    split at h
    · simp only [Option.map_eq_some_iff] at h
      obtain ⟨f, h1, rfl⟩ := h
      exact pe_eNo k.x (he _ _ h1)
    · simp only [Option.map_eq_some_iff] at h
      obtain ⟨f, h1, rfl⟩ := h
      exact pe_eNeg (he _ _ h1)
    · cases h
  · exact cAnd_ok he h
  · exact cOr_ok he h
  · simp only [Option.map_eq_some_iff] at h
    obtain ⟨f, h1, rfl⟩ := h
    exact (cCmp_ok k.x he h1).2
  · split at h
    · rename_i h1 h2 h3; cases h; exact pe_eIf (ht _ _ h1) (he _ _ h2) (he _ _ h3)
    · cases h
  · simp only [Option.map_eq_some_iff] at h
    obtain ⟨f, h1, rfl⟩ := h
    exact pe_eTup (cArgs_ok he h1).1
  · simp only [Option.map_eq_some_iff] at h
    obtain ⟨f, h1, rfl⟩ := h
    exact pe_eLst (cArgs_ok he h1).1
  · split at h
    · rename_i hb
      split at h
      · rename_i h1 h2; cases h; exact pe_eIx k.x (he _ _ h1) (he _ _ h2) (plainB_ok hb)
      · cases h
    · cases h
  · exact cCall_ok k he h
  · simp only [Option.map_eq_some_iff] at h
    obtain ⟨p, h1, rfl⟩ := h
    obtain ⟨tg, iter, ifs, rfl, L⟩ := cLc_ok hE hT k h1
    exact L.pe k.x k.nd
  · cases h
def plainT : Expr → Bool
  | .UnaryOp .Not _ _ => false
  | .BoolOp .. => false
  | .IfExp .. => false
  | .Compare .. => false
  | _ => true
theorem plainT_ok {a : Expr} {env : Env} (h : plainT a = true) : ∀ whole, isTrue a env whole = (do let v ← whole; standAt a.pos; holding [v] (truthy v)) := by
  intro whole
  cases a <;> first | rfl | (cases h; done) | skip
  rename_i op a p
  cases op <;> first | rfl | cases h
def cT (cc : Cc) (rE : Cc → Expr → Option (M Val)) (rT : Cc → Expr → Option (M Bool)) (e : Expr) : Option (M Bool) := match e with
  | .UnaryOp .Not a _ => (rT cc a).map tNo
  | .BoolOp .And es _ => ctAnd (rT cc) es
  | .BoolOp .Or es _ => ctOr (rT cc) es
  | .Compare a ops es _ => cCmp (rE cc) a ops es
  | e => if plainT e then (rE cc e).map tVal else none
theorem cT_ok {rE : Cc → Expr → Option (M Val)} {rT : Cc → Expr → Option (M Bool)} (hE : SE F rE) (hT : STt F rT) : STt F (fun cc => cT cc rE rT) := by
  intro cc c W X k e f h
  have he := hE cc c W X k
  have ht := hT cc c W X k
  dsimp only at h
  unfold cT at h
  split at h
  · simp only [Option.map_eq_some_iff] at h
    obtain ⟨f, h1, rfl⟩ := h
    exact pt_tNo (ht _ _ h1)
  · exact (ctAnd_ok ht h).pt
  · exact (ctOr_ok ht h).pt
  · exact (cCmp_ok k.x he h).1
  · split at h
    · rename_i hp
      simp only [Option.map_eq_some_iff] at h
      obtain ⟨f, h1, rfl⟩ := h
      exact pt_tVal k.x (he _ _ h1) (plainT_ok hp)
    · cases h
mutual
def compE (F : Nat → FnS) : Nat → Cc → Expr → Option (M Val)
  | 0, _, _ => none
  | n + 1, cc, e => cE cc F (compE F n) (compT F n) e
def compT (F : Nat → FnS) : Nat → Cc → Expr → Option (M Bool)
  | 0, _, _ => none
  | n + 1, cc, e => cT cc (compE F n) (compT F n) e
end
theorem comp_ok : ∀ n : Nat, SE F (compE F n) ∧ STt F (compT F n)
  | 0 => ⟨fun _ _ _ _ _ _ _ h => (by unfold compE at h; cases h), fun _ _ _ _ _ _ _ h => (by unfold compT at h; cases h)⟩
  | n + 1 => by
    obtain ⟨a, b⟩ := comp_ok n
    refine ⟨fun cc c W X k e f h => ?_, fun cc c W X k e f h => ?_⟩
    · unfold compE at h; exact cE_ok a b cc c W X k e f h
    · unfold compT at h; exact cT_ok a b cc c W X k e f h
end
end CT

/-! CT14: statements, compiled. -/
namespace CT
open PySem PySem.Spec PyProof.Rows L2

structure CcS (cc : Cc) (F : Nat → FnS) (c : Gc) (W : WX) (X : Cx) : Prop where
  k : CcOk cc F c W X
  kind : cc.sc.kind = .function
  pas : PassesOwn (model X.prog X.w) X.A X.env X.xe
  stk : X.stack = X.env :: X.outer
  frm : X.env.frame = some X.env.locals
  cls : ∀ y j, cc.cls y = some j → ClsOk X (c.T.cl j) y
  ex : cc.calm = true → c.ex = none
  exm : ∀ k j b, subC cc.nC k j = some b → PySem.W.exmOne X.K (.ref (c.T.cl k)) (.ref (c.T.cl j)) = some b
  kit : ∀ k j b, subC cc.nC k j = some b → PySem.W.kitOne X.K (.ref (c.T.cl k)) (.ref (c.T.cl j)) = some b
  exc : ∀ k, k < cc.nC → ExcC X.K (c.T.cl k)

section
variable {cc : Cc} {F : Nat → FnS} {c : Gc} {W : WX} {X : Cx}
def noComp : Expr → Bool
  | .ListComp .. => false
  | .SetComp .. => false
  | .DictComp .. => false
  | _ => true
theorem swap_no {e : Expr} {t : Option Expr} {n : Nat} {env : Env} (h : noComp e = true) : swapsWith e t n env = pure false := by cases e <;> first | rfl | cases h
theorem sole_no {e t : Expr} {n : Nat} {env : Env} (h : noComp e = true) : swapsWithSole [t] e n env = pure false := by
  unfold swapsWithSole
  exact swap_no h
def isTup : Expr → Bool
  | .Tuple .. => true
  | _ => false
theorem swst_no {e : Expr} {ts : List Expr} {k : Nat} {p : Pos} {env : Env} (h : isTup e = false) : swappedStores [.Tuple ts k p] e env = pure none := by cases e <;> first | rfl | cases h
/-- the test of a comprehension's store -/
def swB (cc : Cc) (scope : Scope) (t : Str) (p vp : Pos) : Bool := (match cc.sc.names.lookup t with | some .local => true | _ => false) && (p.line == vp.line) && !(scope.names.any fun (n, k) => n == t && (k == .local || k == .cell))
theorem swB_ok (k : CcOk cc F c W X) (hk : cc.sc.kind = .function) {elt : Expr} {gens : List Comprehension} {scope : Scope} {t : Str} {p vp : Pos} {n : Nat} : swapsWith (.ListComp elt gens scope vp) (some (.Name t p)) n X.env = pure (swB cc scope t p vp) := by
  show (pure (X.env.blockKind == .function && X.env.kindOf t == some .local && p.line == vp.line && !(scope.names.any fun (n, k) => n == t && (k == .local || k == .cell))) : Sem Bool) = _
  have h1 : X.env.blockKind = .function := by
    unfold Env.blockKind
    rw [k.sc, hk]
    rfl
  have h2 : (X.env.kindOf t == some .local) = (match cc.sc.names.lookup t with | some .local => true | _ => false) := by
    unfold Env.kindOf
    rw [k.sc]
    cases cc.sc.names.lookup t with
    | none => rfl
    | some y => cases y <;> rfl
  rw [h1, h2]
  rfl
def cSet (cc : Cc) (rE : Cc → Expr → Option (M Val)) (rT : Cc → Expr → Option (M Bool)) (x : Str) (p : Pos) (e : Expr) : Option (M Fl) :=
  if cc.loc x then (match ixN cc.N x with
    | some i => if cc.par.contains i then none else (match e with
      | .ListComp elt gens scope vp => if swB cc scope x p vp then (cLc cc rE rT elt gens scope).map fun q => sSet i (eLc q.fi q.vs q.tg q.t q.fe) else (rE cc e).map (sSet i)
      | .List es _ => if cc.ow x then (cArgs (rE cc) es).map (sOwnL i) else (rE cc e).map (sSet i)
      | _ => if noComp e then (rE cc e).map (sSet i) else none)
    | none => none) else none
theorem cSet_ok {rE : Cc → Expr → Option (M Val)} {rT : Cc → Expr → Option (M Bool)} (hE : SE F rE) (hT : STt F rT) (S : CcS cc F c W X) {x : Str} {p pos : Pos} {e : Expr} {f : M Fl} (h : cSet cc rE rT x p e = some f) : PS X (.Assign [.Name x p] e pos) (TSm c W f) := by
  have k := S.k
  have he := hE cc c W X k
  unfold cSet at h
  split at h
  rotate_left
  · cases h
  rename_i hl
  split at h
  rotate_left
  · cases h
  rename_i i hi
  split at h
  · cases h
  rename_i hp
  split at h
  · rename_i elt gens scope vp
    split at h
    · rename_i hsw
      simp only [Option.map_eq_some_iff] at h
      obtain ⟨q, h1, rfl⟩ := h
      obtain ⟨tg, iter, ifs, rfl, L⟩ := cLc_ok hE hT k h1
      obtain ⟨own, e, ok⟩ := L.ok
      have h3 := L.hvp
      have h2 := L.htg
      rw [← e] at h3 h2 ⊢
      refine ps_sSetLc (par_ok k hp) k.x L.calm k.nd (k.ixOk hi) ?_ (by rw [swB_ok k S.kind, hsw]) L.hi ok h3 h2 L.hg L.ht L.he L.hs
      unfold swB at hsw
      simp only [Bool.and_eq_true] at hsw
      rw [k.sc]
      have z := hsw.1.1
      split at z
      · assumption
      · cases z
    · rename_i hsw
      simp only [Option.map_eq_some_iff] at h
      obtain ⟨f, h1, rfl⟩ := h
      exact ps_sSet (par_ok k hp) k.nd (k.ixOk hi) (k.locOk hl).1 (he _ _ h1) (by rw [swB_ok k S.kind, Bool.eq_false_iff.mpr hsw]) (k.locOk hl).2
  · split at h
    · simp only [Option.map_eq_some_iff] at h
      obtain ⟨f, h1, rfl⟩ := h
      exact ps_sOwnL (par_ok k hp) k.nd (k.ixOk hi) (k.locOk hl).1 (cArgs_ok he h1).1 (swap_no rfl) (k.locOk hl).2
    · simp only [Option.map_eq_some_iff] at h
      obtain ⟨f, h1, rfl⟩ := h
      exact ps_sSet (par_ok k hp) k.nd (k.ixOk hi) (k.locOk hl).1 (he _ _ h1) (swap_no rfl) (k.locOk hl).2
  · split at h
    · rename_i hn
      simp only [Option.map_eq_some_iff] at h
      obtain ⟨f, h1, rfl⟩ := h
      exact ps_sSet (par_ok k hp) k.nd (k.ixOk hi) (k.locOk hl).1 (he _ _ h1) (swap_no hn) (k.locOk hl).2
    · cases h
/-- a for's target -/
def cGt (cc : Cc) : Expr → Option (D → M Unit)
  | .Name x _ => if cc.loc x then (match ixN cc.N x with
    | some i => if cc.par.contains i then none else some (gNm i)
    | none => none) else none
  | .Tuple es _ _ => if cc.calm then (cNms cc es).map gTp else none
  | _ => none
theorem cGt_ok (k : CcOk cc F c W X) {tg : Expr} {g : D → M Unit} (h : cGt cc tg = some g) : PG X tg (TGm c g) := by
  unfold cGt at h
  split at h
  · split at h
    · rename_i hl
      split at h
      · rename_i i hi
        split at h
        · cases h
        · rename_i hp
          cases h
          exact pg_gNm (par_ok k hp) k.nd (k.ixOk hi) (k.locOk hl).1 (k.locOk hl).2
      · cases h
    · cases h
  · split at h
    · rename_i hc
      simp only [Option.map_eq_some_iff] at h
      obtain ⟨is, h1, rfl⟩ := h
      obtain ⟨q1, q2, q3, q4⟩ := cNms_ok k h1
      exact pg_gTp k.x (k.calm hc) q1 q2 q3 q4
    · cases h
  · cases h
def cUnp (cc : Cc) (rE : Cc → Expr → Option (M Val)) (es : List Expr) (e : Expr) : Option (M Fl) :=
  if cc.calm && noComp e && !isTup e then (match cNms cc es, rE cc e with
    | some is, some f => some (sUnp is f)
    | _, _ => none) else none
def cAsg (cc : Cc) (rE : Cc → Expr → Option (M Val)) (rT : Cc → Expr → Option (M Bool)) (ts : List Expr) (e : Expr) : Option (M Fl) := match ts with
  | [.Name x p] => cSet cc rE rT x p e
  | [.Tuple es _ _] => cUnp cc rE es e
  | _ => none
def cAug (cc : Cc) (rE : Cc → Expr → Option (M Val)) (t : Expr) (op : Operator) (e : Expr) : Option (M Fl) := match t, op with
  | .Name x _, .Add => if cc.loc x then (match ixN cc.N x with
    | some i => if cc.par.contains i then none else (rE cc e).map (sAugI i)
    | none => none) else none
  | _, _ => none
def cRaise (cc : Cc) : Option Expr → Option Expr → Option (M Fl)
  | some (.Call (.Name x _) [.Constant (.str _) _ _] [] _), none => if cc.calm && cc.gl x && notDbg x then (cc.cls x).map sRaise else none
  | _, _ => none
def Cc.lcl (cc : Cc) (x : Str) : Bool := match cc.sc.names.lookup x with
  | some .local => true
  | _ => false
def Cc.suite (cc : Cc) : Cc := { cc with calm := false, hand := true }
def cTry (cc : Cc) (rS : Cc → List Stmt → Option (M Fl)) (body : List Stmt) (hs : List ExceptHandler) (orelse fin : List Stmt) : Option (M Fl) := match hs, orelse, fin with
  | [.ExceptHandler (some (.Name x _)) (some nm) (b :: su) _], [], [] => (match cc.cls x, ixN cc.N nm with
    | some j, some i => if cc.calm && !cc.hand && !cc.par.contains i && cc.gl x && notDbg x && cc.lcl nm then
      (match rS cc body, rS cc.suite (b :: su) with
        | some f, some g => some (sTry cc.nC f j i g)
        | _, _ => none) else none
    | _, _ => none)
  | _, _, _ => none
def cS (cc : Cc) (rE : Cc → Expr → Option (M Val)) (rT : Cc → Expr → Option (M Bool)) (rS : Cc → List Stmt → Option (M Fl)) (st : Stmt) : Option (M Fl) := match st with
  | .Return (some e) _ => (rE cc e).map sRet
  | .Return none _ => some sRetN
  | .Assign ts e _ => cAsg cc rE rT ts e
  | .AugAssign t op e _ => cAug cc rE t op e
  | .Expr e _ => if noComp e then (rE cc e).map sEx else none
  | .If t a b _ => (match rT cc t, rS cc a, rS cc b with
    | some t, some f, some g => some (sIf t f g)
    | _, _, _ => none)
  | .For tg it body [] _ => if cc.calm then (match cIt cc (rE cc) it, cGt cc tg, rS cc body with
    | some fi, some g, some f => some (sFor fi g f)
    | _, _, _ => none) else none
  | .While t body [] _ => (match rT cc t, rS cc body with
    | some t, some f => some (whileM t f cc.wf)
    | _, _ => none)
  | .Raise e y _ => cRaise cc e y
  | .Try body hs orelse fin _ => cTry cc rS body hs orelse fin
  | .Pass _ => some sNx
  | .Break _ => some sBk
  | .Continue _ => some sCt
  | _ => none
def SSs (F : Nat → FnS) (rS : Cc → List Stmt → Option (M Fl)) : Prop := ∀ (cc : Cc) (c : Gc) (W : WX) (X : Cx), CcS cc F c W X → ∀ ss f, rS cc ss = some f → PSs X ss (TSm c W f)
theorem CcS.tr (S : CcS cc F c W X) (hh : cc.hand = false) {W' : WX} {pn : List (Addr × Obj)} {xe : Value → Shared → Prop} (tk : Takes (X.tr pn xe) W') (pas : PassesOwn (model X.prog X.w) X.A X.env xe) : CcS cc F c W' (X.tr pn xe) where
  k := { x := ⟨S.k.x.K, S.k.x.P, S.k.x.w, S.k.x.hu⟩, N := S.k.N, nd := S.k.nd, sc := S.k.sc, par := S.k.par, fn := S.k.fn, calm := S.k.calm, blt := S.k.blt, fns := S.k.fns, con := S.k.con, tk := tk, ise := fun _ _ _ _ _ _ _ _ h => by rw [hh] at h; cases h }
  kind := S.kind
  pas := pas
  stk := S.stk
  frm := S.frm
  cls := fun y j h => ⟨(S.cls y j h).ex, (S.cls y j h).mg, (S.cls y j h).kp, (S.cls y j h).sub, (S.cls y j h).ty⟩
  ex := S.ex
  exm := S.exm
  kit := S.kit
  exc := S.exc
theorem CcOk.suite (S : CcS cc F c W X) {a : Addr} {oe : Obj} {d : Option Addr} {pn : List (Addr × Obj)} {x : Exn} (hz : Zc (.ref (c.T.cl x.cls)) d oe) (hfd : ∃ vs, oe.data = .fields vs) (hpd : x.pos = none → d = none) : CcOk cc.suite F (c.hand a x) W0 (X.suite a ((a, oe) :: pn)) where
  x := ⟨S.k.x.K, S.k.x.P, S.k.x.w, S.k.x.hu⟩
  N := S.k.N
  nd := S.k.nd
  sc := S.k.sc
  par := S.k.par
  fn := S.k.fn
  calm := fun h => by cases h
  blt := S.k.blt
  fns := fun h => by cases h
  con := S.k.con
  tk := takes0
  ise := fun nm y i j p p1 p2 pos _ hN hj hv hd hg hb hgx hdx => by
    have o := S.cls y j hj
    exact pe_eIsE (c := c.hand a x) (X := X) (y := x) rfl hz hfd hpd S.exc (fun k b => S.kit k j b) (by rw [S.k.N]; exact hN) (S.k.visOk hv) (dbg1 hd) (dbg2 hd) (S.k.glOk hg) (S.k.blt _ hb) (S.k.glOk hgx) o.mg (dbg1 hdx) (star_ok rfl) (star_ok rfl) (star_any (by rfl))
theorem CcS.suite (S : CcS cc F c W X) {a : Addr} {oe : Obj} {d : Option Addr} {pn : List (Addr × Obj)} {x : Exn} (hz : Zc (.ref (c.T.cl x.cls)) d oe) (hfd : ∃ vs, oe.data = .fields vs) (hpd : x.pos = none → d = none) : CcS cc.suite F (c.hand a x) W0 (X.suite a ((a, oe) :: pn)) where
  k := CcOk.suite S hz hfd hpd
  kind := S.kind
  pas := PassesOwn.never
  stk := S.stk
  frm := S.frm
  cls := fun y j h => ⟨(S.cls y j h).ex, (S.cls y j h).mg, (S.cls y j h).kp, (S.cls y j h).sub, (S.cls y j h).ty⟩
  ex := fun h => by cases h
  exm := S.exm
  kit := S.kit
  exc := S.exc
theorem cS_ok {rE : Cc → Expr → Option (M Val)} {rT : Cc → Expr → Option (M Bool)} {rS : Cc → List Stmt → Option (M Fl)} (hE : SE F rE) (hT : STt F rT) (hS : SSs F rS) (S : CcS cc F c W X) {st : Stmt} {f : M Fl} (h : cS cc rE rT rS st = some f) : PS X st (TSm c W f) := by
  have k := S.k
  have he := hE cc c W X k
  have ht := hT cc c W X k
  have hs := hS cc c W X S
  unfold cS at h
  split at h
  · simp only [Option.map_eq_some_iff] at h
    obtain ⟨f, h1, rfl⟩ := h
    exact ps_sRet (he _ _ h1)
  · cases h; exact ps_sRetN
  · unfold cAsg at h
    split at h
    · exact cSet_ok hE hT S h
    · unfold cUnp at h
      split at h
      · rename_i hb
        simp only [Bool.and_eq_true, Bool.not_eq_true'] at hb
        split at h
        · rename_i h1 h2
          cases h
          obtain ⟨q1, q2, q3, q4⟩ := cNms_ok k h1
          exact ps_sUnp k.x (k.calm hb.1.1) q1 q2 q3 q4 (he _ _ h2) (sole_no hb.1.2) (swst_no hb.2) rfl
        · cases h
      · cases h
    · cases h
  · unfold cAug at h
    split at h
    · split at h
      · rename_i hl
        split at h
        · rename_i i hi
          split at h
          · cases h
          · rename_i hp
            simp only [Option.map_eq_some_iff] at h
            obtain ⟨f, h1, rfl⟩ := h
            exact ps_sAugI (par_ok k hp) k.nd (k.ixOk hi) (k.locOk hl).1 (he _ _ h1) (k.locOk hl).2
        · cases h
      · cases h
    · cases h
  · split at h
    · rename_i hn
      simp only [Option.map_eq_some_iff] at h
      obtain ⟨f, h1, rfl⟩ := h
      exact ps_sEx (he _ _ h1) (swap_no hn)
    · cases h
  · split at h
    · rename_i h1 h2 h3
      cases h
      exact ps_sIf (ht _ _ h1) (hs _ _ h2) (hs _ _ h3)
    · cases h
  · split at h
    · rename_i hc
      split at h
      · rename_i h1 h2 h3
        cases h
        obtain ⟨q1, q2⟩ := cIt_ok k he h1
        exact ps_sFor S.pas (k.calm hc) q1 (cGt_ok k h2) (hs _ _ h3) q2
      · cases h
    · cases h
  · split at h
    · rename_i h1 h2
      cases h
      exact ps_sWhile _ S.pas (ht _ _ h1) (hs _ _ h2)
    · cases h
  · unfold cRaise at h
    split at h
    · split at h
      · rename_i hb
        simp only [Bool.and_eq_true] at hb
        simp only [Option.map_eq_some_iff] at h
        obtain ⟨j, h1, rfl⟩ := h
        exact ps_sRaise (k.calm hb.1.1) k.tk (S.cls _ _ h1) (k.glOk hb.1.2) (dbg1 hb.2)
      · cases h
    · cases h
  · unfold cTry at h
    split at h
    · split at h
      · rename_i j i h1 h2
        split at h
        · rename_i hb
          simp only [Bool.and_eq_true, Bool.not_eq_true'] at hb
          split at h
          · rename_i h3 h4
            cases h
            have o := S.cls _ _ h1
            refine ps_sTry (S.ex hb.1.1.1.1.1) (par_ok k (by rw [hb.1.1.1.2]; exact Bool.false_ne_true)) S.stk S.frm k.nd (k.ixOk h2) ?_ ⟨k.glOk hb.1.1.2, dbg1 hb.1.2, .inl o.mg⟩ k.tk (fun k b => S.exm k j b) (fun W' pn xe tk pas => hS _ _ _ _ (S.tr hb.1.1.1.1.2 tk pas) _ _ h3) fun a oe d pn x hz hfd hpd => hS _ _ _ _ (S.suite hz hfd hpd) _ _ h4
            have z := hb.2
            unfold Cc.lcl at z
            unfold Env.kindOf
            rw [k.sc]
            split at z
            · assumption
            · cases z
          · cases h
        · cases h
      · cases h
    · cases h
  · cases h; exact ps_sPass
  · cases h; exact ps_sBk
  · cases h; exact ps_sCt
  · cases h
def cSs (rS : Stmt → Option (M Fl)) : List Stmt → Option (M Fl)
  | [] => some sNx
  | s :: r => match rS s, cSs rS r with
    | some f, some g => some (sSeq f g)
    | _, _ => none
theorem cSs_ok {rS : Stmt → Option (M Fl)} (h0 : ∀ s f, rS s = some f → PS X s (TSm c W f)) : ∀ {ss : List Stmt} {f : M Fl}, cSs rS ss = some f → PSs X ss (TSm c W f)
  | [], f, h => by cases h; exact pss_sNil
  | s :: r, f, h => by
    unfold cSs at h
    split at h
    · rename_i h1 h2
      cases h
      exact pss_sCons (h0 _ _ h1) (cSs_ok h0 h2)
    · cases h
def compS (F : Nat → FnS) : Nat → Cc → List Stmt → Option (M Fl)
  | 0, _, _ => none
  | n + 1, cc, ss => cSs (cS cc (compE F n) (compT F n) (compS F n)) ss
theorem compS_ok : ∀ n : Nat, SSs F (compS F n)
  | 0 => fun _ _ _ _ _ _ _ h => (by unfold compS at h; cases h)
  | n + 1 => fun cc c W X S ss f h => by
    unfold compS at h
    exact cSs_ok (fun s f hs => cS_ok (comp_ok n).1 (comp_ok n).2 (compS_ok n) S hs) h
end
end CT

/-! CT15: a program's table. -/
namespace CT
open PySem PySem.Spec PyProof.Rows L2 PySem.W

structure DfI where
  nm : Str
  st : Stmt
  N : List Str
  ps : List Str
  pp : List Nat
  ow : List Str
structure Tb where
  dfs : List DfI
  cls : List Str
  con : List (Str × D)
  blt : List Str
  wf : Nat
structure BdI where
  pp : List Nat
  L : Nat
  b : (Nat → FnS) → M Fl
def run (bs : List BdI) : Nat → Nat → FnS
  | 0, _ => fun _ => .bad
  | k + 1, i => match bs[i]? with
    | some b => fnRun b.pp b.L (b.b (run bs k))
    | none => fun _ => .bad
def fnIx : List DfI → Str → Option (Nat × Nat)
  | [], _ => none
  | d :: r, x => if d.nm = x then some (0, d.ps.length) else (fnIx r x).map fun p => (p.1 + 1, p.2)
theorem fnIx_ok : ∀ {l : List DfI} {x : Str} {i m : Nat}, fnIx l x = some (i, m) → ∃ df, l[i]? = some df ∧ df.nm = x ∧ m = df.ps.length
  | [], _, _, _, h => by cases h
  | d :: r, x, i, m, h => by
    unfold fnIx at h
    split at h
    · rename_i e; cases h; exact ⟨d, rfl, e, rfl⟩
    · simp only [Option.map_eq_some_iff] at h
      obtain ⟨⟨j, m'⟩, h1, h2⟩ := h
      cases h2
      obtain ⟨df, q1, q2, q3⟩ := fnIx_ok h1
      exact ⟨df, by simpa using q1, q2, q3⟩
def inL : List Str → Str → Bool
  | [], _ => false
  | y :: r, x => if y = x then true else inL r x
theorem inL_ok : ∀ {l : List Str} {x : Str}, inL l x = true → x ∈ l
  | [], _, h => by cases h
  | y :: r, x, h => by
    unfold inL at h
    split at h
    · rename_i e; subst e; exact List.mem_cons_self
    · exact List.mem_cons_of_mem _ (inL_ok h)
def lookD : List (Str × D) → Str → Option D
  | [], _ => none
  | (y, d) :: r, x => if y = x then some d else lookD r x
def ccOf (tb : Tb) (df : DfI) : Cc where
  N := df.N
  sc := defScope df.st
  par := df.pp
  cel := fun _ => true
  calm := true
  hand := false
  ow := inL df.ow
  blt := inL tb.blt
  fns := fnIx tb.dfs
  cls := ixN tb.cls
  nC := tb.cls.length
  con := lookD tb.con
  wf := tb.wf
/-! ### the checks over the written part -/
def faOf (K : Frag) (x : Str) : Addr := match nsIn K mainGlobals x with
  | some (some (.ref a)) => a
  | _ => 0
def obK (K : Frag) (f : Addr) : Obj := (K.lookup f).getD default
def fdK (K : Frag) (f : Addr) : FuncData := match (obK K f).data with
  | .func fd => fd
  | _ => default
def fdOf (K : Frag) (df : DfI) : FuncData := fnOf df.nm df.nm (defArgs df.st) (defBody df.st) (defScope df.st) .none (fdK K (faOf K df.nm)).kwdefaults (fdK K (faOf K df.nm)).doc (fdK K (faOf K df.nm)).pyModule (fdK K (faOf K df.nm)).annotations (fdK K (faOf K df.nm)).code (fdK K (faOf K df.nm)).closureTuple
def lkL (K : Frag) (dfs : List DfI) : List (Option Obj) := dfs.map fun df => K.lookup (faOf K df.nm)
def lkR (K : Frag) (dfs : List DfI) : List (Option Obj) := dfs.map fun df => some ⟨(obK K (faOf K df.nm)).cls, (obK K (faOf K df.nm)).dict, .func (fdOf K df), (obK K (faOf K df.nm)).slots⟩
def excD (K : Frag) (C : Addr) : Bool :=
  decide (findIn K (.ref C) "__getattribute__" = some (some (.builtin "BaseException.__getattribute__"))) && decide (findIn K (.ref C) "__getattr__" = some none) && decide (subIn K (.ref C) (.type "BaseException") = some true) && hasDictIn K C
    && decide (findIn K (.ref C) "__class__" = some (some (.builtin "object.__class__"))) && decide (specialIn K (.builtin "object.__class__") "__get__" = some (some (.builtin "getset_descriptor.__get__"))) && decide (takesIn K (.builtin "object.__class__") = some true) && decide (mroIn K C (.type "object") = some true)
def clC (K : Frag) (y : Str) (C : Addr) : Bool :=
  excIn K C [.type "ValueError", .type "Exception", .type "BaseException", .type "object"] "ValueError.__new__" && decide (nsIn K mainGlobals y = some (some (.ref C))) && keepIn K (.ref C) && decide (typeIn K (.ref C) = some (.type "type")) && excD K C
def clOf (K : Frag) (cls : List Str) (j : Nat) : Addr := match cls[j]? with
  | some y => faOf K y
  | none => 0
def prC (K : Frag) (cls : List Str) : Bool := (List.range cls.length).all fun k => (List.range cls.length).all fun j =>
  decide (exmOne K (.ref (clOf K cls k)) (.ref (clOf K cls j)) = subC cls.length k j) && decide (kitOne K (.ref (clOf K cls k)) (.ref (clOf K cls j)) = subC cls.length k j)
def dfC (K : Frag) (df : DfI) : Bool := decide (nsIn K mainGlobals df.nm = some (some (.ref (faOf K df.nm)))) && keepIn K (.ref (faOf K df.nm)) && codeIn K (fdK K (faOf K df.nm)).code df.nm
def bnC (K : Frag) (y : Str) : Bool := match nsIn K mainGlobals y with
  | some none => true
  | _ => false
def kC (K : Frag) (tb : Tb) : Bool := tb.blt.all (bnC K) && tb.dfs.all (dfC K) && tb.cls.all (fun y => clC K y (faOf K y)) && prC K tb.cls
def fnScC (N ps : List Str) (sc : Scope) : Bool := (match sc.kind with | .function => true | _ => false) && !sc.isCoroutine && !sc.isGenerator && decide N.Nodup && decide (N.take ps.length = ps) && ps.all (fun x => match sc.names.lookup x with | some .local => true | some .cell => true | _ => false) && sc.names.all (fun y => match y.2 with | .free => false | _ => true)
theorem fnScC_ok {N ps : List Str} {sc : Scope} (h : fnScC N ps sc = true) : FnScope N ps sc := by
  unfold fnScC at h
  simp only [Bool.and_eq_true, Bool.not_eq_true', decide_eq_true_eq, List.all_eq_true] at h
  obtain ⟨⟨⟨⟨⟨⟨h1, h2⟩, h3⟩, h4⟩, h5⟩, h6⟩, h7⟩ := h
  refine ⟨?_, h2, h3, h4, h5, fun x hx => ?_, fun y hy e => ?_⟩
  · split at h1
    · assumption
    · cases h1
  · have := h6 x hx
    split at this
    · exact .inl ‹_›
    · exact .inr ‹_›
    · cases this
  · have := h7 y hy
    rw [e] at this
    cases this
inductive AllB (tb : Tb) (n : Nat) : List DfI → List BdI → Prop
  | nil : AllB tb n [] []
  | cons {df : DfI} {b : BdI} {r : List DfI} {bs : List BdI} : (∀ F, compS F n (ccOf tb df) (defBody df.st) = some (b.b F)) → (b.pp = df.pp) → (b.L = df.N.length) → fnScC df.N df.ps (defScope df.st) = true →
      (∀ (kV doc pm : Value) (an : Option Addr) (cdv ct : Value) (us : List Value), us.length = df.ps.length → bindArgs (fnOf df.nm df.nm (defArgs df.st) (defBody df.st) (defScope df.st) .none kV doc pm an cdv ct) ⟨us, []⟩ = pure (df.ps.zip us)) → AllB tb n r bs → AllB tb n (df :: r) (b :: bs)
structure OneB (tb : Tb) (n : Nat) (df : DfI) (b : BdI) : Prop where
  c : ∀ F, compS F n (ccOf tb df) (defBody df.st) = some (b.b F)
  pp : b.pp = df.pp
  L : b.L = df.N.length
  sc : FnScope df.N df.ps (defScope df.st)
  bd : ∀ (kV doc pm : Value) (an : Option Addr) (cdv ct : Value) (us : List Value), us.length = df.ps.length → bindArgs (fnOf df.nm df.nm (defArgs df.st) (defBody df.st) (defScope df.st) .none kV doc pm an cdv ct) ⟨us, []⟩ = pure (df.ps.zip us)
theorem AllB.get {tb : Tb} {n : Nat} : ∀ {l : List DfI} {bs : List BdI}, AllB tb n l bs → ∀ {i : Nat} {df : DfI}, l[i]? = some df → ∃ b, bs[i]? = some b ∧ OneB tb n df b
  | _, _, .nil, i, df, h => by simp at h
  | _, _, .cons h1 h2 h3 h4 h5 r, 0, df, h => by cases h; exact ⟨_, rfl, h1, h2, h3, fnScC_ok h4, h5⟩
  | _, _, .cons _ _ _ _ _ r, i + 1, df, h => by
    obtain ⟨b, q1, q2⟩ := r.get (i := i) (by simpa using h)
    exact ⟨b, by simpa using q1, q2⟩
theorem lk_get {K : Frag} : ∀ {l : List DfI}, lkL K l = lkR K l → ∀ {df : DfI}, df ∈ l → K.lookup (faOf K df.nm) = some ⟨(obK K (faOf K df.nm)).cls, (obK K (faOf K df.nm)).dict, .func (fdOf K df), (obK K (faOf K df.nm)).slots⟩
  | [], _, df, h => by cases h
  | d :: r, e, df, h => by
    unfold lkL lkR at e
    simp only [List.map_cons, List.cons.injEq] at e
    rcases List.mem_cons.mp h with rfl | h
    · exact e.1
    · exact lk_get (l := r) e.2 h

section
variable {P : Program} {w : World} {K : Frag} {mg : Str → Option Value} {base h : Heap} {tb : Tb} {bs : List BdI} {n : Nat}
theorem pr_get {cls : List Str} (h : prC K cls = true) {k j : Nat} {b : Bool} (hb : subC cls.length k j = some b) : exmOne K (.ref (clOf K cls k)) (.ref (clOf K cls j)) = some b ∧ kitOne K (.ref (clOf K cls k)) (.ref (clOf K cls j)) = some b := by
  unfold prC at h
  simp only [List.all_eq_true, List.mem_range, Bool.and_eq_true, decide_eq_true_eq] at h
  have hk : k < cls.length ∧ j < cls.length := by
    unfold subC at hb
    split at hb
    · assumption
    · cases hb
  have := h k hk.1 j hk.2
  rw [hb] at this
  exact this
theorem cl_get {cls : List Str} (h : cls.all (fun y => clC K y (faOf K y)) = true) {j : Nat} {y : Str} (hy : cls[j]? = some y) : clC K y (clOf K cls j) = true := by
  simp only [List.all_eq_true] at h
  have := h y (List.mem_of_getElem? hy)
  unfold clOf
  rw [hy]
  exact this
theorem excD_ok {C : Addr} (h : excD K C = true) : ExcC K C := by
  unfold excD at h
  simp only [Bool.and_eq_true, decide_eq_true_eq] at h
  obtain ⟨⟨⟨⟨⟨⟨⟨h1, h2⟩, h3⟩, h4⟩, h5⟩, h6⟩, h7⟩, h8⟩ := h
  exact ⟨h1, h2, h3, h4, h5, h6, h7, h8⟩
theorem all_ok (KX : K.In h) (G : h.Ns mainGlobals mg) (B : AllB tb n tb.dfs bs) (hk : kC K tb = true) (hl : lkL K tb.dfs = lkR K tb.dfs) (hcon : ∀ y d, lookD tb.con y = some d → ∃ v u, mg y = some u ∧ RelV v u ∧ ∀ G, Rl ⟨P, w, K, clOf K tb.cls⟩ G v d) :
    ∀ (j : Nat) {i : Nat} {df : DfI}, tb.dfs[i]? = some df → FnOk P w K mg base (L2.CX P w) j (faOf K df.nm) (fdOf K df) df.ps (SpF ⟨P, w, K, clOf K tb.cls⟩ df.ps.length (run bs j i))
  | 0, i, df, hd => ⟨fun vs H Q E hsp => by obtain ⟨G, ss, hl, sm, ha, nd, PC⟩ := hsp; exact PC.elim, fun A outer s H args us vs Q E hr he hb hv hsp => by obtain ⟨G, ss, hl, sm, ha, nd, PC⟩ := hsp; exact PC.elim⟩
  | j + 1, i, df, hd => by
    have ih := fun {i : Nat} {df : DfI} hd => all_ok KX G B hk hl hcon j (i := i) (df := df) hd
    obtain ⟨b, hb, O⟩ := B.get hd
    have hk0 := hk
    unfold kC at hk
    simp only [Bool.and_eq_true] at hk
    obtain ⟨⟨⟨k1, k2⟩, k3⟩, k4⟩ := hk
    have dfk : ∀ {df' : DfI}, df' ∈ tb.dfs → nsIn K mainGlobals df'.nm = some (some (.ref (faOf K df'.nm))) ∧ keepIn K (.ref (faOf K df'.nm)) = true ∧ codeIn K (fdK K (faOf K df'.nm)).code df'.nm = true := fun {df'} hm => by
      simp only [List.all_eq_true] at k2
      have := k2 df' hm
      unfold dfC at this
      simp only [Bool.and_eq_true, decide_eq_true_eq] at this
      exact ⟨this.1.1, this.1.2, this.2⟩
    have fo : ∀ {df' : DfI}, df' ∈ tb.dfs → Fun K df'.nm df'.nm df'.st (faOf K df'.nm) (fdOf K df') := fun {df'} hm => fun_mk (lk_get hl hm) (dfk hm).2.2 (dfk hm).2.1
    have me : df ∈ tb.dfs := List.mem_of_getElem? hd
    have e : run bs (j + 1) i = fnRun df.pp df.N.length (b.b (run bs j)) := by
      show (match bs[i]? with | some b => fnRun b.pp b.L (b.b (run bs j)) | none => fun _ => .bad) = _
      rw [hb]
      show fnRun b.pp b.L (b.b (run bs j)) = _
      rw [O.pp, O.L]
    rw [e]
    refine fn_ok (fo me) O.sc fun cdv A outer s H E c hT hx hp hr => ?_
    refine compS_ok n (ccOf tb df) c _ _ ?_ _ _ (O.c (run bs j))
    have clg : ∀ {y : Str} {j : Nat}, ixN tb.cls y = some j → clC K y (clOf K tb.cls j) = true := fun hy => cl_get k3 (ixN_ok hy)
    exact {
      k := {
        x := ⟨by rw [hT]; rfl, by rw [hT]; rfl, by rw [hT]; rfl, by
          have := hr.un
          show Around.units (A.deeper _) + 70 < cLine
          omega⟩
        N := rfl
        nd := O.sc.nd
        sc := rfl
        par := hp
        fn := fun _ _ => rfl
        calm := fun _ => rfl
        blt := fun y hy => by
          simp only [List.all_eq_true] at k1
          have := k1 y (inL_ok hy)
          unfold bnC at this
          split at this
          · rename_i q; exact mg_none_of KX G q
          · cases this
        fns := fun _ y i' m hy => by
          obtain ⟨df', q1, rfl, rfl⟩ := fnIx_ok hy
          have me' := List.mem_of_getElem? q1
          have F' := fo me'
          obtain ⟨b', hb', O'⟩ := B.get q1
          refine ⟨j, faOf K df'.nm, fdOf K df', df'.ps, ?_, hr, mg_of KX G (dfk me').1, (dfk me').2.1, F'.binds O'.bd⟩
          rw [hT]
          exact ih q1
        con := fun y d hy => by rw [hT]; exact hcon y d hy
        tk := takes_of rfl rfl rfl rfl
        ise := fun _ _ _ _ _ _ _ _ h => by cases h }
      kind := O.sc.kind
      pas := passes_of rfl
      stk := rfl
      frm := rfl
      cls := fun y j hy => by
        have q := clg hy
        rw [hT]
        unfold clC at q
        simp only [Bool.and_eq_true, decide_eq_true_eq] at q
        exact ⟨q.1.1.1.1, mg_of KX G q.1.1.1.2, q.1.1.2, (excD_ok q.2).hs, q.1.2⟩
      ex := fun _ => hx
      exm := fun k j b hb => by rw [hT]; exact (pr_get k4 hb).1
      kit := fun k j b hb => by rw [hT]; exact (pr_get k4 hb).2
      exc := fun k hk => by
        rw [hT]
        have hk' : k < tb.cls.length := hk
        have q := cl_get k3 (List.getElem?_eq_getElem hk')
        unfold clC at q
        simp only [Bool.and_eq_true] at q
        exact excD_ok q.2 }
/-- the law's own head: its promise -/
theorem law_sp {T : Ct} {bs : List BdI} {j i : Nat} {K : Frag} (hK : T.K = K) {H : Hp} {a : Addr} {ns : List Int} (hS : SqL K H a (ns.map V.int)) (hr : ∃ ss, run bs j i [.scr ns] = .ok (.bool true) ss) : SpF T 1 (run bs j i) [.ref a] H (fun v _ => v = .bl true) fun _ _ _ => False := by
  obtain ⟨ss, e⟩ := hr
  subst hK
  refine ⟨H, [.scr ns], rfl, Same.refl _, .cons ⟨a, rfl, hS⟩ .nil, ?_, ?_⟩
  · intro i j o o' b h1 h2 h3 h4
    cases i with
    | zero => simp at h1
    | succ i => simp at h1
  · rw [e]
    intro G' H' v _ hv
    cases hv
    rfl
theorem walk_ct {l : PySem.W.OpenLaw} {q : Program} {loose : List Str} {XP : (Str → Option Value) → Heap → Prop} {YP : World → Heap → Prop} {d : DefRec} {K : Params → Frag} {tb : Tb} {bs : List BdI} {n j i : Nat} {df : DfI} (hn : l.most = some 63) (hdf : d.params.defaults = []) (hY : ∀ (w : World) (h : Heap), YP w h → (K w.params).In h)
    (hk : ∀ p : Params, kC (K p) tb = true) (hl : ∀ p : Params, lkL (K p) tb.dfs = lkR (K p) tb.dfs) (B : AllB tb n tb.dfs bs) (hcon : tb.con = []) (hi : tb.dfs[i]? = some df) (hdn : d.name = df.nm) (hps : df.ps = [("script" : Str)]) (hj : Room j callerA)
    (main : ∀ ns : List Int, ns.length ≤ 63 → ∃ outs, run bs j i [.scr ns] = .ok (.bool true) outs) : PySem.W.WalkO q loose XP YP l.row.toRowW d [] (fun f vs => PySem.call f vs) := by
  refine L2.walk_of (l := l) (n := 63) (k := j) (x := "script") (CX := fun w => L2.CX l.prog w) (sp := fun w => SpF ⟨l.prog, w, K w.params, clOf (K w.params) tb.cls⟩ 1 (run bs j i)) hn (by decide) hdf hj hY (fun w mg fa h KX G hmg => ?_) (fun w H a ns hlen _ hS => law_sp rfl hS (main ns hlen)) ?_
  · have hk1 := hk w.params
    unfold kC at hk1
    simp only [Bool.and_eq_true, List.all_eq_true] at hk1
    have q := hk1.1.1.2 df (List.mem_of_getElem? hi)
    unfold dfC at q
    simp only [Bool.and_eq_true, decide_eq_true_eq] at q
    have e := hmg.symm.trans ((congrArg mg hdn).trans (mg_of KX G q.1.1))
    cases e
    obtain ⟨b, hb, O⟩ := B.get hi
    refine ⟨fdOf (K w.params) df, fun s u => ?_, fun base _ _ => ?_⟩
    · have := O.bd (fdK (K w.params) (faOf (K w.params) df.nm)).kwdefaults (fdK (K w.params) (faOf (K w.params) df.nm)).doc (fdK (K w.params) (faOf (K w.params) df.nm)).pyModule (fdK (K w.params) (faOf (K w.params) df.nm)).annotations (fdK (K w.params) (faOf (K w.params) df.nm)).code (fdK (K w.params) (faOf (K w.params) df.nm)).closureTuple [u] (by rw [hps]; rfl)
      rw [hps] at this
      exact .of_eq this
    · have := all_ok (P := l.prog) (w := w) (base := base) KX G B (hk w.params) (hl w.params) (fun y d h => by rw [hcon] at h; cases h) j hi
      rw [hps] at this
      exact this
  · intro w H s e s' h
    obtain ⟨_, _, _, _, _, _, _, _, _, _, _, _, _, _, _, _, z⟩ := h
end
end CT

/-! CT16: _law_row. -/
namespace CT
open PySem PySem.Spec PyProof.Rows L2

def cellB : M Fl :=
    (sSeq (sIf (tCm .Lt (eVar 1) (eLen (eVar 0))) (sSeq (sRet (eIx (eVar 0) (eVar 1)))
    sNx) sNx)
    (sSeq (sRet (eC (.int 0)))
    sNx))
theorem cell_run (ns : List Int) (k : Int) (hk : 0 ≤ k) : ∃ v, fnRun [0, 1] 2 cellB [.scr ns, .d (.int k)] = .ok (.int v) [.no, .no] := by
  by_cases h : k < (ns.length : Int)
  · have hg : k.toNat < ns.length := by omega
    have e : atI (ns.map PyData.int) k = some (.int ns[k.toNat]) := by
      have z : atI (ns.map PyData.int) (k.toNat : Int) = some (.int ns[k.toNat]) := atI_nat (by simp [hg])
      rw [show ((k.toNat : Nat) : Int) = k by omega] at z
      exact z
    refine ⟨ns[k.toNat], ?_⟩
    simp [fnRun, fnRun0, ownIn, cellB, sSeq, sIf, tCm, mBind, eVar, eLen, len1, viewR, lenD, cm2, view, cop, dLtI, h, sRet, eIx, ix2, ixD, e, toD, mPure, keepOwn]
  · refine ⟨0, ?_⟩
    simp [fnRun, fnRun0, ownIn, cellB, sSeq, sIf, tCm, mBind, eVar, eLen, len1, viewR, lenD, cm2, view, cop, dLtI, h, sRet, eC, toD, mPure, keepOwn, sNx]
def rowS (Fc : FnS) : M Fl := (sSeq (sIf (tCm .Lt (eCall 2 Fc (aCons (eVar 0) (aCons (eVar 1) aNil))) (eBin .Pow (eC (.int 10)) (eC (.int 18)))) (sSeq (sSet 2 (eBin .Mod (eBin .Add (eBin .Add (eBin .Add (eBin .Mult (eVar 2) (eC (.int 48271))) (eBin .Mult (eC (.int 131)) (eVar 4))) (eC (.int 7))) (eCall 2 Fc (aCons (eVar 0) (aCons (eBin .Mod (eBin .Add (eBin .Add (eVar 1) (eC (.int 1))) (eVar 4)) (eC (.int 20))) aNil)))) (eC (.int 2147483647))))
    (sSeq (sEx (eApp 3 (eBin .Mod (eBin .FloorDiv (eVar 2) (eC (.int 11))) (eC (.int 1000)))))
    sNx)) (sSeq (sEx (eApp 3 (eBin .Mod (eVar 2) (eC (.int 1000)))))
    (sSeq (sSet 2 (eBin .FloorDiv (eVar 2) (eC (.int 1000))))
    sNx)))
    sNx)
def rowB (Fc : FnS) : M Fl :=
    (sSeq (sSet 2 (eCall 2 Fc (aCons (eVar 0) (aCons (eVar 1) aNil))))
    (sSeq (sOwnL 3 aNil)
    (sSeq (sFor (iRange1 (eC (.int 60))) (gNm 4) (rowS Fc))
    (sSeq (sRet (eVar 3))
    sNx))))
section
variable {ns : List Int} {Fc : FnS} (hF : ∀ k : Int, 0 ≤ k → ∃ v, Fc [.scr ns, .d (.int k)] = .ok (.int v) [.no, .no])
include hF
theorem row_step (n : Int) (hn : 0 ≤ n) (cell : Int) (ds : List D) (hd : ds.length < 100) (t : Int) : ∃ cell' x, 0 ≤ x ∧ x < 1000 ∧ rowS Fc [.scr ns, .d (.int n), .d (.int cell), .own (.lst ds), .d (.int t)] = .ok .nx [.scr ns, .d (.int n), .d (.int cell'), .own (.lst (ds ++ [.int x])), .d (.int t)] := by
  obtain ⟨v, hv⟩ := hF n hn
  have hl : ds.length < lim := Nat.lt_trans hd (by decide)
  have hm : (0 : Int) ≤ (n + 1 + t) % 20 := Int.emod_nonneg _ (by decide)
  obtain ⟨v2, hv2⟩ := hF ((n + 1 + t) % 20) hm
  by_cases h : v < 1000000000000000000
  · refine ⟨(cell * 48271 + 131 * t + 7 + v2) % 2147483647, (cell * 48271 + 131 * t + 7 + v2) % 2147483647 / 11 % 1000, Int.emod_nonneg _ (by decide), Int.emod_lt_of_pos _ (by decide), ?_⟩
    simp [rowS, sSeq, sIf, tCm, mBind, eCall, callN, callM, aCons, aNil, eVar, argSlots, argSlot, slNd, isSl, isD, fixS, List.findIdx?_cons, List.findIdx?_nil, hv, hv2, wb, cm2, view, cop, dLtI, eBin, eC, op2, bop, bPow, bMul, bAdd, bMod, bDiv, two64, h, sSet, sEx, eApp, onL, toD, mPure, sNx, hl]
  · refine ⟨cell / 1000, cell % 1000, Int.emod_nonneg _ (by decide), Int.emod_lt_of_pos _ (by decide), ?_⟩
    simp [rowS, sSeq, sIf, tCm, mBind, eCall, callN, callM, aCons, aNil, eVar, argSlots, argSlot, slNd, isSl, isD, fixS, List.findIdx?_cons, List.findIdx?_nil, hv, wb, cm2, view, cop, dLtI, eBin, eC, op2, bop, bPow, bMul, bAdd, bMod, bDiv, two64, h, sSet, sEx, eApp, onL, toD, mPure, sNx, hl]
theorem row_loop (n : Int) (hn : 0 ≤ n) : ∀ (ts : List Int) (cell : Int) (ds : List Int) (s : Slot), ds.length + ts.length ≤ 60 → (∀ x ∈ ds, 0 ≤ x ∧ x < 1000) → ∃ (cell' : Int) (ds' : List Int) (s' : Slot), ds'.length = ds.length + ts.length ∧ (∀ x ∈ ds', 0 ≤ x ∧ x < 1000) ∧
    forM (gNm 4) (rowS Fc) (ts.map PyData.int) [.scr ns, .d (.int n), .d (.int cell), .own (.lst (ds.map PyData.int)), s] = .ok .nx [.scr ns, .d (.int n), .d (.int cell'), .own (.lst (ds'.map PyData.int)), s']
  | [], cell, ds, s, hl, hb => ⟨cell, ds, s, by simp, hb, rfl⟩
  | t :: ts, cell, ds, s, hl, hb => by
    obtain ⟨c1, x, x0, x1, e⟩ := row_step hF n hn cell (ds.map PyData.int) (by simp only [List.length_map, List.length_cons] at hl ⊢; omega) t
    obtain ⟨c2, ds2, s2, l2, b2, e2⟩ := row_loop n hn ts c1 (ds ++ [x]) (.d (.int t)) (by simp only [List.length_append, List.length_cons, List.length_nil] at hl ⊢; omega) (fun y hy => by
      rcases List.mem_append.mp hy with hy | hy
      · exact hb y hy
      · simp only [List.mem_singleton] at hy; subst hy; exact ⟨x0, x1⟩)
    refine ⟨c2, ds2, s2, by simp only [List.length_append, List.length_cons, List.length_nil] at l2 ⊢; omega, b2, ?_⟩
    have e' : rowS Fc [.scr ns, .d (.int n), .d (.int cell), .own (.lst (ds.map PyData.int)), .d (.int t)] = .ok .nx [.scr ns, .d (.int n), .d (.int c1), .own (.lst ((ds ++ [x]).map PyData.int)), .d (.int t)] := by rw [e]; simp
    show (match rowS Fc [.scr ns, .d (.int n), .d (.int cell), .own (.lst (ds.map PyData.int)), .d (.int t)] with
      | .ok .nx r2 => forM (gNm 4) (rowS Fc) (ts.map PyData.int) r2
      | .ok .ct r2 => forM (gNm 4) (rowS Fc) (ts.map PyData.int) r2
      | .ok .bk r2 => .ok .nx r2
      | .ok (.ret x) r2 => .ok (.ret x) r2
      | .exc x r2 => .exc x r2
      | .bad => .bad) = _
    rw [e']
    exact e2
theorem row_run (n : Int) (hn : 0 ≤ n) (pp : List Nat) : ∃ ds : List Int, ds.length = 60 ∧ (∀ x ∈ ds, 0 ≤ x ∧ x < 1000) ∧ fnRun pp 5 (rowB Fc) [.scr ns, .d (.int n)] = .ok (.list (ds.map PyData.int)) [.no, .no] := by
  obtain ⟨v, hv⟩ := hF n hn
  obtain ⟨c, ds, s, l, b, e⟩ := row_loop hF n hn ((List.range 60).map fun (i : Nat) => (0 : Int) + (i : Int)) v [] .no (by simp) (by simp)
  refine ⟨ds, by simpa using l, b, ?_⟩
  have e' : forM (gNm 4) (rowS Fc) (rngD 0 60) [.scr ns, .d (.int n), .d (.int v), .own (.lst []), .no] = .ok .nx [.scr ns, .d (.int n), .d (.int c), .own (.lst (ds.map PyData.int)), s] := by
    rw [← e]
    unfold rngD
    rw [List.map_map]
    rfl
  simp [fnRun, fnRun0, ownIn, rowB, sSeq, sSet, mBind, eCall, callN, callM, aCons, aNil, eVar, argSlots, argSlot, slNd, isSl, isD, fixS, List.findIdx?_cons, List.findIdx?_nil, hv, wb, toD, toDs, mPure, sOwnL, sFor, iRange1, r62, eC, e', sRet, keepOwn]
end
end CT
namespace CT
open PySem PySem.Spec PyProof.Rows L2
/-! ### steps by hand -/
theorem sq {f g : M Fl} {r r' : Rho} {o : Out Fl} (h : f r = .ok .nx r') (k : g r' = o) : sSeq f g r = o := by
  unfold sSeq
  rw [h]
  exact k
theorem sqR {f g : M Fl} {r r' : Rho} {d : D} (h : f r = .ok (.ret d) r') : sSeq f g r = .ok (.ret d) r' := by
  unfold sSeq
  rw [h]
theorem sfor_ok {fi : M (List D)} {g : D → M Unit} {b : M Fl} {items : List D} {r r1 : Rho} {o : Out Fl} (h : fi r = .ok items r1) (k : forM g b items r1 = o) : sFor fi g b r = o := by
  unfold sFor mBind
  rw [h]
  exact k
theorem run_ret {pp : List Nat} {L : Nat} {fb : M Fl} {ss : List Slot} {d : D} {r' : Rho} (ho : ownIn pp 0 ss = true) (h : fb (ss ++ List.replicate (L - ss.length) .no) = .ok (.ret d) r') : fnRun pp L fb ss = .ok d ((r'.take ss.length).map keepOwn) := by
  unfold fnRun fnRun0
  rw [if_pos ho, h]
theorem run_nx {pp : List Nat} {L : Nat} {fb : M Fl} {ss : List Slot} {r' : Rho} (ho : ownIn pp 0 ss = true) (h : fb (ss ++ List.replicate (L - ss.length) .no) = .ok .nx r') : fnRun pp L fb ss = .ok .none ((r'.take ss.length).map keepOwn) := by
  unfold fnRun fnRun0
  rw [if_pos ho, h]
theorem for_cons {g : D → M Unit} {b : M Fl} {d : D} {ds : List D} {r r1 r2 : Rho} (h1 : g d r = .ok () r1) (h2 : b r1 = .ok .nx r2) : forM g b (d :: ds) r = forM g b ds r2 := by
  show (match g d r with | .ok _ r1 => _ | .exc x r1 => _ | .bad => _) = _
  rw [h1]
  dsimp only
  rw [h2]
theorem rng_succ (lo : Int) (m : Nat) : rngD lo (m + 1) = .int lo :: rngD (lo + 1) m := by
  unfold rngD
  rw [List.range_succ_eq_map, List.map_cons, List.map_map]
  congr 1
  · simp
  · refine List.map_congr_left fun i _ => ?_
    show PyData.int (lo + ((i + 1 : Nat) : Int)) = PyData.int (lo + 1 + (i : Int))
    congr 1
    omega
theorem ok_bind {α β : Type} {m : M α} {k : α → M β} {r r' : Rho} {a : α} (h : m r = .ok a r') : mBind m k r = k a r' := by
  unfold mBind
  rw [h]
/-- a call whose arguments are all data -/
theorem call_d {n : Nat} {F : FnS} {fs : M (List Val)} {xs : List D} {d : D} {outs : List Slot} {r : Rho} (h : fs r = .ok (xs.map Val.d) r) (hn : xs.length = n) (hF : F (xs.map Slot.d) = .ok d outs) : eCall n F fs r = .ok (.d d) r := by
  unfold eCall
  rw [ok_bind h]
  unfold callN
  rw [if_pos (by simpa using hn)]
  unfold callM
  have e : ∀ xs : List D, argSlots r (xs.map Val.d) = some (xs.map Slot.d) := fun xs => by
    induction xs with
    | nil => rfl
    | cons x xs ih => simp only [List.map_cons, argSlots, ih, argSlot, Option.bind_some, Option.map_some]
  have e2 : ∀ xs : List D, slNd (xs.map Val.d) = true := fun xs => by
    induction xs with
    | nil => rfl
    | cons x xs ih => exact ih
  have e3 : ∀ xs : List D, (xs.map Val.d).all isD = true := fun xs => by
    induction xs with
    | nil => rfl
    | cons x xs ih => simpa [isD] using ih
  rw [e xs]
  dsimp only
  rw [e2 xs, if_pos rfl, hF]
  dsimp only
  unfold wb
  rw [if_pos (e3 xs)]
theorem draw_get {ds : List Int} (hl : ds.length = 60) (hb : ∀ x ∈ ds, 0 ≤ x ∧ x < 1000) (j : Nat) (hj : j < 60) : ∃ x, atI (ds.map PyData.int) (j : Int) = some (.int x) ∧ 0 ≤ x ∧ x < 1000 :=
  ⟨ds[j]'(by omega), atI_nat (by rw [List.getElem?_map, List.getElem?_eq_getElem (by omega)]; rfl), hb _ (List.getElem_mem _)⟩
theorem rng1_ok {fa : M Val} {r r' : Rho} {m : Int} (h : fa r = .ok (.d (.int m)) r') (hm : r62 m = true) : iRange1 fa r = .ok (rngD 0 m.toNat) r' := by
  unfold iRange1
  rw [ok_bind h]
  dsimp only
  rw [if_pos hm]
theorem rng2_ok {fa fb : M Val} {r r' r'' : Rho} {l m : Int} (h : fa r = .ok (.d (.int l)) r') (h2 : fb r' = .ok (.d (.int m)) r'') (hm : (r62 l && r62 m) = true) : iRange2 fa fb r = .ok (rngD l (m - l).toNat) r'' := by
  unfold iRange2
  rw [ok_bind h, ok_bind h2]
  dsimp only
  rw [if_pos hm]
theorem if_t {t : M Bool} {f g : M Fl} {r r' : Rho} {o : Out Fl} (h : t r = .ok true r') (k : f r' = o) : sIf t f g r = o := by
  unfold sIf
  rw [ok_bind h]
  exact k
theorem if_f {t : M Bool} {f g : M Fl} {r r' : Rho} {o : Out Fl} (h : t r = .ok false r') (k : g r' = o) : sIf t f g r = o := by
  unfold sIf
  rw [ok_bind h]
  exact k
theorem set_ok {i : Nat} {fa : M Val} {r r' : Rho} {d : D} (h : fa r = .ok (.d d) r') : sSet i fa r = .ok .nx (r'.set i (.d d)) := by
  unfold sSet
  rw [ok_bind h]
  rfl
theorem ret_ok {fa : M Val} {r r' : Rho} {d : D} (h : fa r = .ok (.d d) r') : sRet fa r = .ok (.ret d) r' := by
  unfold sRet
  rw [ok_bind h]
  rfl
theorem ex_ok {fa : M Val} {r r' : Rho} {v : Val} (h : fa r = .ok v r') : sEx fa r = .ok .nx r' := by
  unfold sEx
  rw [ok_bind h]
theorem bin_ok {op : Operator} {fa fb : M Val} {r : Rho} {x y z : D} (h1 : fa r = .ok (.d x) r) (h2 : fb r = .ok (.d y) r) (h : bop op x y = some z) : eBin op fa fb r = .ok (.d z) r := by
  unfold eBin
  rw [ok_bind h1, ok_bind h2]
  show op2 (bop op) (.d x) (.d y) r = _
  unfold op2 CT.view
  dsimp only
  rw [h]
theorem cm_ok {op : CmpOp} {fa fb : M Val} {r : Rho} {x y : D} {b : Bool} (h1 : fa r = .ok (.d x) r) (h2 : fb r = .ok (.d y) r) (h : cop op x y = some b) : tCm op fa fb r = .ok b r := by
  unfold tCm
  rw [ok_bind h1, ok_bind h2]
  show cm2 (cop op) (.d x) (.d y) r = _
  unfold cm2 CT.view
  dsimp only
  rw [h]
theorem val_b {fa : M Val} {r : Rho} {b : Bool} (h : fa r = .ok (.d (.bool b)) r) : tVal fa r = .ok b r := by
  unfold tVal
  rw [ok_bind h]
  rfl
theorem no_ok {t : M Bool} {r : Rho} {b : Bool} (h : t r = .ok b r) : tNo t r = .ok (!b) r := by
  unfold tNo
  rw [ok_bind h]
theorem eT_ok {t : M Bool} {r r' : Rho} {b : Bool} (h : t r = .ok b r') : eT t r = .ok (.d (.bool b)) r' := by
  unfold eT
  rw [ok_bind h]
  rfl
theorem arg_ok {fa : M Val} {fr : M (List Val)} {r : Rho} {x : D} {xs : List D} (h1 : fa r = .ok (.d x) r) (h2 : fr r = .ok (xs.map Val.d) r) : aCons fa fr r = .ok ((x :: xs).map Val.d) r := by
  unfold aCons
  rw [ok_bind h1, ok_bind h2]
  rfl
theorem oo_t {s t : M Bool} {r r' : Rho} (h : s r = .ok true r') : tOo s t r = .ok true r' := by
  unfold tOo
  rw [ok_bind h]
  rfl
theorem oo_f {s t : M Bool} {r r' : Rho} {o : Out Bool} (h : s r = .ok false r') (k : t r' = o) : tOo s t r = o := by
  unfold tOo
  rw [ok_bind h]
  exact k
theorem lc_t {vs : List Nat} {tg : Tgt} {t : M Bool} {e : M Val} {d y : D} {ds ys : List D} {r r1 r2 r3 r' : Rho} (h1 : tgS tg d r = .ok () r1) (h2 : t r1 = .ok true r2) (h3 : eD e r2 = .ok y r3) (h4 : lcGo vs tg t e ds (wipeR r3 vs) = some (ys, r')) : lcGo vs tg t e (d :: ds) r = some (y :: ys, r') := by
  unfold lcGo
  rw [h1]
  dsimp only
  rw [h2]
  dsimp only
  rw [h3]
  dsimp only
  rw [h4]
  rfl
theorem lc_f {vs : List Nat} {tg : Tgt} {t : M Bool} {e : M Val} {d : D} {ds ys : List D} {r r1 r2 r' : Rho} (h1 : tgS tg d r = .ok () r1) (h2 : t r1 = .ok false r2) (h4 : lcGo vs tg t e ds (wipeR r2 vs) = some (ys, r')) : lcGo vs tg t e (d :: ds) r = some (ys, r') := by
  unfold lcGo
  rw [h1]
  dsimp only
  rw [h2]
  exact h4
theorem lc_of {fi : M (List D)} {vs : List Nat} {tg : Tgt} {t : M Bool} {e : M Val} {items ys : List D} {r r1 r' : Rho} (h1 : fi r = .ok items r1) (h2 : lcGo vs tg t e items (wipeR r1 vs) = some (ys, r')) (hl : ys.length ≤ lim) : eLc fi vs tg t e r = .ok (.d (.list ys)) (CT.restore r1 r' vs) := by
  unfold eLc
  rw [ok_bind h1, h2]
  exact if_pos hl
end CT

namespace K04
open PySem PySem.Spec PyProof.Rows L2 PySem.W CT
def stAt (i : Nat) : Stmt := PySem.Challenge.pw_cardtrick_k04_feasibility_bounds.main.body.getD i (.Pass ⟨0, 0, 0, 0⟩)
abbrev wf : Nat := 400
/-- in_range -/
def b0 (F : Nat → FnS) : M Fl :=
    (sSeq (sRet (eAn (eIsi .int (eVar 0)) (eAn (eT (tNo (tVal (eIsi .bool (eVar 0))))) (eT (tCh .LtE .LtE (eVar 1) (eVar 0) (eVar 2))))))
    sNx)
/-- falling_factorial -/
def b1 (F : Nat → FnS) : M Fl :=
    (sSeq (sSet 2 (eC (.int 1)))
    (sSeq (sFor (iRange1 (eVar 1)) (gNm 3) (sSeq (sSet 2 (eBin .Mult (eVar 2) (eBin .Sub (eVar 0) (eVar 3))))
    sNx))
    (sSeq (sRet (eVar 2))
    sNx)))
/-- binomial -/
def b2 (F : Nat → FnS) : M Fl :=
    (sSeq (sRet (eBin .FloorDiv (eCall 2 (F 1) (aCons (eVar 0) (aCons (eVar 1) aNil))) (eCall 2 (F 1) (aCons (eVar 1) (aCons (eVar 1) aNil)))))
    sNx)
/-- power -/
def b3 (F : Nat → FnS) : M Fl :=
    (sSeq (sSet 2 (eC (.int 1)))
    (sSeq (sFor (iRange1 (eVar 1)) (gNm 3) (sSeq (sSet 2 (eBin .Mult (eVar 2) (eVar 0)))
    sNx))
    (sSeq (sRet (eVar 2))
    sNx)))
/-- check_parameters -/
def b4 (F : Nat → FnS) : M Fl :=
    (sSeq (sIf (tOo (tNo (tVal (eCall 3 (F 0) (aCons (eVar 0) (aCons (eC (.int 2)) (aCons (eC (.int 9)) aNil)))))) (tOo (tNo (tVal (eCall 3 (F 0) (aCons (eVar 1) (aCons (eC (.int 1)) (aCons (eBin .Sub (eVar 0) (eC (.int 1))) aNil)))))) (tNo (tVal (eCall 3 (F 0) (aCons (eVar 2) (aCons (eC (.int 1)) (aCons (eC (.int 9)) aNil)))))))) (sSeq (sRaise 2)
    sNx) sNx)
    sNx)
/-- check_cards -/
def b5 (F : Nat → FnS) : M Fl :=
    (sSeq (sIf (tNo (tVal (eCall 3 (F 0) (aCons (eVar 0) (aCons (eVar 1) (aCons (eC (.int 9999)) aNil)))))) (sSeq (sRaise 2)
    sNx) sNx)
    sNx)
/-- meets_bound -/
def b6 (F : Nat → FnS) : M Fl :=
    (sSeq (sSet 4 (eBin .Mult (eCall 2 (F 1) (aCons (eVar 1) (aCons (eBin .Sub (eVar 1) (eVar 2)) aNil))) (eCall 2 (F 3) (aCons (eVar 3) (aCons (eBin .Sub (eVar 1) (eVar 2)) aNil)))))
    (sSeq (sRet (eT (tCm .GtE (eVar 4) (eCall 2 (F 2) (aCons (eBin .Add (eBin .Sub (eVar 0) (eVar 1)) (eVar 2)) (aCons (eVar 2) aNil))))))
    sNx))
/-- is_feasible -/
def b7 (F : Nat → FnS) : M Fl :=
    (sSeq (sEx (eCall 3 (F 4) (aCons (eVar 1) (aCons (eVar 2) (aCons (eVar 3) aNil)))))
    (sSeq (sEx (eCall 2 (F 5) (aCons (eVar 0) (aCons (eVar 1) aNil))))
    (sSeq (sRet (eCall 4 (F 6) (aCons (eVar 0) (aCons (eVar 1) (aCons (eVar 2) (aCons (eVar 3) aNil))))))
    sNx)))
/-- max_cards -/
def b8 (F : Nat → FnS) : M Fl :=
    (sSeq (sEx (eCall 3 (F 4) (aCons (eVar 0) (aCons (eVar 1) (aCons (eVar 2) aNil)))))
    (sSeq (sSet 3 (eVar 0))
    (sSeq (sSet 4 (eBin .Add (eBin .Add (eVar 0) (eBin .Mult (eCall 2 (F 1) (aCons (eVar 0) (aCons (eBin .Sub (eVar 0) (eVar 1)) aNil))) (eCall 2 (F 3) (aCons (eVar 2) (aCons (eBin .Sub (eVar 0) (eVar 1)) aNil))))) (eC (.int 1))))
    (sSeq (whileM (tCm .Gt (eBin .Sub (eVar 4) (eVar 3)) (eC (.int 1))) (sSeq (sSet 5 (eBin .FloorDiv (eBin .Add (eVar 3) (eVar 4)) (eC (.int 2))))
    (sSeq (sIf (tVal (eCall 4 (F 6) (aCons (eVar 5) (aCons (eVar 0) (aCons (eVar 1) (aCons (eVar 2) aNil)))))) (sSeq (sSet 3 (eVar 5))
    sNx) (sSeq (sSet 4 (eVar 5))
    sNx))
    sNx)) wf)
    (sSeq (sRet (eVar 3))
    sNx)))))
/-- max_hidden -/
def b9 (F : Nat → FnS) : M Fl :=
    (sSeq (sEx (eCall 3 (F 4) (aCons (eVar 1) (aCons (eC (.int 1)) (aCons (eVar 2) aNil)))))
    (sSeq (sEx (eCall 2 (F 5) (aCons (eVar 0) (aCons (eVar 1) aNil))))
    (sSeq (sSet 3 (eC (.int 0)))
    (sSeq (sFor (iRange2 (eC (.int 1)) (eVar 1)) (gNm 4) (sSeq (sIf (tVal (eCall 4 (F 6) (aCons (eVar 0) (aCons (eVar 1) (aCons (eVar 4) (aCons (eVar 2) aNil)))))) (sSeq (sSet 3 (eVar 4))
    sNx) sNx)
    sNx))
    (sSeq (sRet (eVar 3))
    sNx)))))
/-- meets_reversible_bound -/
def b10 (F : Nat → FnS) : M Fl :=
    (sSeq (sSet 4 (eBin .Sub (eVar 1) (eVar 2)))
    (sSeq (sSet 5 (eBin .Mult (eCall 2 (F 1) (aCons (eVar 1) (aCons (eVar 4) aNil))) (eCall 2 (F 3) (aCons (eVar 3) (aCons (eVar 4) aNil)))))
    (sSeq (sRet (eT (tCm .GtE (eVar 5) (eBin .Mult (eCall 2 (F 2) (aCons (eBin .Sub (eVar 0) (eVar 4)) (aCons (eVar 2) aNil))) (eIf (tCm .Gt (eVar 4) (eC (.int 1))) (eC (.int 2)) (eC (.int 1)))))))
    sNx)))
/-- is_reversible_feasible -/
def b11 (F : Nat → FnS) : M Fl :=
    (sSeq (sEx (eCall 3 (F 4) (aCons (eVar 1) (aCons (eVar 2) (aCons (eVar 3) aNil)))))
    (sSeq (sEx (eCall 2 (F 5) (aCons (eVar 0) (aCons (eVar 1) aNil))))
    (sSeq (sRet (eCall 4 (F 10) (aCons (eVar 0) (aCons (eVar 1) (aCons (eVar 2) (aCons (eVar 3) aNil))))))
    sNx)))
/-- _law_cell -/
def b12 (F : Nat → FnS) : M Fl :=
    (sSeq (sIf (tCm .Lt (eVar 1) (eLen (eVar 0))) (sSeq (sRet (eIx (eVar 0) (eVar 1)))
    sNx) sNx)
    (sSeq (sRet (eC (.int 0)))
    sNx))
/-- _law_whole -/
def b13 (F : Nat → FnS) : M Fl :=
    (sSeq (sRet (eAn (eIsi .int (eVar 0)) (eT (tNo (tVal (eIsi .bool (eVar 0)))))))
    sNx)
/-- _law_row -/
def b14 (F : Nat → FnS) : M Fl :=
    (sSeq (sSet 2 (eCall 2 (F 12) (aCons (eVar 0) (aCons (eVar 1) aNil))))
    (sSeq (sOwnL 3 aNil)
    (sSeq (sFor (iRange1 (eC (.int 60))) (gNm 4) (sSeq (sIf (tCm .Lt (eCall 2 (F 12) (aCons (eVar 0) (aCons (eVar 1) aNil))) (eBin .Pow (eC (.int 10)) (eC (.int 18)))) (sSeq (sSet 2 (eBin .Mod (eBin .Add (eBin .Add (eBin .Add (eBin .Mult (eVar 2) (eC (.int 48271))) (eBin .Mult (eC (.int 131)) (eVar 4))) (eC (.int 7))) (eCall 2 (F 12) (aCons (eVar 0) (aCons (eBin .Mod (eBin .Add (eBin .Add (eVar 1) (eC (.int 1))) (eVar 4)) (eC (.int 20))) aNil)))) (eC (.int 2147483647))))
    (sSeq (sEx (eApp 3 (eBin .Mod (eBin .FloorDiv (eVar 2) (eC (.int 11))) (eC (.int 1000)))))
    sNx)) (sSeq (sEx (eApp 3 (eBin .Mod (eVar 2) (eC (.int 1000)))))
    (sSeq (sSet 2 (eBin .FloorDiv (eVar 2) (eC (.int 1000))))
    sNx)))
    sNx))
    (sSeq (sRet (eVar 3))
    sNx))))
/-- _law_in -/
def b15 (F : Nat → FnS) : M Fl :=
    (sSeq (sRet (eAn (eCall 1 (F 13) (aCons (eVar 0) aNil)) (eT (tCh .LtE .LtE (eVar 1) (eVar 0) (eVar 2)))))
    sNx)
/-- _law_factorial -/
def b16 (F : Nat → FnS) : M Fl :=
    (sSeq (sSet 1 (eC (.int 1)))
    (sSeq (sFor (iRange2 (eC (.int 2)) (eBin .Add (eVar 0) (eC (.int 1)))) (gNm 2) (sSeq (sSet 1 (eBin .Mult (eVar 1) (eVar 2)))
    sNx))
    (sSeq (sRet (eVar 1))
    sNx)))
/-- _law_bound -/
def b17 (F : Nat → FnS) : M Fl :=
    (sSeq (sSet 4 (eCall 1 (F 16) (aCons (eVar 1) aNil)))
    (sSeq (sFor (iRange1 (eBin .Sub (eVar 1) (eVar 2))) (gNm 5) (sSeq (sSet 4 (eBin .Mult (eVar 4) (eVar 3)))
    sNx))
    (sSeq (sSet 6 (eC (.int 1)))
    (sSeq (sFor (iRange1 (eVar 2)) (gNm 5) (sSeq (sSet 6 (eBin .Mult (eVar 6) (eBin .Sub (eBin .Add (eBin .Sub (eVar 0) (eVar 1)) (eVar 2)) (eVar 5))))
    sNx))
    (sSeq (sRet (eT (tCm .GtE (eVar 4) (eVar 6))))
    sNx)))))
/-- _law_number_error -/
def b18 (F : Nat → FnS) : M Fl :=
    (sSeq (sUnp [2, 3, 4, 5] (eVar 1))
    (sSeq (sTry 3 (sSeq (sIf (tCm .Eq (eVar 0) (eC (.int 0))) (sSeq (sEx (eCall 4 (F 7) (aCons (eVar 2) (aCons (eVar 3) (aCons (eVar 4) (aCons (eVar 5) aNil))))))
    sNx) (sSeq (sIf (tCm .Eq (eVar 0) (eC (.int 1))) (sSeq (sEx (eCall 3 (F 9) (aCons (eVar 2) (aCons (eVar 3) (aCons (eVar 5) aNil)))))
    sNx) (sSeq (sIf (tCm .Eq (eVar 0) (eC (.int 3))) (sSeq (sEx (eCall 4 (F 11) (aCons (eVar 2) (aCons (eVar 3) (aCons (eVar 4) (aCons (eVar 5) aNil))))))
    sNx) (sSeq (sEx (eCall 3 (F 8) (aCons (eVar 3) (aCons (eVar 4) (aCons (eVar 5) aNil)))))
    sNx))
    sNx))
    sNx))
    sNx) 2 6 (sSeq (sRet (eIf (tAn (tVal (eIsE 3 6 0)) (tNo (tVal (eIsE 3 6 1)))) (eC (.str (Str.ofString "number"))) (eC (.str (Str.ofString "other")))))
    sNx))
    (sSeq (sRet (eC (.str (Str.ofString "none"))))
    sNx)))
/-- law -/
def b19 (F : Nat → FnS) : M Fl :=
    (sSeq (sSet 1 (eCall 2 (F 14) (aCons (eVar 0) (aCons (eC (.int 2)) aNil))))
    (sSeq (sSet 2 (eBin .Add (eC (.int 2)) (eBin .Mod (eIx (eVar 1) (eC (.int 0))) (eC (.int 8)))))
    (sSeq (sSet 3 (eBin .Add (eC (.int 1)) (eBin .Mod (eIx (eVar 1) (eC (.int 1))) (eBin .Sub (eVar 2) (eC (.int 1))))))
    (sSeq (sSet 4 (eBin .Add (eC (.int 1)) (eBin .Mod (eIx (eVar 1) (eC (.int 2))) (eC (.int 9)))))
    (sSeq (sSet 5 (eCall 3 (F 8) (aCons (eVar 2) (aCons (eVar 3) (aCons (eVar 4) aNil)))))
    (sSeq (sIf (tOo (tNo (tVal (eCall 4 (F 17) (aCons (eVar 5) (aCons (eVar 2) (aCons (eVar 3) (aCons (eVar 4) aNil))))))) (tVal (eCall 4 (F 17) (aCons (eBin .Add (eVar 5) (eC (.int 1))) (aCons (eVar 2) (aCons (eVar 3) (aCons (eVar 4) aNil))))))) (sSeq (sRet (eC (.bool false)))
    sNx) sNx)
    (sSeq (sSet 6 (eBin .Add (eVar 2) (eBin .Mod (eIx (eVar 1) (eC (.int 3))) (eIx (eLst (aCons (eC (.int 10)) (aCons (eC (.int 100)) (aCons (eC (.int 1000)) aNil)))) (eBin .Mod (eIx (eVar 1) (eC (.int 4))) (eC (.int 3)))))))
    (sSeq (sIf (tCm .NotEq (eCall 4 (F 7) (aCons (eVar 6) (aCons (eVar 2) (aCons (eVar 3) (aCons (eVar 4) aNil))))) (eCall 4 (F 17) (aCons (eVar 6) (aCons (eVar 2) (aCons (eVar 3) (aCons (eVar 4) aNil)))))) (sSeq (sRet (eC (.bool false)))
    sNx) sNx)
    (sSeq (sSet 7 (eLc (iRange2 (eC (.int 1)) (eVar 2)) [8] (.nm 8) (tVal (eCall 4 (F 17) (aCons (eVar 6) (aCons (eVar 2) (aCons (eVar 8) (aCons (eVar 4) aNil)))))) (eVar 8)))
    (sSeq (sIf (tCm .NotEq (eCall 3 (F 9) (aCons (eVar 6) (aCons (eVar 2) (aCons (eVar 4) aNil)))) (eIf (tCm .NotEq (eVar 7) (eLst aNil)) (eIx (eVar 7) (eNeg (eC (.int 1)))) (eC (.int 0)))) (sSeq (sRet (eC (.bool false)))
    sNx) sNx)
    (sSeq (sIf (tCm .NotEq (eCall 3 (F 8) (aCons (eVar 2) (aCons (eC (.int 1)) (aCons (eC (.int 1)) aNil)))) (eBin .Sub (eBin .Add (eCall 1 (F 16) (aCons (eVar 2) aNil)) (eVar 2)) (eC (.int 1)))) (sSeq (sRet (eC (.bool false)))
    sNx) sNx)
    (sSeq (sSet 9 (eLst (aCons (eTup (aCons (eC (.int 1)) (aCons (eC (.int 2)) (aCons (eC (.int 1)) (aCons (eC (.int 1)) aNil))))) (aCons (eTup (aCons (eC (.int 10000)) (aCons (eC (.int 2)) (aCons (eC (.int 1)) (aCons (eC (.int 1)) aNil))))) (aCons (eTup (aCons (eC (.int 5)) (aCons (eC (.int 10)) (aCons (eC (.int 1)) (aCons (eC (.int 1)) aNil))))) (aCons (eTup (aCons (eC (.int 5)) (aCons (eC (.int 1)) (aCons (eC (.int 1)) (aCons (eC (.int 1)) aNil))))) (aCons (eTup (aCons (eC (.int 5)) (aCons (eC (.int 3)) (aCons (eC (.int 0)) (aCons (eC (.int 1)) aNil))))) (aCons (eTup (aCons (eC (.int 5)) (aCons (eC (.int 3)) (aCons (eC (.int 3)) (aCons (eC (.int 1)) aNil))))) (aCons (eTup (aCons (eC (.int 5)) (aCons (eC (.int 3)) (aCons (eC (.int 1)) (aCons (eC (.int 0)) aNil))))) aNil)))))))))
    (sSeq (sSet 9 (eBin .Add (eVar 9) (eLst (aCons (eTup (aCons (eC (.int 5)) (aCons (eC (.int 3)) (aCons (eC (.int 1)) (aCons (eC (.int 10)) aNil))))) (aCons (eTup (aCons (eC .none) (aCons (eC (.int 3)) (aCons (eC (.int 1)) (aCons (eC (.int 1)) aNil))))) (aCons (eTup (aCons (eC (.int 5)) (aCons (eC .none) (aCons (eC (.int 1)) (aCons (eC (.int 1)) aNil))))) (aCons (eTup (aCons (eC (.bool true)) (aCons (eC (.int 2)) (aCons (eC (.int 1)) (aCons (eC (.int 1)) aNil))))) aNil)))))))
    (sSeq (sSet 9 (eIx (eVar 9) (eBin .Mod (eIx (eVar 1) (eC (.int 5))) (eC (.int 11)))))
    (sSeq (sIf (tOo (tCm .NotEq (eCall 2 (F 18) (aCons (eC (.int 0)) (aCons (eVar 9) aNil))) (eC (.str (Str.ofString "number")))) (tVal (eCall 4 (F 7) (aCons (eC (.int 9999)) (aCons (eC (.int 2)) (aCons (eC (.int 1)) (aCons (eC (.int 1)) aNil))))))) (sSeq (sRet (eC (.bool false)))
    sNx) sNx)
    (sSeq (sIf (tAn (tNo (tVal (eCall 3 (F 15) (aCons (eIx (eVar 9) (eC (.int 0))) (aCons (eC (.int 2)) (aCons (eC (.int 9999)) aNil)))))) (tCm .NotEq (eCall 2 (F 18) (aCons (eC (.int 1)) (aCons (eVar 9) aNil))) (eC (.str (Str.ofString "number"))))) (sSeq (sRet (eC (.bool false)))
    sNx) sNx)
    (sSeq (sRet (eAn (eT (tCm .Eq (eCall 3 (F 15) (aCons (eIx (eVar 9) (eC (.int 0))) (aCons (eC (.int 2)) (aCons (eC (.int 9999)) aNil)))) (eT (tCm .Eq (eIx (eVar 9) (eC (.int 0))) (eC (.int 5)))))) (eOo (eT (tCm .NotEq (eIx (eVar 9) (eC (.int 0))) (eC (.int 5)))) (eT (tCm .Eq (eCall 2 (F 18) (aCons (eC (.int 2)) (aCons (eVar 9) aNil))) (eC (.str (Str.ofString "number"))))))))
    sNx)))))))))))))))))
def d0 : DfI := ⟨(Str.ofString "in_range"), stAt 5, [(Str.ofString "value"), (Str.ofString "low"), (Str.ofString "high")], [(Str.ofString "value"), (Str.ofString "low"), (Str.ofString "high")], [0, 1, 2], []⟩
def d1 : DfI := ⟨(Str.ofString "falling_factorial"), stAt 6, [(Str.ofString "n"), (Str.ofString "k"), (Str.ofString "result"), (Str.ofString "i")], [(Str.ofString "n"), (Str.ofString "k")], [0, 1], []⟩
def d2 : DfI := ⟨(Str.ofString "binomial"), stAt 7, [(Str.ofString "n"), (Str.ofString "k")], [(Str.ofString "n"), (Str.ofString "k")], [0, 1], []⟩
def d3 : DfI := ⟨(Str.ofString "power"), stAt 8, [(Str.ofString "base"), (Str.ofString "exponent"), (Str.ofString "result"), (Str.ofString "step")], [(Str.ofString "base"), (Str.ofString "exponent")], [0, 1], []⟩
def d4 : DfI := ⟨(Str.ofString "check_parameters"), stAt 9, [(Str.ofString "drawn"), (Str.ofString "hidden"), (Str.ofString "faces")], [(Str.ofString "drawn"), (Str.ofString "hidden"), (Str.ofString "faces")], [0, 1, 2], []⟩
def d5 : DfI := ⟨(Str.ofString "check_cards"), stAt 10, [(Str.ofString "cards"), (Str.ofString "drawn")], [(Str.ofString "cards"), (Str.ofString "drawn")], [0, 1], []⟩
def d6 : DfI := ⟨(Str.ofString "meets_bound"), stAt 11, [(Str.ofString "cards"), (Str.ofString "drawn"), (Str.ofString "hidden"), (Str.ofString "faces"), (Str.ofString "per_hand")], [(Str.ofString "cards"), (Str.ofString "drawn"), (Str.ofString "hidden"), (Str.ofString "faces")], [0, 1, 2, 3], []⟩
def d7 : DfI := ⟨(Str.ofString "is_feasible"), stAt 12, [(Str.ofString "cards"), (Str.ofString "drawn"), (Str.ofString "hidden"), (Str.ofString "faces")], [(Str.ofString "cards"), (Str.ofString "drawn"), (Str.ofString "hidden"), (Str.ofString "faces")], [0, 1, 2, 3], []⟩
def d8 : DfI := ⟨(Str.ofString "max_cards"), stAt 13, [(Str.ofString "drawn"), (Str.ofString "hidden"), (Str.ofString "faces"), (Str.ofString "low"), (Str.ofString "high"), (Str.ofString "middle")], [(Str.ofString "drawn"), (Str.ofString "hidden"), (Str.ofString "faces")], [0, 1, 2], []⟩
def d9 : DfI := ⟨(Str.ofString "max_hidden"), stAt 14, [(Str.ofString "cards"), (Str.ofString "drawn"), (Str.ofString "faces"), (Str.ofString "result"), (Str.ofString "hidden")], [(Str.ofString "cards"), (Str.ofString "drawn"), (Str.ofString "faces")], [0, 1, 2], []⟩
def d10 : DfI := ⟨(Str.ofString "meets_reversible_bound"), stAt 16, [(Str.ofString "cards"), (Str.ofString "drawn"), (Str.ofString "hidden"), (Str.ofString "faces"), (Str.ofString "shown"), (Str.ofString "per_hand")], [(Str.ofString "cards"), (Str.ofString "drawn"), (Str.ofString "hidden"), (Str.ofString "faces")], [0, 1, 2, 3], []⟩
def d11 : DfI := ⟨(Str.ofString "is_reversible_feasible"), stAt 17, [(Str.ofString "cards"), (Str.ofString "drawn"), (Str.ofString "hidden"), (Str.ofString "faces")], [(Str.ofString "cards"), (Str.ofString "drawn"), (Str.ofString "hidden"), (Str.ofString "faces")], [0, 1, 2, 3], []⟩
def d12 : DfI := ⟨(Str.ofString "_law_cell"), stAt 19, [(Str.ofString "script"), (Str.ofString "k")], [(Str.ofString "script"), (Str.ofString "k")], [0, 1], []⟩
def d13 : DfI := ⟨(Str.ofString "_law_whole"), stAt 20, [(Str.ofString "found")], [(Str.ofString "found")], [0], []⟩
def d14 : DfI := ⟨(Str.ofString "_law_row"), stAt 21, [(Str.ofString "script"), (Str.ofString "at"), (Str.ofString "cell"), (Str.ofString "found"), (Str.ofString "time")], [(Str.ofString "script"), (Str.ofString "at")], [0, 1], [(Str.ofString "found")]⟩
def d15 : DfI := ⟨(Str.ofString "_law_in"), stAt 22, [(Str.ofString "thing"), (Str.ofString "low"), (Str.ofString "high")], [(Str.ofString "thing"), (Str.ofString "low"), (Str.ofString "high")], [0, 1, 2], []⟩
def d16 : DfI := ⟨(Str.ofString "_law_factorial"), stAt 23, [(Str.ofString "number"), (Str.ofString "found"), (Str.ofString "factor")], [(Str.ofString "number")], [0], []⟩
def d17 : DfI := ⟨(Str.ofString "_law_bound"), stAt 24, [(Str.ofString "cards"), (Str.ofString "drawn"), (Str.ofString "hidden"), (Str.ofString "faces"), (Str.ofString "per_hand"), (Str.ofString "position"), (Str.ofString "ways")], [(Str.ofString "cards"), (Str.ofString "drawn"), (Str.ofString "hidden"), (Str.ofString "faces")], [0, 1, 2, 3], []⟩
def d18 : DfI := ⟨(Str.ofString "_law_number_error"), stAt 25, [(Str.ofString "mode"), (Str.ofString "wrong"), (Str.ofString "cards"), (Str.ofString "drawn"), (Str.ofString "hidden"), (Str.ofString "faces"), (Str.ofString "e")], [(Str.ofString "mode"), (Str.ofString "wrong")], [0, 1], []⟩
def d19 : DfI := ⟨(Str.ofString "law"), stAt 26, [(Str.ofString "script"), (Str.ofString "draws"), (Str.ofString "drawn"), (Str.ofString "hidden"), (Str.ofString "faces"), (Str.ofString "top"), (Str.ofString "cards"), (Str.ofString "best"), (Str.ofString "many"), (Str.ofString "wrong")], [(Str.ofString "script")], [0], []⟩
def tb : Tb := ⟨[d0, d1, d2, d3, d4, d5, d6, d7, d8, d9, d10, d11, d12, d13, d14, d15, d16, d17, d18, d19], [(Str.ofString "CardTrickError"), (Str.ofString "InvalidDeck"), (Str.ofString "InvalidNumber")], [], [(Str.ofString "bool"), (Str.ofString "int"), (Str.ofString "isinstance"), (Str.ofString "len"), (Str.ofString "range")], wf⟩
def bds : List BdI := [⟨[0, 1, 2], 3, b0⟩, ⟨[0, 1], 4, b1⟩, ⟨[0, 1], 2, b2⟩, ⟨[0, 1], 4, b3⟩, ⟨[0, 1, 2], 3, b4⟩, ⟨[0, 1], 2, b5⟩, ⟨[0, 1, 2, 3], 5, b6⟩, ⟨[0, 1, 2, 3], 4, b7⟩, ⟨[0, 1, 2], 6, b8⟩, ⟨[0, 1, 2], 5, b9⟩, ⟨[0, 1, 2, 3], 6, b10⟩, ⟨[0, 1, 2, 3], 4, b11⟩, ⟨[0, 1], 2, b12⟩, ⟨[0], 1, b13⟩, ⟨[0, 1], 5, b14⟩, ⟨[0, 1, 2], 3, b15⟩, ⟨[0], 3, b16⟩, ⟨[0, 1, 2, 3], 7, b17⟩, ⟨[0, 1], 7, b18⟩, ⟨[0], 10, b19⟩]
theorem c0 : ∀ F, compS F 60 (ccOf tb d0) (defBody d0.st) = some (b0 F) := fun F => by kernel_rfl
theorem c1 : ∀ F, compS F 60 (ccOf tb d1) (defBody d1.st) = some (b1 F) := fun F => by kernel_rfl
theorem c2 : ∀ F, compS F 60 (ccOf tb d2) (defBody d2.st) = some (b2 F) := fun F => by kernel_rfl
theorem c3 : ∀ F, compS F 60 (ccOf tb d3) (defBody d3.st) = some (b3 F) := fun F => by kernel_rfl
theorem c4 : ∀ F, compS F 60 (ccOf tb d4) (defBody d4.st) = some (b4 F) := fun F => by kernel_rfl
theorem c5 : ∀ F, compS F 60 (ccOf tb d5) (defBody d5.st) = some (b5 F) := fun F => by kernel_rfl
theorem c6 : ∀ F, compS F 60 (ccOf tb d6) (defBody d6.st) = some (b6 F) := fun F => by kernel_rfl
theorem c7 : ∀ F, compS F 60 (ccOf tb d7) (defBody d7.st) = some (b7 F) := fun F => by kernel_rfl
theorem c8 : ∀ F, compS F 60 (ccOf tb d8) (defBody d8.st) = some (b8 F) := fun F => by kernel_rfl
theorem c9 : ∀ F, compS F 60 (ccOf tb d9) (defBody d9.st) = some (b9 F) := fun F => by kernel_rfl
theorem c10 : ∀ F, compS F 60 (ccOf tb d10) (defBody d10.st) = some (b10 F) := fun F => by kernel_rfl
theorem c11 : ∀ F, compS F 60 (ccOf tb d11) (defBody d11.st) = some (b11 F) := fun F => by kernel_rfl
theorem c12 : ∀ F, compS F 60 (ccOf tb d12) (defBody d12.st) = some (b12 F) := fun F => by kernel_rfl
theorem c13 : ∀ F, compS F 60 (ccOf tb d13) (defBody d13.st) = some (b13 F) := fun F => by kernel_rfl
theorem c14 : ∀ F, compS F 60 (ccOf tb d14) (defBody d14.st) = some (b14 F) := fun F => by kernel_rfl
theorem c15 : ∀ F, compS F 60 (ccOf tb d15) (defBody d15.st) = some (b15 F) := fun F => by kernel_rfl
theorem c16 : ∀ F, compS F 60 (ccOf tb d16) (defBody d16.st) = some (b16 F) := fun F => by kernel_rfl
theorem c17 : ∀ F, compS F 60 (ccOf tb d17) (defBody d17.st) = some (b17 F) := fun F => by kernel_rfl
theorem c18 : ∀ F, compS F 60 (ccOf tb d18) (defBody d18.st) = some (b18 F) := fun F => by kernel_rfl
theorem c19 : ∀ F, compS F 60 (ccOf tb d19) (defBody d19.st) = some (b19 F) := fun F => by kernel_rfl
theorem allb : AllB tb 60 tb.dfs bds :=
  (.cons c0 rfl rfl (by decide +kernel) (fun _ _ _ _ _ _ us hl => match us, hl with | [_, _, _], _ => rfl) (.cons c1 rfl rfl (by decide +kernel) (fun _ _ _ _ _ _ us hl => match us, hl with | [_, _], _ => rfl) (.cons c2 rfl rfl (by decide +kernel) (fun _ _ _ _ _ _ us hl => match us, hl with | [_, _], _ => rfl) (.cons c3 rfl rfl (by decide +kernel) (fun _ _ _ _ _ _ us hl => match us, hl with | [_, _], _ => rfl) (.cons c4 rfl rfl (by decide +kernel) (fun _ _ _ _ _ _ us hl => match us, hl with | [_, _, _], _ => rfl) (.cons c5 rfl rfl (by decide +kernel) (fun _ _ _ _ _ _ us hl => match us, hl with | [_, _], _ => rfl) (.cons c6 rfl rfl (by decide +kernel) (fun _ _ _ _ _ _ us hl => match us, hl with | [_, _, _, _], _ => rfl) (.cons c7 rfl rfl (by decide +kernel) (fun _ _ _ _ _ _ us hl => match us, hl with | [_, _, _, _], _ => rfl) (.cons c8 rfl rfl (by decide +kernel) (fun _ _ _ _ _ _ us hl => match us, hl with | [_, _, _], _ => rfl) (.cons c9 rfl rfl (by decide +kernel) (fun _ _ _ _ _ _ us hl => match us, hl with | [_, _, _], _ => rfl) (.cons c10 rfl rfl (by decide +kernel) (fun _ _ _ _ _ _ us hl => match us, hl with | [_, _, _, _], _ => rfl) (.cons c11 rfl rfl (by decide +kernel) (fun _ _ _ _ _ _ us hl => match us, hl with | [_, _, _, _], _ => rfl) (.cons c12 rfl rfl (by decide +kernel) (fun _ _ _ _ _ _ us hl => match us, hl with | [_, _], _ => rfl) (.cons c13 rfl rfl (by decide +kernel) (fun _ _ _ _ _ _ us hl => match us, hl with | [_], _ => rfl) (.cons c14 rfl rfl (by decide +kernel) (fun _ _ _ _ _ _ us hl => match us, hl with | [_, _], _ => rfl) (.cons c15 rfl rfl (by decide +kernel) (fun _ _ _ _ _ _ us hl => match us, hl with | [_, _, _], _ => rfl) (.cons c16 rfl rfl (by decide +kernel) (fun _ _ _ _ _ _ us hl => match us, hl with | [_], _ => rfl) (.cons c17 rfl rfl (by decide +kernel) (fun _ _ _ _ _ _ us hl => match us, hl with | [_, _, _, _], _ => rfl) (.cons c18 rfl rfl (by decide +kernel) (fun _ _ _ _ _ _ us hl => match us, hl with | [_, _], _ => rfl) (.cons c19 rfl rfl (by decide +kernel) (fun _ _ _ _ _ _ us hl => match us, hl with | [_], _ => rfl) AllB.nil))))))))))))))))))))
end K04

namespace K04
open PySem PySem.Spec PyProof.Rows L2 CT
/-! ### plain arithmetic -/
def pf (m : Int) : Nat → Int
  | 0 => 1
  | k + 1 => m * pf (m - 1) k
theorem pf_last : ∀ (k : Nat) (m : Int), pf m (k + 1) = pf m k * (m - (k : Int))
  | 0, m => by simp [pf]
  | k + 1, m => by
    have ih := pf_last k (m - 1)
    rw [show pf m (k + 1 + 1) = m * pf (m - 1) (k + 1) from rfl, ih, show pf m (k + 1) = m * pf (m - 1) k from rfl, ← Int.mul_assoc]
    congr 1
    push_cast
    omega
theorem pf_add (m : Int) : ∀ (s h : Nat), pf m (s + h) = pf m s * pf (m - (s : Int)) h
  | s, 0 => by simp [pf]
  | s, h + 1 => by
    rw [show s + (h + 1) = (s + h) + 1 from rfl, pf_last, pf_add m s h, pf_last, Int.mul_assoc]
    congr 2
    push_cast
    omega
theorem pf_dvd : ∀ (m k : Nat), pf (k : Int) k ∣ pf (m : Int) k
  | _, 0 => ⟨1, rfl⟩
  | 0, k + 1 => ⟨0, by simp [pf]⟩
  | m + 1, k + 1 => by
    have h1 := pf_dvd m (k + 1)
    have h2 := pf_dvd m k
    have e : pf ((m + 1 : Nat) : Int) (k + 1) = pf (m : Int) (k + 1) + ((k : Int) + 1) * pf (m : Int) k := by
      rw [pf_last k (m : Int)]
      rw [show pf ((m + 1 : Nat) : Int) (k + 1) = ((m + 1 : Nat) : Int) * pf (((m + 1 : Nat) : Int) - 1) k from rfl, show (((m + 1 : Nat) : Int) - 1) = (m : Int) by omega, Int.mul_comm (pf (m : Int) k), ← Int.add_mul]
      congr 1
      omega
    rw [e]
    refine Int.dvd_add h1 ?_
    rw [show pf ((k + 1 : Nat) : Int) (k + 1) = ((k + 1 : Nat) : Int) * pf (((k + 1 : Nat) : Int) - 1) k from rfl, show (((k + 1 : Nat) : Int) - 1) = (k : Int) by omega]
    exact Int.mul_dvd_mul (by rw [show ((k + 1 : Nat) : Int) = (k : Int) + 1 by omega]; exact Int.dvd_refl _) h2
theorem pf_pos : ∀ k : Nat, 0 < pf (k : Int) k
  | 0 => by decide
  | k + 1 => by
    rw [show pf ((k + 1 : Nat) : Int) (k + 1) = ((k + 1 : Nat) : Int) * pf (((k + 1 : Nat) : Int) - 1) k from rfl, show (((k + 1 : Nat) : Int) - 1) = (k : Int) by omega]
    exact Int.mul_pos (by omega) (pf_pos k)
/-- A ≥ W / F as A * F ≥ W where F divides W -/
theorem ge_div {A W F : Int} (hF : 0 < F) (hd : F ∣ W) : (A ≥ W / F) ↔ (A * F ≥ W) := by
  obtain ⟨q, rfl⟩ := hd
  rw [Int.mul_ediv_cancel_left _ (by omega)]
  rw [Int.mul_comm F q]
  constructor
  · intro h
    exact Int.mul_le_mul_of_nonneg_right h (Int.le_of_lt hF)
  · intro h
    exact Int.le_of_mul_le_mul_right h hF
theorem key {a h : Nat} {c f P : Int} (hh : h ≤ a) (hc : (a : Int) ≤ c) : (pf (a : Int) (a - h) * P ≥ pf (c - a + h) h / pf (h : Int) h) ↔ (pf (a : Int) a * P ≥ pf (c - a + h) h) := by
  have e0 : c - a + h = (((c - a).toNat + h : Nat) : Int) := by omega
  rw [ge_div (pf_pos h) (by rw [e0]; exact pf_dvd _ _)]
  have e : pf (a : Int) a = pf (a : Int) (a - h) * pf (h : Int) h := by
    have := pf_add (a : Int) (a - h) h
    rw [show a - h + h = a by omega, show (a : Int) - ((a - h : Nat) : Int) = (h : Int) by omega] at this
    exact this
  rw [e, Int.mul_assoc, Int.mul_assoc, Int.mul_comm P]
/-! ### the loops -/
def ffS : M Fl := sSeq (sSet 2 (eBin .Mult (eVar 2) (eBin .Sub (eVar 0) (eVar 3)))) sNx
theorem ff_loop (n : Int) (k : D) : ∀ (m : Nat) (lo acc : Int) (s : Slot), 0 ≤ lo → lo + m < 1000000 → -1000000 < n → n < 1000000000000000 → ∃ s', forM (gNm 3) ffS (rngD lo m) [.d (.int n), .d k, .d (.int acc), s] = .ok .nx [.d (.int n), .d k, .d (.int (acc * pf (n - lo) m)), s']
  | 0, lo, acc, s, _, _, _, _ => ⟨s, by simp [pf]; rfl⟩
  | m + 1, lo, acc, s, h1, h2, h3, h4 => by
    obtain ⟨s', e⟩ := ff_loop n k m (lo + 1) (acc * (n - lo)) (.d (.int lo)) (by omega) (by omega) h3 h4
    refine ⟨s', ?_⟩
    rw [rng_succ, for_cons (r1 := [.d (.int n), .d k, .d (.int acc), .d (.int lo)]) (r2 := [.d (.int n), .d k, .d (.int (acc * (n - lo))), .d (.int lo)]) rfl ?_, e, Int.mul_assoc, show n - (lo + 1) = n - lo - 1 by omega]
    · rfl
    · have hc : -two64 < n - lo ∧ n - lo < two64 := by unfold two64; omega
      simp [ffS, sSeq, sSet, mBind, eBin, eVar, op2, view, bop, bMul, bSub, hc, toD, mPure, sNx]
theorem ff_run (k : Nat) (n : Int) (m : Nat) (hm : m < 1000) (h3 : -1000000 < n) (h4 : n < 1000000000000000) : run bds (k + 1) 1 [.d (.int n), .d (.int m)] = .ok (.int (pf n m)) [.no, .no] := by
  obtain ⟨s', e⟩ := ff_loop n (.int m) m 0 1 .no (by omega) (by omega) h3 h4
  have hr : r62 (m : Int) = true := by unfold r62; simp; omega
  show fnRun [0, 1] 4 (b1 (run bds k)) _ = _
  have hb : b1 (run bds k) [.d (.int n), .d (.int m), .no, .no] = .ok (.ret (.int (1 * pf (n - 0) m))) [.d (.int n), .d (.int m), .d (.int (1 * pf (n - 0) m)), s'] := by
    unfold b1
    exact sq (set_ok (d := .int 1) rfl) (sq (sfor_ok (items := rngD 0 m) (rng1_ok (m := (m : Int)) rfl hr) e) (sqR (ret_ok rfl)))
  rw [run_ret (pp := [0, 1]) (L := 4) (ss := [.d (.int n), .d (.int m)]) (fb := b1 (run bds k)) rfl hb, Int.one_mul, Int.sub_zero]
  rfl
def pwS : M Fl := sSeq (sSet 2 (eBin .Mult (eVar 2) (eVar 0))) sNx
theorem pw_loop (n : Int) (k : D) : ∀ (m : Nat) (lo acc : Int) (s : Slot), 0 < n → n < 1000 → ∃ s', forM (gNm 3) pwS (rngD lo m) [.d (.int n), .d k, .d (.int acc), s] = .ok .nx [.d (.int n), .d k, .d (.int (acc * n ^ m)), s']
  | 0, lo, acc, s, _, _ => ⟨s, by simp; rfl⟩
  | m + 1, lo, acc, s, h1, h2 => by
    obtain ⟨s', e⟩ := pw_loop n k m (lo + 1) (acc * n) (.d (.int lo)) h1 h2
    refine ⟨s', ?_⟩
    rw [rng_succ, for_cons (r1 := [.d (.int n), .d k, .d (.int acc), .d (.int lo)]) (r2 := [.d (.int n), .d k, .d (.int (acc * n)), .d (.int lo)]) rfl ?_, e, Int.mul_assoc, Int.pow_succ, Int.mul_comm n]
    · have hc : -two64 < n ∧ n < two64 := by unfold two64; omega
      simp [pwS, sSeq, sSet, mBind, eBin, eVar, op2, view, bop, bMul, hc, toD, mPure, sNx]
theorem pw_run (k : Nat) (n : Int) (m : Nat) (hm : m < 1000) (h3 : 0 < n) (h4 : n < 1000) : run bds (k + 1) 3 [.d (.int n), .d (.int m)] = .ok (.int (n ^ m)) [.no, .no] := by
  obtain ⟨s', e⟩ := pw_loop n (.int m) m 0 1 .no h3 h4
  have hr : r62 (m : Int) = true := by unfold r62; simp; omega
  show fnRun [0, 1] 4 (b3 (run bds k)) _ = _
  have hb : b3 (run bds k) [.d (.int n), .d (.int m), .no, .no] = .ok (.ret (.int (1 * n ^ m))) [.d (.int n), .d (.int m), .d (.int (1 * n ^ m)), s'] := by
    unfold b3
    exact sq (set_ok (d := .int 1) rfl) (sq (sfor_ok (items := rngD 0 m) (rng1_ok (m := (m : Int)) rfl hr) e) (sqR (ret_ok rfl)))
  rw [run_ret (pp := [0, 1]) (L := 4) (ss := [.d (.int n), .d (.int m)]) (fb := b3 (run bds k)) rfl hb, Int.one_mul]
  rfl
end K04


namespace K04
open PySem PySem.Spec PyProof.Rows L2 CT
theorem pf_small : ∀ a : Fin 10, ∀ s : Fin 10, -two64 < pf ((a.val : Nat) : Int) s.val ∧ pf ((a.val : Nat) : Int) s.val < two64 := by decide +kernel
theorem pf_small' {a s : Nat} (ha : a < 10) (hs : s < 10) : -two64 < pf (a : Int) s ∧ pf (a : Int) s < two64 := pf_small ⟨a, ha⟩ ⟨s, hs⟩
theorem fac_small : ∀ a : Fin 10, 0 < pf ((a.val : Nat) : Int) a.val ∧ pf ((a.val : Nat) : Int) a.val < 1073741824 := by decide +kernel
theorem fac_small' {a : Nat} (ha : a < 10) : 0 < pf (a : Int) a ∧ pf (a : Int) a < 1073741824 := fac_small ⟨a, ha⟩
theorem in_run (k : Nat) (v l u : Int) : run bds (k + 1) 0 [.d (.int v), .d (.int l), .d (.int u)] = .ok (.bool (decide (l ≤ v) && decide (v ≤ u))) [.no, .no, .no] := by
  show fnRun [0, 1, 2] 3 (b0 (run bds k)) _ = _
  by_cases h1 : l ≤ v
  · simp [fnRun, fnRun0, ownIn, b0, sSeq, sRet, eAn, eIsi, isi1, eVar, mBind, CT.view, isiD, eT, tNo, tVal, truV, truD, mB, mPure, tCh, cm2, cop, dLeI, h1, toD, keepOwn]
  · simp [fnRun, fnRun0, ownIn, b0, sSeq, sRet, eAn, eIsi, isi1, eVar, mBind, CT.view, isiD, eT, tNo, tVal, truV, truD, mB, mPure, tCh, cm2, cop, dLeI, h1, toD, keepOwn]
theorem bin_run (k : Nat) (n : Int) (h : Nat) (hh : h < 10) (h3 : -1000000 < n) (h4 : n < 1000000000000000) : run bds (k + 2) 2 [.d (.int n), .d (.int h)] = .ok (.int (pf n h / pf (h : Int) h)) [.no, .no] := by
  show fnRun [0, 1] 2 (b2 (run bds (k + 1))) _ = _
  have hb : b2 (run bds (k + 1)) [.d (.int n), .d (.int h)] = .ok (.ret (.int (pf n h / pf (h : Int) h))) [.d (.int n), .d (.int h)] := by
    unfold b2
    refine sqR (ret_ok (bin_ok (x := .int (pf n h)) (y := .int (pf (h : Int) h)) (call_d (arg_ok (x := .int n) rfl (arg_ok (x := .int h) rfl (xs := []) rfl)) rfl (ff_run k n h (by omega) h3 h4)) (call_d (arg_ok (x := .int h) rfl (arg_ok (x := .int h) rfl (xs := []) rfl)) rfl (ff_run k h h (by omega) (by omega) (by omega))) ?_))
    show (if 0 < pf (h : Int) h ∧ pf (h : Int) h < 1073741824 then some (PyData.int (pf n h / pf (h : Int) h)) else none) = _
    rw [if_pos (fac_small' hh)]
  exact run_ret (pp := [0, 1]) (L := 2) (ss := [.d (.int n), .d (.int h)]) rfl hb
theorem sub_ok {a h : Nat} (hh : h ≤ a) : bop .Sub (.int (a : Int)) (.int (h : Int)) = some (.int ((a - h : Nat) : Int)) := by
  show some (PyData.int ((a : Int) - (h : Int))) = _
  rw [show (a : Int) - (h : Int) = ((a - h : Nat) : Int) by omega]
theorem ge_ok (x y : Int) : cop .GtE (.int x) (.int y) = some (decide (x ≥ y)) := rfl
/-- the test, as the law puts it -/
def pb (c : Int) (a : Nat) (f : Int) (h : Nat) : Bool := decide (pf (a : Int) a * f ^ (a - h) ≥ pf (c - a + h) h)
theorem meets_run (k : Nat) (c f : Int) (a h : Nat) (ha : a < 10) (h1 : 1 ≤ h) (hh : h < a) (hf : 0 < f) (hf2 : f < 1000) (hc : (a : Int) ≤ c) (hc2 : c < 100000000000000) : run bds (k + 3) 6 [.d (.int c), .d (.int a), .d (.int h), .d (.int f)] = .ok (.bool (pb c a f h)) [.no, .no, .no, .no] := by
  show fnRun [0, 1, 2, 3] 5 (b6 (run bds (k + 2))) _ = _
  have hb : b6 (run bds (k + 2)) [.d (.int c), .d (.int a), .d (.int h), .d (.int f), .no] = .ok (.ret (.bool (pb c a f h))) [.d (.int c), .d (.int a), .d (.int h), .d (.int f), .d (.int (pf (a : Int) (a - h) * f ^ (a - h)))] := by
    unfold b6
    refine sq (set_ok (d := .int (pf (a : Int) (a - h) * f ^ (a - h))) (r' := [.d (.int c), .d (.int a), .d (.int h), .d (.int f), .no]) ?_) (sqR (ret_ok (eT_ok ?_)))
    · refine bin_ok (call_d (arg_ok (x := .int a) rfl (arg_ok (bin_ok (x := .int a) (y := .int h) rfl rfl (sub_ok (by omega))) (xs := []) rfl)) rfl (ff_run (k + 1) a (a - h) (by omega) (by omega) (by omega))) (call_d (arg_ok (x := .int f) rfl (arg_ok (bin_ok (x := .int a) (y := .int h) rfl rfl (sub_ok (by omega))) (xs := []) rfl)) rfl (pw_run (k + 1) f (a - h) (by omega) hf hf2)) ?_
      show (if _ then _ else none) = _
      rw [if_pos (.inl (pf_small' ha (by omega)))]
    · have e := cm_ok (op := .GtE) (fa := eVar 4) (r := [.d (.int c), .d (.int a), .d (.int h), .d (.int f), .d (.int (pf (a : Int) (a - h) * f ^ (a - h)))]) (x := .int (pf (a : Int) (a - h) * f ^ (a - h))) rfl
        (call_d (arg_ok (bin_ok (op := .Add) (fa := eBin .Sub (eVar 0) (eVar 1)) (fb := eVar 2) (x := .int (c - a)) (y := .int h) (bin_ok (fa := eVar 0) (fb := eVar 1) (op := .Sub) (x := .int c) (y := .int a) rfl rfl rfl) rfl rfl) (arg_ok (x := .int h) (fa := eVar 2) rfl (xs := []) (fr := aNil) rfl)) rfl (bin_run k (c - a + h) h (by omega) (by omega) (by omega))) (ge_ok _ _)
      rw [show pb c a f h = decide (pf (a : Int) (a - h) * f ^ (a - h) ≥ pf (c - a + h) h / pf (h : Int) h) from ?_]
      · exact e
      · unfold pb
        exact decide_eq_decide.mpr (key (f := f) (by omega) hc).symm
  exact run_ret (pp := [0, 1, 2, 3]) (L := 5) (ss := [.d (.int c), .d (.int a), .d (.int h), .d (.int f)]) rfl hb
end K04

namespace K04
open PySem PySem.Spec PyProof.Rows L2 CT
theorem lf_run (k a : Nat) (h1 : 2 ≤ a) (ha : a < 10) : run bds (k + 1) 16 [.d (.int a)] = .ok (.int (pf (a : Int) a)) [.no] := by
  have : a = 2 ∨ a = 3 ∨ a = 4 ∨ a = 5 ∨ a = 6 ∨ a = 7 ∨ a = 8 ∨ a = 9 := by omega
  rcases this with rfl | rfl | rfl | rfl | rfl | rfl | rfl | rfl <;> kernel_rfl
def lbS1 : M Fl := sSeq (sSet 4 (eBin .Mult (eVar 4) (eVar 3))) sNx
def lbS2 : M Fl := sSeq (sSet 6 (eBin .Mult (eVar 6) (eBin .Sub (eBin .Add (eBin .Sub (eVar 0) (eVar 1)) (eVar 2)) (eVar 5)))) sNx
theorem lb1 (c a h : D) (f : Int) (s6 : Slot) (hf : 0 < f) (hf2 : f < 1000) : ∀ (m : Nat) (lo acc : Int) (s : Slot), ∃ s', forM (gNm 5) lbS1 (rngD lo m) [.d c, .d a, .d h, .d (.int f), .d (.int acc), s, s6] = .ok .nx [.d c, .d a, .d h, .d (.int f), .d (.int (acc * f ^ m)), s', s6]
  | 0, lo, acc, s => ⟨s, by simp; rfl⟩
  | m + 1, lo, acc, s => by
    obtain ⟨s', e⟩ := lb1 c a h f s6 hf hf2 m (lo + 1) (acc * f) (.d (.int lo))
    refine ⟨s', ?_⟩
    rw [rng_succ, for_cons (r1 := [.d c, .d a, .d h, .d (.int f), .d (.int acc), .d (.int lo), s6]) (r2 := [.d c, .d a, .d h, .d (.int f), .d (.int (acc * f)), .d (.int lo), s6]) rfl ?_, e, Int.mul_assoc, Int.pow_succ, Int.mul_comm f]
    have hc : -two64 < f ∧ f < two64 := by unfold two64; omega
    refine sq (set_ok (d := .int (acc * f)) (r' := [.d c, .d a, .d h, .d (.int f), .d (.int acc), .d (.int lo), s6]) (bin_ok (x := .int acc) (y := .int f) rfl rfl ?_)) rfl
    show (if _ then _ else none) = _
    rw [if_pos (.inr hc)]
theorem lb2 (c a h : Int) (f p : D) (hc : -1000000 < c - a + h) (hc2 : c - a + h < 100000000000000) : ∀ (m : Nat) (lo acc : Int) (s : Slot), 0 ≤ lo → lo + m < 1000000 → ∃ s', forM (gNm 5) lbS2 (rngD lo m) [.d (.int c), .d (.int a), .d (.int h), .d f, .d p, s, .d (.int acc)] = .ok .nx [.d (.int c), .d (.int a), .d (.int h), .d f, .d p, s', .d (.int (acc * pf (c - a + h - lo) m))]
  | 0, lo, acc, s, _, _ => ⟨s, by simp [pf]; rfl⟩
  | m + 1, lo, acc, s, h1, h2 => by
    obtain ⟨s', e⟩ := lb2 c a h f p hc hc2 m (lo + 1) (acc * (c - a + h - lo)) (.d (.int lo)) (by omega) (by omega)
    refine ⟨s', ?_⟩
    rw [rng_succ, for_cons (r1 := [.d (.int c), .d (.int a), .d (.int h), .d f, .d p, .d (.int lo), .d (.int acc)]) (r2 := [.d (.int c), .d (.int a), .d (.int h), .d f, .d p, .d (.int lo), .d (.int (acc * (c - a + h - lo)))]) rfl ?_, e, Int.mul_assoc, show c - a + h - (lo + 1) = c - a + h - lo - 1 by omega]
    · rfl
    have hc : -two64 < c - a + h - lo ∧ c - a + h - lo < two64 := by unfold two64; omega
    refine sq (set_ok (d := .int (acc * (c - a + h - lo))) (r' := [.d (.int c), .d (.int a), .d (.int h), .d f, .d p, .d (.int lo), .d (.int acc)]) (bin_ok (x := .int acc) (y := .int (c - a + h - lo)) rfl (bin_ok (x := .int (c - a + h)) (y := .int lo) (bin_ok (x := .int (c - a)) (y := .int h) (bin_ok (x := .int c) (y := .int a) rfl rfl rfl) rfl rfl) rfl rfl) ?_)) rfl
    show (if _ then _ else none) = _
    rw [if_pos (.inr hc)]
theorem r62_nat {m : Nat} (h : m < 1000000) : r62 (m : Int) = true := by unfold r62; simp; omega
theorem lb_run (k : Nat) (c f : Int) (a h : Nat) (h2 : 2 ≤ a) (ha : a < 10) (h1 : 1 ≤ h) (hh : h < a) (hf : 0 < f) (hf2 : f < 1000) (hc : (a : Int) ≤ c) (hc2 : c < 10000000000000) : run bds (k + 2) 17 [.d (.int c), .d (.int a), .d (.int h), .d (.int f)] = .ok (.bool (pb c a f h)) [.no, .no, .no, .no] := by
  show fnRun [0, 1, 2, 3] 7 (b17 (run bds (k + 1))) _ = _
  obtain ⟨s1, e1⟩ := lb1 (.int c) (.int a) (.int h) f .no hf hf2 (a - h) 0 (pf (a : Int) a) .no
  obtain ⟨s2, e2⟩ := lb2 c a h (.int f) (.int (pf (a : Int) a * f ^ (a - h))) (by omega) (by omega) h 0 1 s1 (by omega) (by omega)
  have hb : b17 (run bds (k + 1)) [.d (.int c), .d (.int a), .d (.int h), .d (.int f), .no, .no, .no] = .ok (.ret (.bool (pb c a f h))) [.d (.int c), .d (.int a), .d (.int h), .d (.int f), .d (.int (pf (a : Int) a * f ^ (a - h))), s2, .d (.int (1 * pf (c - a + h - 0) h))] := by
    unfold b17
    refine sq (set_ok (d := .int (pf (a : Int) a)) (call_d (arg_ok (x := .int a) rfl (xs := []) rfl) rfl (lf_run k a h2 ha))) ?_
    refine sq (sfor_ok (items := rngD 0 (a - h)) (rng1_ok (m := ((a - h : Nat) : Int)) (bin_ok (x := .int a) (y := .int h) rfl rfl (sub_ok (by omega))) (r62_nat (by omega))) e1) ?_
    refine sq (set_ok (d := .int 1) rfl) ?_
    refine sq (sfor_ok (items := rngD 0 h) (rng1_ok (m := (h : Int)) rfl (r62_nat (by omega))) e2) ?_
    refine sqR (ret_ok (eT_ok ?_))
    have := cm_ok (op := .GtE) (fa := eVar 4) (fb := eVar 6) (r := [.d (.int c), .d (.int a), .d (.int h), .d (.int f), .d (.int (pf (a : Int) a * f ^ (a - h))), s2, .d (.int (1 * pf (c - a + h - 0) h))]) rfl rfl (ge_ok (pf (a : Int) a * f ^ (a - h)) (1 * pf (c - a + h - 0) h))
    rw [this]
    unfold pb
    rw [Int.one_mul, Int.sub_zero]
  exact run_ret (pp := [0, 1, 2, 3]) (L := 7) (ss := [.d (.int c), .d (.int a), .d (.int h), .d (.int f)]) rfl hb
/-! ### the checks -/
theorem in_true (k : Nat) {v l u : Int} (h1 : l ≤ v) (h2 : v ≤ u) : run bds (k + 1) 0 [.d (.int v), .d (.int l), .d (.int u)] = .ok (.bool true) [.no, .no, .no] := by
  rw [in_run, decide_eq_true h1, decide_eq_true h2]
  rfl
theorem cp_run (k : Nat) (a h f : Int) (h1 : 2 ≤ a) (ha : a ≤ 9) (h2 : 1 ≤ h) (hh : h ≤ a - 1) (hf : 1 ≤ f) (hf2 : f ≤ 9) : run bds (k + 2) 4 [.d (.int a), .d (.int h), .d (.int f)] = .ok .none [.no, .no, .no] := by
  show fnRun [0, 1, 2] 3 (b4 (run bds (k + 1))) _ = _
  have n : ∀ {e : M Val} {r : Rho}, e r = .ok (.d (.bool true)) r → tNo (tVal e) r = .ok false r := fun h => no_ok (b := true) (val_b h)
  have hb : b4 (run bds (k + 1)) [.d (.int a), .d (.int h), .d (.int f)] = .ok .nx [.d (.int a), .d (.int h), .d (.int f)] := by
    unfold b4
    refine sq (r' := [.d (.int a), .d (.int h), .d (.int f)]) (if_f (r' := [.d (.int a), .d (.int h), .d (.int f)]) (oo_f (n (call_d (arg_ok (x := .int a) rfl (arg_ok (x := .int 2) rfl (arg_ok (x := .int 9) rfl (xs := []) rfl))) rfl (in_true k h1 ha))) (oo_f (n (call_d (arg_ok (x := .int h) rfl (arg_ok (x := .int 1) rfl (arg_ok (bin_ok (x := .int a) (y := .int 1) rfl rfl rfl) (xs := []) rfl))) rfl (in_true k h2 hh))) (n (call_d (arg_ok (x := .int f) rfl (arg_ok (x := .int 1) rfl (arg_ok (x := .int 9) rfl (xs := []) rfl))) rfl (in_true k hf hf2))))) rfl) rfl
  exact run_nx (pp := [0, 1, 2]) (L := 3) (ss := [.d (.int a), .d (.int h), .d (.int f)]) rfl hb
theorem cc_run (k : Nat) (c a : Int) (h1 : a ≤ c) (h2 : c ≤ 9999) : run bds (k + 2) 5 [.d (.int c), .d (.int a)] = .ok .none [.no, .no] := by
  show fnRun [0, 1] 2 (b5 (run bds (k + 1))) _ = _
  have hb : b5 (run bds (k + 1)) [.d (.int c), .d (.int a)] = .ok .nx [.d (.int c), .d (.int a)] := by
    unfold b5
    refine sq (r' := [.d (.int c), .d (.int a)]) (if_f (r' := [.d (.int c), .d (.int a)]) (no_ok (b := true) (val_b (call_d (arg_ok (x := .int c) rfl (arg_ok (x := .int a) rfl (arg_ok (x := .int 9999) rfl (xs := []) rfl))) rfl (in_true k h1 h2)))) rfl) rfl
  exact run_nx (pp := [0, 1]) (L := 2) (ss := [.d (.int c), .d (.int a)]) rfl hb
theorem feas_run (k : Nat) (c f : Int) (a h : Nat) (h2 : 2 ≤ a) (ha : a < 10) (h1 : 1 ≤ h) (hh : h < a) (hf : 1 ≤ f) (hf2 : f ≤ 9) (hc : (a : Int) ≤ c) (hc2 : c ≤ 9999) : run bds (k + 4) 7 [.d (.int c), .d (.int a), .d (.int h), .d (.int f)] = .ok (.bool (pb c a f h)) [.no, .no, .no, .no] := by
  show fnRun [0, 1, 2, 3] 4 (b7 (run bds (k + 3))) _ = _
  have hb : b7 (run bds (k + 3)) [.d (.int c), .d (.int a), .d (.int h), .d (.int f)] = .ok (.ret (.bool (pb c a f h))) [.d (.int c), .d (.int a), .d (.int h), .d (.int f)] := by
    unfold b7
    refine sq (ex_ok (call_d (arg_ok (x := .int a) rfl (arg_ok (x := .int h) rfl (arg_ok (x := .int f) rfl (xs := []) rfl))) rfl (cp_run (k + 1) a h f (by omega) (by omega) (by omega) (by omega) hf hf2))) ?_
    refine sq (ex_ok (call_d (arg_ok (x := .int c) rfl (arg_ok (x := .int a) rfl (xs := []) rfl)) rfl (cc_run (k + 1) c a hc hc2))) ?_
    exact sqR (ret_ok (call_d (arg_ok (x := .int c) rfl (arg_ok (x := .int a) rfl (arg_ok (x := .int h) rfl (arg_ok (x := .int f) rfl (xs := []) rfl)))) rfl (meets_run k c f a h ha h1 hh (by omega) (by omega) hc (by omega))))
  exact run_ret (pp := [0, 1, 2, 3]) (L := 4) (ss := [.d (.int c), .d (.int a), .d (.int h), .d (.int f)]) rfl hb
end K04

namespace K04
open PySem PySem.Spec PyProof.Rows L2 CT
def lastP (p : Nat → Bool) : Nat → Nat → Int → Int
  | _, 0, res => res
  | lo, m + 1, res => lastP p (lo + 1) m (if p lo then (lo : Int) else res)
def filtP (p : Nat → Bool) : Nat → Nat → List Int
  | _, 0 => []
  | lo, m + 1 => if p lo then (lo : Int) :: filtP p (lo + 1) m else filtP p (lo + 1) m
theorem last_filt (p : Nat → Bool) : ∀ (m lo : Nat) (res : Int), lastP p lo m res = (filtP p lo m).getLast?.getD res
  | 0, lo, res => rfl
  | m + 1, lo, res => by
    unfold lastP filtP
    rw [last_filt p m (lo + 1)]
    by_cases h : p lo = true
    · rw [if_pos h, if_pos h, List.getLast?_cons]
      rfl
    · rw [if_neg h, if_neg h]
theorem filt_len (p : Nat → Bool) : ∀ (m lo : Nat), (filtP p lo m).length ≤ m
  | 0, lo => Nat.le_refl _
  | m + 1, lo => by
    unfold filtP
    have := filt_len p m (lo + 1)
    split
    · simp only [List.length_cons]; omega
    · omega
theorem shp_ints (xs : List Int) : shp (.list (xs.map PyData.int)) = true := by
  have h1 : ∀ xs : List Int, PyData.canLayAll0 (xs.map PyData.int) = true := fun xs => by
    induction xs with
    | nil => rfl
    | cons x xs ih => exact ih
  have h2 : ∀ xs : List Int, PyData.depthAll (xs.map PyData.int) = 0 := fun xs => by
    induction xs with
    | nil => rfl
    | cons x xs ih => show max 0 _ = 0; rw [ih]; rfl
  show (PyData.canLayAll0 _ && decide (PyData.depthAll _ + 1 ≤ 64)) = true
  rw [h1, h2]
  rfl
/-! ### max_hidden -/
def mhS (F : Nat → FnS) : M Fl := (sSeq (sIf (tVal (eCall 4 (F 6) (aCons (eVar 0) (aCons (eVar 1) (aCons (eVar 4) (aCons (eVar 2) aNil)))))) (sSeq (sSet 3 (eVar 4))
    sNx) sNx)
    sNx)
section
variable (k : Nat) (c f : Int) (a : Nat) (h2 : 2 ≤ a) (ha : a < 10) (hf : 1 ≤ f) (hf2 : f ≤ 9) (hc : (a : Int) ≤ c) (hc2 : c ≤ 9999)
include h2 ha hf hf2 hc hc2
theorem mh_loop : ∀ (m lo : Nat) (res : Int) (s : Slot), lo + m = a → 1 ≤ lo → ∃ s', forM (gNm 4) (mhS (run bds (k + 3))) (rngD lo m) [.d (.int c), .d (.int a), .d (.int f), .d (.int res), s] = .ok .nx [.d (.int c), .d (.int a), .d (.int f), .d (.int (lastP (pb c a f) lo m res)), s']
  | 0, lo, res, s, _, _ => ⟨s, rfl⟩
  | m + 1, lo, res, s, h3, h1 => by
    obtain ⟨s', e⟩ := mh_loop m (lo + 1) (if pb c a f lo then (lo : Int) else res) (.d (.int lo)) (by omega) (by omega)
    refine ⟨s', ?_⟩
    rw [rng_succ, for_cons (r1 := [.d (.int c), .d (.int a), .d (.int f), .d (.int res), .d (.int lo)]) (r2 := [.d (.int c), .d (.int a), .d (.int f), .d (.int (if pb c a f lo then (lo : Int) else res)), .d (.int lo)]) rfl ?_]
    · exact e
    have hm := val_b (fa := eCall 4 (run bds (k + 3) 6) (aCons (eVar 0) (aCons (eVar 1) (aCons (eVar 4) (aCons (eVar 2) aNil))))) (call_d (r := [.d (.int c), .d (.int a), .d (.int f), .d (.int res), .d (.int lo)]) (arg_ok (x := .int c) rfl (arg_ok (x := .int a) rfl (arg_ok (x := .int lo) rfl (arg_ok (x := .int f) rfl (xs := []) rfl)))) rfl (meets_run k c f a lo ha h1 (by omega) (by omega) (by omega) hc (by omega)))
    by_cases hp : pb c a f lo = true
    · rw [hp] at hm
      rw [if_pos hp]
      exact sq (if_t hm (sq (set_ok rfl) rfl)) rfl
    · have hp' := Bool.eq_false_iff.mpr hp
      rw [hp'] at hm
      rw [if_neg hp]
      exact sq (if_f hm rfl) rfl
theorem mh_run : run bds (k + 4) 9 [.d (.int c), .d (.int a), .d (.int f)] = .ok (.int (lastP (pb c a f) 1 (a - 1) 0)) [.no, .no, .no] := by
  show fnRun [0, 1, 2] 5 (b9 (run bds (k + 3))) _ = _
  obtain ⟨s', e⟩ := mh_loop k c f a h2 ha hf hf2 hc hc2 (a - 1) 1 0 .no (by omega) (by omega)
  have hb : b9 (run bds (k + 3)) [.d (.int c), .d (.int a), .d (.int f), .no, .no] = .ok (.ret (.int (lastP (pb c a f) 1 (a - 1) 0))) [.d (.int c), .d (.int a), .d (.int f), .d (.int (lastP (pb c a f) 1 (a - 1) 0)), s'] := by
    unfold b9
    refine sq (ex_ok (call_d (arg_ok (x := .int a) rfl (arg_ok (x := .int 1) rfl (arg_ok (x := .int f) rfl (xs := []) rfl))) rfl (cp_run (k + 1) a 1 f (by omega) (by omega) (by omega) (by omega) hf hf2))) ?_
    refine sq (ex_ok (call_d (arg_ok (x := .int c) rfl (arg_ok (x := .int a) rfl (xs := []) rfl)) rfl (cc_run (k + 1) c a hc hc2))) ?_
    refine sq (set_ok (d := .int 0) rfl) ?_
    have hr : iRange2 (eC (.int 1)) (eVar 1) [.d (.int c), .d (.int a), .d (.int f), .d (.int 0), .no] = .ok (rngD 1 (a - 1)) [.d (.int c), .d (.int a), .d (.int f), .d (.int 0), .no] := by
      rw [rng2_ok (fa := eC (.int 1)) (fb := eVar 1) (l := 1) (m := (a : Int)) (r' := [.d (.int c), .d (.int a), .d (.int f), .d (.int 0), .no]) (r'' := [.d (.int c), .d (.int a), .d (.int f), .d (.int 0), .no]) rfl rfl (by rw [r62_nat (by omega)]; rfl), show ((a : Int) - 1).toNat = a - 1 by omega]
    exact sq (sfor_ok (items := rngD 1 (a - 1)) hr e) (sqR (ret_ok rfl))
  exact run_ret (pp := [0, 1, 2]) (L := 5) (ss := [.d (.int c), .d (.int a), .d (.int f)]) rfl hb
/-! ### best -/
theorem best_go (ns : List Int) (dr hd td : D) : ∀ (m lo : Nat), lo + m = a → 1 ≤ lo → lcGo [8] (.nm 8) (tVal (eCall 4 (run bds (k + 2) 17) (aCons (eVar 6) (aCons (eVar 2) (aCons (eVar 8) (aCons (eVar 4) aNil)))))) (eVar 8) (rngD lo m) [.scr ns, .d dr, .d (.int a), .d hd, .d (.int f), .d td, .d (.int c), .no, .no, .no]
      = some ((filtP (pb c a f) lo m).map PyData.int, [.scr ns, .d dr, .d (.int a), .d hd, .d (.int f), .d td, .d (.int c), .no, .no, .no])
  | 0, lo, _, _ => rfl
  | m + 1, lo, h3, h1 => by
    have ih := best_go ns dr hd td m (lo + 1) (by omega) (by omega)
    have hm := val_b (fa := eCall 4 (run bds (k + 2) 17) (aCons (eVar 6) (aCons (eVar 2) (aCons (eVar 8) (aCons (eVar 4) aNil))))) (call_d (r := [.scr ns, .d dr, .d (.int a), .d hd, .d (.int f), .d td, .d (.int c), .no, .d (.int lo), .no]) (arg_ok (x := .int c) rfl (arg_ok (x := .int a) rfl (arg_ok (x := .int lo) rfl (arg_ok (x := .int f) rfl (xs := []) rfl)))) rfl (lb_run k c f a lo h2 ha h1 (by omega) (by omega) (by omega) hc (by omega)))
    rw [rng_succ]
    unfold filtP
    by_cases hp : pb c a f lo = true
    · rw [hp] at hm
      rw [if_pos hp]
      exact lc_t (r1 := [.scr ns, .d dr, .d (.int a), .d hd, .d (.int f), .d td, .d (.int c), .no, .d (.int lo), .no]) rfl hm rfl ih
    · rw [Bool.eq_false_iff.mpr hp] at hm
      rw [if_neg hp]
      exact lc_f (r1 := [.scr ns, .d dr, .d (.int a), .d hd, .d (.int f), .d td, .d (.int c), .no, .d (.int lo), .no]) rfl hm ih
end
end K04

namespace K04
open PySem PySem.Spec PyProof.Rows L2 CT
/-! ### max_cards, by counting -/
def isT : COut → Bool
  | .ok (.bool true) _ => true
  | _ => false
def isF : COut → Bool
  | .ok (.bool false) _ => true
  | _ => false
def chkG (F : Nat → FnS) (a h f : Nat) : Bool := match F 8 [.d (.int (a : Int)), .d (.int (h : Int)), .d (.int (f : Int))] with
  | .ok (.int t) _ => isT (F 17 [.d (.int t), .d (.int (a : Int)), .d (.int (h : Int)), .d (.int (f : Int))]) && isF (F 17 [.d (.int (t + 1)), .d (.int (a : Int)), .d (.int (h : Int)), .d (.int (f : Int))])
  | _ => false
def chkA (a h f : Nat) : Bool := chkG (run bds 7) a h f
theorem ok_G {F : Nat → FnS} {a h f : Nat} (hA : chkG F a h f = true) : ∃ t o1 o2 o3, F 8 [.d (.int (a : Int)), .d (.int (h : Int)), .d (.int (f : Int))] = .ok (.int t) o1 ∧
    F 17 [.d (.int t), .d (.int (a : Int)), .d (.int (h : Int)), .d (.int (f : Int))] = .ok (.bool true) o2 ∧ F 17 [.d (.int (t + 1)), .d (.int (a : Int)), .d (.int (h : Int)), .d (.int (f : Int))] = .ok (.bool false) o3 := by
  unfold chkG at hA
  split at hA
  · rename_i t o1 e1
    rw [Bool.and_eq_true] at hA
    obtain ⟨q1, q2⟩ := hA
    unfold isT at q1
    unfold isF at q2
    split at q1
    · rename_i o2 e2
      split at q2
      · rename_i o3 e3
        exact ⟨t, o1, o2, o3, e1, e2, e3⟩
      · cases q2
    · cases q1
  · cases hA
def chkR (a h : Nat) : Bool := chkA a h 1 && chkA a h 2 && chkA a h 3 && chkA a h 4 && chkA a h 5 && chkA a h 6 && chkA a h 7 && chkA a h 8 && chkA a h 9
def chkH (F : Nat → FnS) (a : Nat) : Bool := match F 8 [.d (.int (a : Int)), .d (.int 1), .d (.int 1)], F 16 [.d (.int (a : Int))] with
  | .ok (.int t) _, .ok (.int u) _ => decide (t = u + a - 1)
  | _, _ => false
def chkC (a : Nat) : Bool := chkH (run bds 7) a
theorem ok_H {F : Nat → FnS} {a : Nat} (hC : chkH F a = true) : ∃ u o1 o2, F 8 [.d (.int (a : Int)), .d (.int 1), .d (.int 1)] = .ok (.int (u + a - 1)) o1 ∧ F 16 [.d (.int (a : Int))] = .ok (.int u) o2 := by
  unfold chkH at hC
  split at hC
  · rename_i t o1 u o2 e1 e2
    have := of_decide_eq_true hC
    subst this
    exact ⟨u, o1, o2, e1, e2⟩
  · cases hC
end K04

namespace K04
open PySem PySem.Spec PyProof.Rows L2 CT
theorem chkC_2 : chkC 2 = true := by decide +kernel
theorem chkC_3 : chkC 3 = true := by decide +kernel
theorem chkC_4 : chkC 4 = true := by decide +kernel
theorem chkC_5 : chkC 5 = true := by decide +kernel
theorem chkC_6 : chkC 6 = true := by decide +kernel
theorem chkC_7 : chkC 7 = true := by decide +kernel
theorem chkC_8 : chkC 8 = true := by decide +kernel
theorem chkC_9 : chkC 9 = true := by decide +kernel
theorem chkC_all : (chkC 2 && chkC 3 && chkC 4 && chkC 5 && chkC 6 && chkC 7 && chkC 8 && chkC 9) = true := by rw [chkC_2, chkC_3, chkC_4, chkC_5, chkC_6, chkC_7, chkC_8, chkC_9]; rfl
theorem chk_2_1 : chkR 2 1 = true := by decide +kernel
theorem chk_3_1 : chkR 3 1 = true := by decide +kernel
theorem chk_3_2 : chkR 3 2 = true := by decide +kernel
theorem chk_4_1 : chkR 4 1 = true := by decide +kernel
theorem chk_4_2 : chkR 4 2 = true := by decide +kernel
theorem chk_4_3 : chkR 4 3 = true := by decide +kernel
theorem chk_5_1 : chkR 5 1 = true := by decide +kernel
theorem chk_5_2 : chkR 5 2 = true := by decide +kernel
theorem chk_5_3 : chkR 5 3 = true := by decide +kernel
theorem chk_5_4 : chkR 5 4 = true := by decide +kernel
theorem chk_6_1 : chkR 6 1 = true := by decide +kernel
theorem chk_6_2 : chkR 6 2 = true := by decide +kernel
theorem chk_6_3 : chkR 6 3 = true := by decide +kernel
theorem chk_6_4 : chkR 6 4 = true := by decide +kernel
theorem chk_6_5 : chkR 6 5 = true := by decide +kernel
theorem chk_7_1 : chkR 7 1 = true := by decide +kernel
theorem chk_7_2 : chkR 7 2 = true := by decide +kernel
theorem chk_7_3 : chkR 7 3 = true := by decide +kernel
theorem chk_7_4 : chkR 7 4 = true := by decide +kernel
theorem chk_7_5 : chkR 7 5 = true := by decide +kernel
theorem chk_7_6 : chkR 7 6 = true := by decide +kernel
theorem chk_8_1 : chkR 8 1 = true := by decide +kernel
theorem chk_8_2 : chkR 8 2 = true := by decide +kernel
theorem chk_8_3 : chkR 8 3 = true := by decide +kernel
theorem chk_8_4 : chkR 8 4 = true := by decide +kernel
theorem chk_8_5 : chkR 8 5 = true := by decide +kernel
theorem chk_8_6 : chkR 8 6 = true := by decide +kernel
theorem chk_8_7 : chkR 8 7 = true := by decide +kernel
theorem chk_9_1 : chkR 9 1 = true := by decide +kernel
theorem chk_9_2 : chkR 9 2 = true := by decide +kernel
theorem chk_9_3 : chkR 9 3 = true := by decide +kernel
theorem chk_9_4 : chkR 9 4 = true := by decide +kernel
theorem chk_9_5 : chkR 9 5 = true := by decide +kernel
theorem chk_9_6 : chkR 9 6 = true := by decide +kernel
theorem chk_9_7 : chkR 9 7 = true := by decide +kernel
theorem chk_9_8 : chkR 9 8 = true := by decide +kernel
theorem chk_all (a h : Nat) (h2 : 2 ≤ a) (ha : a < 10) (h1 : 1 ≤ h) (hh : h < a) : chkR a h = true := by
  have e : a = 2 ∨ a = 3 ∨ a = 4 ∨ a = 5 ∨ a = 6 ∨ a = 7 ∨ a = 8 ∨ a = 9 := by omega
  rcases e with rfl | rfl | rfl | rfl | rfl | rfl | rfl | rfl
  · have e : h = 1 := by omega
    subst e
    exact chk_2_1
  · have e : h = 1 ∨ h = 2 := by omega
    rcases e with rfl | rfl
    · exact chk_3_1
    · exact chk_3_2
  · have e : h = 1 ∨ h = 2 ∨ h = 3 := by omega
    rcases e with rfl | rfl | rfl
    · exact chk_4_1
    · exact chk_4_2
    · exact chk_4_3
  · have e : h = 1 ∨ h = 2 ∨ h = 3 ∨ h = 4 := by omega
    rcases e with rfl | rfl | rfl | rfl
    · exact chk_5_1
    · exact chk_5_2
    · exact chk_5_3
    · exact chk_5_4
  · have e : h = 1 ∨ h = 2 ∨ h = 3 ∨ h = 4 ∨ h = 5 := by omega
    rcases e with rfl | rfl | rfl | rfl | rfl
    · exact chk_6_1
    · exact chk_6_2
    · exact chk_6_3
    · exact chk_6_4
    · exact chk_6_5
  · have e : h = 1 ∨ h = 2 ∨ h = 3 ∨ h = 4 ∨ h = 5 ∨ h = 6 := by omega
    rcases e with rfl | rfl | rfl | rfl | rfl | rfl
    · exact chk_7_1
    · exact chk_7_2
    · exact chk_7_3
    · exact chk_7_4
    · exact chk_7_5
    · exact chk_7_6
  · have e : h = 1 ∨ h = 2 ∨ h = 3 ∨ h = 4 ∨ h = 5 ∨ h = 6 ∨ h = 7 := by omega
    rcases e with rfl | rfl | rfl | rfl | rfl | rfl | rfl
    · exact chk_8_1
    · exact chk_8_2
    · exact chk_8_3
    · exact chk_8_4
    · exact chk_8_5
    · exact chk_8_6
    · exact chk_8_7
  · have e : h = 1 ∨ h = 2 ∨ h = 3 ∨ h = 4 ∨ h = 5 ∨ h = 6 ∨ h = 7 ∨ h = 8 := by omega
    rcases e with rfl | rfl | rfl | rfl | rfl | rfl | rfl | rfl
    · exact chk_9_1
    · exact chk_9_2
    · exact chk_9_3
    · exact chk_9_4
    · exact chk_9_5
    · exact chk_9_6
    · exact chk_9_7
    · exact chk_9_8
end K04

namespace K04
open PySem PySem.Spec PyProof.Rows L2 CT
theorem ok_A {a h f : Nat} (h2 : 2 ≤ a) (ha : a < 10) (h1 : 1 ≤ h) (hh : h < a) (hf : 1 ≤ f) (hf2 : f ≤ 9) : chkG (run bds 7) a h f = true := by
  have hr := chk_all a h h2 ha h1 hh
  show chkA a h f = true
  unfold chkR at hr
  simp only [Bool.and_eq_true] at hr
  have : f = 1 ∨ f = 2 ∨ f = 3 ∨ f = 4 ∨ f = 5 ∨ f = 6 ∨ f = 7 ∨ f = 8 ∨ f = 9 := by omega
  rcases this with rfl | rfl | rfl | rfl | rfl | rfl | rfl | rfl | rfl
  · exact hr.1.1.1.1.1.1.1.1
  · exact hr.1.1.1.1.1.1.1.2
  · exact hr.1.1.1.1.1.1.2
  · exact hr.1.1.1.1.1.2
  · exact hr.1.1.1.1.2
  · exact hr.1.1.1.2
  · exact hr.1.1.2
  · exact hr.1.2
  · exact hr.2
theorem ok_C {a : Nat} (h2 : 2 ≤ a) (ha : a < 10) : chkH (run bds 7) a = true := by
  show chkC a = true
  have hr := chkC_all
  simp only [Bool.and_eq_true] at hr
  have : a = 2 ∨ a = 3 ∨ a = 4 ∨ a = 5 ∨ a = 6 ∨ a = 7 ∨ a = 8 ∨ a = 9 := by omega
  rcases this with rfl | rfl | rfl | rfl | rfl | rfl | rfl | rfl
  · exact hr.1.1.1.1.1.1.1
  · exact hr.1.1.1.1.1.1.2
  · exact hr.1.1.1.1.1.2
  · exact hr.1.1.1.1.2
  · exact hr.1.1.1.2
  · exact hr.1.1.2
  · exact hr.1.2
  · exact hr.2
/-- the law behind its eighth statement -/
def bEnd (F : Nat → FnS) : M Fl := (sSeq (sSet 9 (eIx (eVar 9) (eBin .Mod (eIx (eVar 1) (eC (.int 5))) (eC (.int 11)))))
    (sSeq (sIf (tOo (tCm .NotEq (eCall 2 (F 18) (aCons (eC (.int 0)) (aCons (eVar 9) aNil))) (eC (.str (Str.ofString "number")))) (tVal (eCall 4 (F 7) (aCons (eC (.int 9999)) (aCons (eC (.int 2)) (aCons (eC (.int 1)) (aCons (eC (.int 1)) aNil))))))) (sSeq (sRet (eC (.bool false)))
    sNx) sNx)
    (sSeq (sIf (tAn (tNo (tVal (eCall 3 (F 15) (aCons (eIx (eVar 9) (eC (.int 0))) (aCons (eC (.int 2)) (aCons (eC (.int 9999)) aNil)))))) (tCm .NotEq (eCall 2 (F 18) (aCons (eC (.int 1)) (aCons (eVar 9) aNil))) (eC (.str (Str.ofString "number"))))) (sSeq (sRet (eC (.bool false)))
    sNx) sNx)
    (sSeq (sRet (eAn (eT (tCm .Eq (eCall 3 (F 15) (aCons (eIx (eVar 9) (eC (.int 0))) (aCons (eC (.int 2)) (aCons (eC (.int 9999)) aNil)))) (eT (tCm .Eq (eIx (eVar 9) (eC (.int 0))) (eC (.int 5)))))) (eOo (eT (tCm .NotEq (eIx (eVar 9) (eC (.int 0))) (eC (.int 5)))) (eT (tCm .Eq (eCall 2 (F 18) (aCons (eC (.int 2)) (aCons (eVar 9) aNil))) (eC (.str (Str.ofString "number"))))))))
    sNx))))
def tp (a b c d : D) : D := .tuple [a, b, c, d]
def wrongs : List D := [tp (.int 1) (.int 2) (.int 1) (.int 1), tp (.int 10000) (.int 2) (.int 1) (.int 1), tp (.int 5) (.int 10) (.int 1) (.int 1), tp (.int 5) (.int 1) (.int 1) (.int 1), tp (.int 5) (.int 3) (.int 0) (.int 1), tp (.int 5) (.int 3) (.int 3) (.int 1), tp (.int 5) (.int 3) (.int 1) (.int 0),
  tp (.int 5) (.int 3) (.int 1) (.int 10), tp .none (.int 3) (.int 1) (.int 1), tp (.int 5) .none (.int 1) (.int 1), tp (.bool true) (.int 2) (.int 1) (.int 1)]
theorem ix_ok' {fa fb : M Val} {r : Rho} {x y z : D} (h1 : fa r = .ok (.d x) r) (h2 : fb r = .ok (.d y) r) (h : ixD x y = some z) : eIx fa fb r = .ok (.d z) r := by
  unfold eIx
  rw [ok_bind h1, ok_bind h2]
  show ix2 (.d x) (.d y) r = _
  unfold ix2 CT.viewR CT.view
  dsimp only
  rw [h]
theorem end_ok (ns ds : List Int) (dr a h f t c b s8 : D) (d5 : Int) (h0 : 0 ≤ d5) (hd : atI (ds.map PyData.int) 5 = some (.int d5)) :
    ∃ r, bEnd (run bds 7) [.scr ns, .d (.list (ds.map PyData.int)), .d a, .d h, .d f, .d t, .d c, .d b, .no, .d (.list wrongs)] = .ok (.ret (.bool true)) r := by
  obtain ⟨i, hi⟩ : ∃ i : Nat, d5 % 11 = (i : Int) ∧ i < 11 := ⟨(d5 % 11).toNat, by have := Int.emod_nonneg d5 (b := 11) (by decide); have := Int.emod_lt_of_pos d5 (b := 11) (by decide); omega⟩
  have hx : ∀ w, wrongs[i]? = some w → (eIx (eVar 9) (eBin .Mod (eIx (eVar 1) (eC (.int 5))) (eC (.int 11)))) [.scr ns, .d (.list (ds.map PyData.int)), .d a, .d h, .d f, .d t, .d c, .d b, .no, .d (.list wrongs)] = .ok (.d w) [.scr ns, .d (.list (ds.map PyData.int)), .d a, .d h, .d f, .d t, .d c, .d b, .no, .d (.list wrongs)] := fun w hw => by
    refine ix_ok' (x := .list wrongs) (y := .int i) rfl (bin_ok (x := .int d5) (y := .int 11) (ix_ok' (x := .list (ds.map PyData.int)) (y := .int 5) rfl rfl hd) rfl ?_) (atI_nat hw)
    show some (PyData.int (d5 % 11)) = _
    rw [hi.1]
  have go : ∀ w, wrongs[i]? = some w → ∃ r, bEnd (run bds 7) [.scr ns, .d (.list (ds.map PyData.int)), .d a, .d h, .d f, .d t, .d c, .d b, .no, .d (.list wrongs)] = .ok (.ret (.bool true)) r := fun w hw => by
    have := hi.2
    have e : i = 0 ∨ i = 1 ∨ i = 2 ∨ i = 3 ∨ i = 4 ∨ i = 5 ∨ i = 6 ∨ i = 7 ∨ i = 8 ∨ i = 9 ∨ i = 10 := by omega
    refine ⟨[.scr ns, .d (.list (ds.map PyData.int)), .d a, .d h, .d f, .d t, .d c, .d b, .no, .d w], ?_⟩
    unfold bEnd
    refine sq (set_ok (hx w hw)) ?_
    rcases e with rfl | rfl | rfl | rfl | rfl | rfl | rfl | rfl | rfl | rfl | rfl <;> (cases hw; kernel_rfl)
  exact go (wrongs[i]'(by rw [show wrongs.length = 11 from rfl]; exact hi.2)) (List.getElem?_eq_getElem _)
end K04

namespace K04
open PySem PySem.Spec PyProof.Rows L2 CT
theorem row_ok (k : Nat) (ns : List Int) : ∃ ds : List Int, ds.length = 60 ∧ (∀ x ∈ ds, 0 ≤ x ∧ x < 1000) ∧ run bds (k + 2) 14 [.scr ns, .d (.int 2)] = .ok (.list (ds.map PyData.int)) [.no, .no] :=
  row_run (ns := ns) (Fc := run bds (k + 1) 12) (fun j hj => cell_run ns j hj) 2 (by decide) [0, 1]
theorem emod_nat {x : Int} {m : Nat} (hm : 0 < m) : ∃ i : Nat, x % (m : Int) = (i : Int) ∧ i < m := ⟨(x % (m : Int)).toNat, by have := Int.emod_nonneg x (b := (m : Int)) (by omega); have := Int.emod_lt_of_pos x (b := (m : Int)) (by omega); omega⟩
theorem ne_same (d : D) (h : shp d = true) (e : PyData.eqv d d = true) : cop .NotEq d d = some false := by
  show (if shp d && shp d then some (!PyData.eqv d d) else none) = _
  rw [h, e]
  rfl
theorem int_same (i : Int) : cop .NotEq (.int i) (.int i) = some false := ne_same _ rfl (by show (i == i) = true; simp)
theorem bool_same (b : Bool) : cop .NotEq (.bool b) (.bool b) = some false := by cases b <;> rfl
theorem eif_t {t : M Bool} {fa fb : M Val} {r r' : Rho} {o : Out Val} (h : t r = .ok true r') (k : fa r' = o) : eIf t fa fb r = o := by
  unfold eIf
  rw [ok_bind h]
  exact k
theorem eif_f {t : M Bool} {fa fb : M Val} {r r' : Rho} {o : Out Val} (h : t r = .ok false r') (k : fb r' = o) : eIf t fa fb r = o := by
  unfold eIf
  rw [ok_bind h]
  exact k
theorem main (ns : List Int) : ∃ outs, run bds 8 19 [.scr ns] = .ok (.bool true) outs := by
  obtain ⟨ds, hl, hb, hrow⟩ := row_ok 5 ns
  obtain ⟨d0, e0, _, _⟩ := draw_get hl hb 0 (by decide)
  obtain ⟨d1, e1, _, _⟩ := draw_get hl hb 1 (by decide)
  obtain ⟨d2, e2, _, _⟩ := draw_get hl hb 2 (by decide)
  obtain ⟨d3, e3, _, _⟩ := draw_get hl hb 3 (by decide)
  obtain ⟨d4, e4, _, _⟩ := draw_get hl hb 4 (by decide)
  obtain ⟨d5, e5, h50, _⟩ := draw_get hl hb 5 (by decide)
  obtain ⟨i0, q0, l0⟩ := emod_nat (x := d0) (m := 8) (by decide)
  obtain ⟨i1, q1, l1⟩ := emod_nat (x := d1) (m := i0 + 1) (by omega)
  obtain ⟨i2, q2, l2⟩ := emod_nat (x := d2) (m := 9) (by decide)
  obtain ⟨i4, q4, l4⟩ := emod_nat (x := d4) (m := 3) (by decide)
  obtain ⟨a, ea⟩ : ∃ a, a = i0 + 2 := ⟨_, rfl⟩
  obtain ⟨h, eh⟩ : ∃ h, h = i1 + 1 := ⟨_, rfl⟩
  obtain ⟨f, ef⟩ : ∃ f, f = i2 + 1 := ⟨_, rfl⟩
  obtain ⟨t, o1, o2, o3, t1, t2, t3⟩ := ok_G (ok_A (a := a) (h := h) (f := f) (by omega) (by omega) (by omega) (by omega) (by omega) (by omega))
  obtain ⟨u, o4, o5, u1, u2⟩ := ok_H (ok_C (a := a) (by omega) (by omega))
  -- the modulus of the cards
  obtain ⟨m, hm0, hm1, hm⟩ : ∃ m : Int, 0 < m ∧ m ≤ 1000 ∧ atI [PyData.int 10, PyData.int 100, PyData.int 1000] (i4 : Int) = some (.int m) := by
    have : i4 = 0 ∨ i4 = 1 ∨ i4 = 2 := by omega
    rcases this with rfl | rfl | rfl
    · exact ⟨10, by decide, by decide, rfl⟩
    · exact ⟨100, by decide, by decide, rfl⟩
    · exact ⟨1000, by decide, by decide, rfl⟩
  have hc0 := Int.emod_nonneg d3 (b := m) (by omega)
  have hc1 := Int.emod_lt_of_pos d3 hm0
  obtain ⟨c, ec⟩ : ∃ c : Int, c = a + d3 % m := ⟨_, rfl⟩
  have hca : (a : Int) ≤ c := by omega
  have hcb : c ≤ 9999 := by omega
  obtain ⟨F, hF⟩ : ∃ F, F = run bds 7 := ⟨_, rfl⟩
  have fe : run bds 7 7 [.d (.int c), .d (.int a), .d (.int h), .d (.int f)] = .ok (.bool (pb c a f h)) [.no, .no, .no, .no] := feas_run 3 c f a h (by omega) (by omega) (by omega) (by omega) (by omega) (by omega) hca hcb
  have lb : run bds 7 17 [.d (.int c), .d (.int a), .d (.int h), .d (.int f)] = .ok (.bool (pb c a f h)) [.no, .no, .no, .no] := lb_run 5 c f a h (by omega) (by omega) (by omega) (by omega) (by omega) (by omega) hca (by omega)
  have mh : run bds 7 9 [.d (.int c), .d (.int a), .d (.int f)] = .ok (.int (lastP (pb c a f) 1 (a - 1) 0)) [.no, .no, .no] := mh_run 3 c f a (by omega) (by omega) (by omega) (by omega) hca hcb
  have bg : lcGo [8] (.nm 8) (tVal (eCall 4 (run bds 7 17) (aCons (eVar 6) (aCons (eVar 2) (aCons (eVar 8) (aCons (eVar 4) aNil)))))) (eVar 8) (rngD ((1 : Nat) : Int) (a - 1)) [.scr ns, .d (.list (ds.map PyData.int)), .d (.int a), .d (.int h), .d (.int f), .d (.int t), .d (.int c), .no, .no, .no]
      = some ((filtP (pb c a f) 1 (a - 1)).map PyData.int, [.scr ns, .d (.list (ds.map PyData.int)), .d (.int a), .d (.int h), .d (.int f), .d (.int t), .d (.int c), .no, .no, .no]) := best_go 5 c f a (by omega) (by omega) (by omega) (by omega) hca hcb ns (.list (ds.map PyData.int)) (.int h) (.int t) (a - 1) 1 (by omega) (by omega)
  have hrow0 : run bds 7 14 [.scr ns, .d (.int 2)] = .ok (.list (ds.map PyData.int)) [.no, .no] := hrow
  obtain ⟨rE, hE⟩ := end_ok ns ds (.list (ds.map PyData.int)) (.int a) (.int h) (.int f) (.int t) (.int c) (.list ((filtP (pb c a f) 1 (a - 1)).map PyData.int)) .none d5 h50 e5
  rw [← hF] at t1 t2 t3 u1 u2 hE fe lb mh bg hrow0
  have hb' : b19 F [.scr ns, .no, .no, .no, .no, .no, .no, .no, .no, .no] = .ok (.ret (.bool true)) rE := by
    unfold b19
    refine sq (set_ok (d := .list (ds.map PyData.int)) (r' := [.scr ns, .no, .no, .no, .no, .no, .no, .no, .no, .no]) ?_) ?_
    · show (match F 14 [.scr ns, .d (.int 2)] with | .ok d outs => Out.ok (Val.d d) (wb [.scr ns, .no, .no, .no, .no, .no, .no, .no, .no, .no] [.sl 0, .d (.int 2)] outs) | .exc x outs => .exc x (wb [.scr ns, .no, .no, .no, .no, .no, .no, .no, .no, .no] [.sl 0, .d (.int 2)] outs) | .bad => .bad) = _
      rw [hrow0]
      rfl
    refine sq (set_ok (d := .int a) (bin_ok (x := .int 2) (y := .int i0) rfl (bin_ok (x := .int d0) (y := .int 8) (ix_ok' (x := .list (ds.map PyData.int)) (y := .int 0) rfl rfl e0) rfl ?_) ?_)) ?_
    · show some (PyData.int (d0 % 8)) = _
      rw [← q0]
      rfl
    · show some (PyData.int (2 + (i0 : Int))) = _
      rw [show 2 + (i0 : Int) = (a : Int) by omega]
    refine sq (set_ok (d := .int h) (bin_ok (x := .int 1) (y := .int i1) rfl (bin_ok (x := .int d1) (y := .int ((i0 + 1 : Nat) : Int)) (ix_ok' (x := .list (ds.map PyData.int)) (y := .int 1) rfl rfl e1) (bin_ok (x := .int a) (y := .int 1) rfl rfl ?_) ?_) ?_)) ?_
    · show some (PyData.int ((a : Int) - 1)) = _
      rw [show (a : Int) - 1 = ((i0 + 1 : Nat) : Int) by omega]
    · show (if 0 < ((i0 + 1 : Nat) : Int) then some (PyData.int (d1 % ((i0 + 1 : Nat) : Int))) else none) = _
      rw [if_pos (by omega), q1]
    · show some (PyData.int (1 + (i1 : Int))) = _
      rw [show 1 + (i1 : Int) = (h : Int) by omega]
    refine sq (set_ok (d := .int f) (bin_ok (x := .int 1) (y := .int i2) rfl (bin_ok (x := .int d2) (y := .int 9) (ix_ok' (x := .list (ds.map PyData.int)) (y := .int 2) rfl rfl e2) rfl ?_) ?_)) ?_
    · show some (PyData.int (d2 % 9)) = _
      rw [← q2]
      rfl
    · show some (PyData.int (1 + (i2 : Int))) = _
      rw [show 1 + (i2 : Int) = (f : Int) by omega]
    -- top
    refine sq (set_ok (d := .int t) (call_d (arg_ok (x := .int a) rfl (arg_ok (x := .int h) rfl (arg_ok (x := .int f) rfl (xs := []) rfl))) rfl t1)) ?_
    refine sq (r' := [.scr ns, .d (.list (ds.map PyData.int)), .d (.int a), .d (.int h), .d (.int f), .d (.int t), .no, .no, .no, .no]) (if_f (oo_f (no_ok (b := true) (val_b (call_d (arg_ok (x := .int t) rfl (arg_ok (x := .int a) rfl (arg_ok (x := .int h) rfl (arg_ok (x := .int f) rfl (xs := []) rfl)))) rfl t2))) (val_b (call_d (arg_ok (bin_ok (x := .int t) (y := .int 1) rfl rfl rfl) (arg_ok (x := .int a) rfl (arg_ok (x := .int h) rfl (arg_ok (x := .int f) rfl (xs := []) rfl)))) rfl t3))) rfl) ?_
    -- cards
    refine sq (set_ok (d := .int c) (bin_ok (x := .int a) (y := .int (d3 % m)) rfl (bin_ok (x := .int d3) (y := .int m) (ix_ok' (x := .list (ds.map PyData.int)) (y := .int 3) rfl rfl e3) (ix_ok' (x := .list [PyData.int 10, PyData.int 100, PyData.int 1000]) (y := .int i4) rfl (bin_ok (x := .int d4) (y := .int 3) (ix_ok' (x := .list (ds.map PyData.int)) (y := .int 4) rfl rfl e4) rfl ?_) hm) ?_) ?_)) ?_
    · show some (PyData.int (d4 % 3)) = _
      rw [← q4]
      rfl
    · show (if 0 < m then some (PyData.int (d3 % m)) else none) = _
      rw [if_pos hm0]
    · show some (PyData.int ((a : Int) + d3 % m)) = _
      rw [← ec]
    refine sq (r' := [.scr ns, .d (.list (ds.map PyData.int)), .d (.int a), .d (.int h), .d (.int f), .d (.int t), .d (.int c), .no, .no, .no]) (if_f (cm_ok (call_d (arg_ok (x := .int c) rfl (arg_ok (x := .int a) rfl (arg_ok (x := .int h) rfl (arg_ok (x := .int f) rfl (xs := []) rfl)))) rfl fe) (call_d (arg_ok (x := .int c) rfl (arg_ok (x := .int a) rfl (arg_ok (x := .int h) rfl (arg_ok (x := .int f) rfl (xs := []) rfl)))) rfl lb) (bool_same _)) rfl) ?_
    -- best
    have hr : iRange2 (eC (.int 1)) (eVar 2) [.scr ns, .d (.list (ds.map PyData.int)), .d (.int a), .d (.int h), .d (.int f), .d (.int t), .d (.int c), .no, .no, .no] = .ok (rngD ((1 : Nat) : Int) (a - 1)) [.scr ns, .d (.list (ds.map PyData.int)), .d (.int a), .d (.int h), .d (.int f), .d (.int t), .d (.int c), .no, .no, .no] := by
      rw [rng2_ok (fa := eC (.int 1)) (fb := eVar 2) (l := 1) (m := (a : Int)) (r' := [.scr ns, .d (.list (ds.map PyData.int)), .d (.int a), .d (.int h), .d (.int f), .d (.int t), .d (.int c), .no, .no, .no]) (r'' := [.scr ns, .d (.list (ds.map PyData.int)), .d (.int a), .d (.int h), .d (.int f), .d (.int t), .d (.int c), .no, .no, .no]) rfl rfl (by rw [r62_nat (by omega)]; rfl), show ((a : Int) - 1).toNat = a - 1 by omega]
      rfl
    refine sq (set_ok (lc_of hr bg (by have := filt_len (pb c a f) (a - 1) 1; rw [List.length_map]; exact Nat.le_trans this (Nat.le_trans (show a - 1 ≤ 10 by omega) (by decide))))) ?_
    obtain ⟨bl, ebl⟩ : ∃ bl, bl = filtP (pb c a f) 1 (a - 1) := ⟨_, rfl⟩
    rw [last_filt, ← ebl] at mh
    rw [← ebl] at hE ⊢
    refine sq (r' := [.scr ns, .d (.list (ds.map PyData.int)), .d (.int a), .d (.int h), .d (.int f), .d (.int t), .d (.int c), .d (.list (bl.map PyData.int)), .no, .no]) (if_f (cm_ok (y := .int (bl.getLast?.getD 0)) (call_d (arg_ok (x := .int c) rfl (arg_ok (x := .int a) rfl (arg_ok (x := .int f) rfl (xs := []) rfl))) rfl mh) ?_ (int_same _)) rfl) ?_
    · cases bl with
      | nil => exact eif_f (cm_ok (x := .list []) (y := .list []) rfl rfl rfl) rfl
      | cons b bl =>
        refine eif_t (cm_ok (x := .list ((b :: bl).map PyData.int)) (y := .list []) rfl rfl ?_) (ix_ok' (x := .list ((b :: bl).map PyData.int)) (y := .int (-1)) rfl rfl ?_)
        · show (if shp (.list ((b :: bl).map PyData.int)) && shp (.list []) then some (!PyData.eqv (.list ((b :: bl).map PyData.int)) (.list [])) else none) = _
          rw [shp_ints]
          rfl
        · have z : (b :: bl).map PyData.int = ((b :: bl).dropLast.map PyData.int) ++ [.int ((b :: bl).getLast (List.cons_ne_nil _ _))] := by
            rw [← List.map_singleton, ← List.map_append, List.dropLast_concat_getLast]
          show atI ((b :: bl).map PyData.int) (-1) = _
          rw [z, atI_last, List.getLast?_eq_getLast (List.cons_ne_nil b bl)]
          rfl
    refine sq (r' := [.scr ns, .d (.list (ds.map PyData.int)), .d (.int a), .d (.int h), .d (.int f), .d (.int t), .d (.int c), .d (.list (bl.map PyData.int)), .no, .no]) (if_f (cm_ok (call_d (arg_ok (x := .int a) rfl (arg_ok (x := .int 1) rfl (arg_ok (x := .int 1) rfl (xs := []) rfl))) rfl u1) (bin_ok (x := .int (u + a)) (y := .int 1) (bin_ok (x := .int u) (y := .int a) (call_d (arg_ok (x := .int a) rfl (xs := []) rfl) rfl u2) rfl rfl) rfl rfl) (int_same _)) rfl) ?_
    refine sq (set_ok rfl) (sq (set_ok rfl) ?_)
    exact hE
  subst hF
  exact ⟨_, run_ret (pp := [0]) (L := 10) (ss := [.scr ns]) (fb := b19 (run bds 7)) rfl hb'⟩
end K04

open PySem PySem.W PyProof.Rows
theorem PySem.Challenge.cw_cardtrick_k04_feasibility_bounds_holds : PySem.Challenge.rw_cardtrick_k04_feasibility_bounds.Holds := by
  w_on; o_law; k_head; (case hw => w_witness2)
  refine CT.walk_ct (l := PySem.Challenge.rw_cardtrick_k04_feasibility_bounds) (tb := K04.tb) (bs := K04.bds) (n := 60) (j := 8) (i := 19) (df := K04.d19) rfl rfl (fun w h Y => PySem.W.kIn_of Y) ?ctA ?ctB K04.allb rfl rfl rfl rfl ⟨rfl, by decide, by decide⟩ (fun ns _ => K04.main ns)
  case ctA => intro p; kernel_rfl
  case ctB => intro p; kernel_rfl

