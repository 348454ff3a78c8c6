import PyProof.Rows.All
import Wide.All
import OpenK.AllK
import Wide.FinOn
import HandS.ForMost
import HandS.Deep
import HandS.Defaults
import HandS.IsInst
import HandS.Walk
import HandS.Zip
import KE.SortData
import HandS.TupAny
import HandS.SortInts
import HandS.SetKeys
import HandS.More
import KE.KDictWalk
import KE.KDictSum
import KE.KDictKeyed
import HandS.TupSets
import HandS.CallLocal
import HandS.RaiseMore
import KE.DatumOrd
import HandS.HeadEnd
import KE.KStateDown
import Lean
import HandS.Base
import HandS.Call
import HandS.Ends
import HandS.Words
import HandS.WordsExc
import HandS.Head0
import HandS.Head1
import HandS.Head2
import HandS.HeadHook1
import HandS.HeadHook2
import HandS.HeadHook3
import HandS.HeadHook4
import PySem.Challenge.RW_pressnotes_k83_whole_elder_views
set_option Elab.async false
set_option linter.all false
set_option maxRecDepth 100000
set_option maxHeartbeats 4000000
namespace K83
open PySem PySem.Spec PyProof.Rows L2

/-! ## plain data held by tuples that the abstract heap tracks -/
mutual
inductive Is (H : Hp) : V → PyData → Prop
  | non : Is H .non .none
  | bl (b : Bool) : Is H (.bl b) (.bool b)
  | int (i : Int) : Is H (.int i) (.int i)
  | str (x : Str) : Is H (.str x) (.str x)
  | tup {a : Addr} {xs : List V} {ds : List PyData} : H a = some (.tup xs) → IsAll H xs ds → Is H (.ref a) (.tuple ds)
inductive IsAll (H : Hp) : List V → List PyData → Prop
  | nil : IsAll H [] []
  | cons {v : V} {vs : List V} {d : PyData} {ds : List PyData} : Is H v d → IsAll H vs ds → IsAll H (v :: vs) (d :: ds)
end
/-- tuples are kept -/
def Tk (H H' : Hp) : Prop := ∀ a xs, H a = some (.tup xs) → H' a = some (.tup xs)
mutual
theorem Is.tk {H H' : Hp} (k : Tk H H') : ∀ (d : PyData) (v : V), Is H v d → Is H' v d
  | .none, _, h => by cases h; exact .non
  | .bool b, _, h => by cases h; exact .bl b
  | .int i, _, h => by cases h; exact .int i
  | .str x, _, h => by cases h; exact .str x
  | .list ds, _, h => by cases h
  | .tuple ds, _, h => by
    cases h with
    | tup h1 h2 => exact .tup (k _ _ h1) (IsAll.tk k ds _ h2)
  | .dict _, _, h => by cases h
theorem IsAll.tk {H H' : Hp} (k : Tk H H') : ∀ (ds : List PyData) (vs : List V), IsAll H vs ds → IsAll H' vs ds
  | [], _, h => by cases h; exact .nil
  | d :: ds, _, h => by
    cases h with
    | cons h1 h2 => exact .cons (Is.tk k d _ h1) (IsAll.tk k ds _ h2)
end
mutual
theorem Is.dp {K : PySem.W.Frag} {H : Hp} : ∀ (d : PyData) (v : V), Is H v d → Dp K H v d
  | .none, _, h => by cases h; exact .non
  | .bool b, _, h => by cases h; exact .bl b
  | .int i, _, h => by cases h; exact .int i
  | .str x, _, h => by cases h; exact .str x
  | .list ds, _, h => by cases h
  | .tuple ds, _, h => by
    cases h with
    | tup h1 h2 => exact .tup (SqT.of h1) (IsAll.dp ds _ h2)
  | .dict _, _, h => by cases h
theorem IsAll.dp {K : PySem.W.Frag} {H : Hp} : ∀ (ds : List PyData) (vs : List V), IsAll H vs ds → DpAll K H vs ds
  | [], _, h => by cases h; exact .nil
  | d :: ds, _, h => by
    cases h with
    | cons h1 h2 => exact .cons (Is.dp d _ h1) (IsAll.dp ds _ h2)
end
theorem IsAll.len {H : Hp} : ∀ {ds : List PyData} {vs : List V}, IsAll H vs ds → vs.length = ds.length
  | [], _, h => by cases h; rfl
  | d :: ds, _, h => by
    cases h with
    | cons h1 h2 => rw [List.length_cons, List.length_cons, IsAll.len h2]
theorem IsAll.get {H : Hp} : ∀ {ds : List PyData} {vs : List V} {i : Nat} {d : PyData}, IsAll H vs ds → ds[i]? = some d → ∃ v, vs[i]? = some v ∧ Is H v d
  | [], _, _, _, _, e => by simp at e
  | d0 :: ds, _, 0, d, h, e => by
    cases h with
    | cons h1 h2 =>
      have e' : d0 = d := Option.some.inj e
      subst e'
      exact ⟨_, rfl, h1⟩
  | d0 :: ds, _, i + 1, d, h, e => by
    cases h with
    | cons h1 h2 =>
      obtain ⟨v, h3, h4⟩ := IsAll.get (i := i) (d := d) h2 e
      exact ⟨v, h3, h4⟩
theorem IsAll.getV {H : Hp} {ds : List PyData} {vs : List V} {i : Nat} {v : V} (h : IsAll H vs ds) (e : vs[i]? = some v) : ∃ d, ds[i]? = some d ∧ Is H v d := by
  have hi : i < vs.length := (List.getElem?_eq_some_iff.mp e).1
  have hd : i < ds.length := by rw [← h.len]; exact hi
  obtain ⟨v', h1, h2⟩ := h.get (List.getElem?_eq_getElem hd)
  rw [e] at h1
  cases h1
  exact ⟨_, List.getElem?_eq_getElem hd, h2⟩
theorem IsAll.app {H : Hp} : ∀ {ds es : List PyData} {vs us : List V}, IsAll H vs ds → IsAll H us es → IsAll H (vs ++ us) (ds ++ es)
  | [], _, _, _, h, h' => by cases h; exact h'
  | d :: ds, _, _, _, h, h' => by
    cases h with
    | cons h1 h2 => exact .cons h1 (IsAll.app h2 h')
theorem IsAll.one {H : Hp} {v : V} {d : PyData} (h : Is H v d) : IsAll H [v] [d] := .cons h .nil
theorem IsAll.take {H : Hp} : ∀ {ds : List PyData} {vs : List V} (n : Nat), IsAll H vs ds → IsAll H (vs.take n) (ds.take n)
  | _, _, 0, _ => by rw [List.take_zero, List.take_zero]; exact .nil
  | [], _, n + 1, h => by cases h; exact .nil
  | d :: ds, _, n + 1, h => by
    cases h with
    | cons h1 h2 => exact .cons h1 (IsAll.take n h2)
theorem IsAll.drop {H : Hp} : ∀ {ds : List PyData} {vs : List V} (n : Nat), IsAll H vs ds → IsAll H (vs.drop n) (ds.drop n)
  | _, _, 0, h => h
  | [], _, n + 1, h => by cases h; exact .nil
  | d :: ds, _, n + 1, h => by
    cases h with
    | cons h1 h2 => exact IsAll.drop n h2
theorem IsAll.set {H : Hp} : ∀ {ds : List PyData} {vs : List V} {v : V} {d : PyData} (i : Nat), IsAll H vs ds → Is H v d → IsAll H (vs.set i v) (ds.set i d)
  | [], _, _, _, i, h, _ => by cases h; exact .nil
  | d0 :: ds, _, _, _, 0, h, q => by
    cases h with
    | cons h1 h2 => exact .cons q h2
  | d0 :: ds, _, _, _, i + 1, h, q => by
    cases h with
    | cons h1 h2 => exact .cons h1 (IsAll.set i h2 q)
theorem Is.tupInv {H : Hp} {v : V} {ds : List PyData} (h : Is H v (.tuple ds)) : ∃ a xs, v = .ref a ∧ H a = some (.tup xs) ∧ IsAll H xs ds := by
  cases h with
  | tup h1 h2 => exact ⟨_, _, rfl, h1, h2⟩
theorem Is.intInv {H : Hp} {v : V} {i : Int} (h : Is H v (.int i)) : v = .int i := by cases h; rfl
theorem Is.strInv {H : Hp} {v : V} {x : Str} (h : Is H v (.str x)) : v = .str x := by cases h; rfl
theorem Is.blInv {H : Hp} {v : V} {b : Bool} (h : Is H v (.bool b)) : v = .bl b := by cases h; rfl
theorem Is.nonInv {H : Hp} {v : V} (h : Is H v .none) : v = .non := by cases h; rfl

/-- at p stands a tuple, its object known: it has no dict of its own -/
def Nic (H : Hp) (p : Addr) (xs : List V) : Prop := ∃ o : Obj, H p = some (.frz o (.tup xs)) ∧ o.dict = none
theorem Nic.on {H H' : Hp} {p : Addr} {xs : List V} (e : (∀ a u, H a = some u → H' a = some u)) (h : Nic H p xs) : Nic H' p xs := let ⟨o, h1, h2⟩ := h; ⟨o, e _ _ h1, h2⟩
theorem Nic.sq {K : PySem.W.Frag} {H : Hp} {p : Addr} {xs : List V} (h : Nic H p xs) : SqT K H p xs := let ⟨o, h1, _⟩ := h; .inl (.inr ⟨o, h1⟩)
/-! ## data with lists that nobody changes any more -/
mutual
inductive Fz (H : Hp) : V → PyData → Prop
  | non : Fz H .non .none
  | bl (b : Bool) : Fz H (.bl b) (.bool b)
  | int (i : Int) : Fz H (.int i) (.int i)
  | str (x : Str) : Fz H (.str x) (.str x)
  | tup {a : Addr} {xs : List V} {ds : List PyData} : H a = some (.tup xs) → FzAll H xs ds → Fz H (.ref a) (.tuple ds)
  | nic {a : Addr} {xs : List V} {ds : List PyData} : Nic H a xs → FzAll H xs ds → Fz H (.ref a) (.tuple ds)
  | lst {a : Addr} {xs : List V} {ds : List PyData} : H a = some (.lst xs) → FzAll H xs ds → Fz H (.ref a) (.list ds)
inductive FzAll (H : Hp) : List V → List PyData → Prop
  | nil : FzAll H [] []
  | cons {v : V} {vs : List V} {d : PyData} {ds : List PyData} : Fz H v d → FzAll H vs ds → FzAll H (v :: vs) (d :: ds)
end
mutual
theorem Fz.on {H H' : Hp} (k : ∀ a u, H a = some u → H' a = some u) : ∀ (d : PyData) (v : V), Fz H v d → Fz H' v d
  | .none, _, h => by cases h; exact .non
  | .bool b, _, h => by cases h; exact .bl b
  | .int i, _, h => by cases h; exact .int i
  | .str x, _, h => by cases h; exact .str x
  | .list ds, _, h => by
    cases h with
    | lst h1 h2 => exact .lst (k _ _ h1) (FzAll.on k ds _ h2)
  | .tuple ds, _, h => by
    cases h with
    | tup h1 h2 => exact .tup (k _ _ h1) (FzAll.on k ds _ h2)
    | nic h1 h2 => exact .nic (h1.on k) (FzAll.on k ds _ h2)
  | .dict _, _, h => by cases h
theorem FzAll.on {H H' : Hp} (k : ∀ a u, H a = some u → H' a = some u) : ∀ (ds : List PyData) (vs : List V), FzAll H vs ds → FzAll H' vs ds
  | [], _, h => by cases h; exact .nil
  | d :: ds, _, h => by
    cases h with
    | cons h1 h2 => exact .cons (Fz.on k d _ h1) (FzAll.on k ds _ h2)
end
mutual
theorem Is.fz {H H' : Hp} (k : Tk H H') : ∀ (d : PyData) (v : V), Is H v d → Fz H' v d
  | .none, _, h => by cases h; exact .non
  | .bool b, _, h => by cases h; exact .bl b
  | .int i, _, h => by cases h; exact .int i
  | .str x, _, h => by cases h; exact .str x
  | .list ds, _, h => by cases h
  | .tuple ds, _, h => by
    cases h with
    | tup h1 h2 => exact .tup (k _ _ h1) (IsAll.fz k ds _ h2)
  | .dict _, _, h => by cases h
theorem IsAll.fz {H H' : Hp} (k : Tk H H') : ∀ (ds : List PyData) (vs : List V), IsAll H vs ds → FzAll H' vs ds
  | [], _, h => by cases h; exact .nil
  | d :: ds, _, h => by
    cases h with
    | cons h1 h2 => exact .cons (Is.fz k d _ h1) (IsAll.fz k ds _ h2)
end
mutual
theorem Fz.dp {K : PySem.W.Frag} {H : Hp} : ∀ (d : PyData) (v : V), Fz H v d → Dp K H v d
  | .none, _, h => by cases h; exact .non
  | .bool b, _, h => by cases h; exact .bl b
  | .int i, _, h => by cases h; exact .int i
  | .str x, _, h => by cases h; exact .str x
  | .list ds, _, h => by
    cases h with
    | lst h1 h2 => exact .lst (SqL.of h1) (FzAll.dp ds _ h2)
  | .tuple ds, _, h => by
    cases h with
    | tup h1 h2 => exact .tup (SqT.of h1) (FzAll.dp ds _ h2)
    | nic h1 h2 => exact .tup h1.sq (FzAll.dp ds _ h2)
  | .dict _, _, h => by cases h
theorem FzAll.dp {K : PySem.W.Frag} {H : Hp} : ∀ (ds : List PyData) (vs : List V), FzAll H vs ds → DpAll K H vs ds
  | [], _, h => by cases h; exact .nil
  | d :: ds, _, h => by
    cases h with
    | cons h1 h2 => exact .cons (Fz.dp d _ h1) (FzAll.dp ds _ h2)
end
theorem FzAll.len {H : Hp} : ∀ {ds : List PyData} {vs : List V}, FzAll H vs ds → vs.length = ds.length
  | [], _, h => by cases h; rfl
  | d :: ds, _, h => by
    cases h with
    | cons h1 h2 => rw [List.length_cons, List.length_cons, FzAll.len h2]
theorem FzAll.app {H : Hp} : ∀ {ds es : List PyData} {vs us : List V}, FzAll H vs ds → FzAll H us es → FzAll H (vs ++ us) (ds ++ es)
  | [], _, _, _, h, h' => by cases h; exact h'
  | d :: ds, _, _, _, h, h' => by
    cases h with
    | cons h1 h2 => exact .cons h1 (FzAll.app h2 h')
theorem FzAll.get {H : Hp} : ∀ {ds : List PyData} {vs : List V} {i : Nat} {d : PyData}, FzAll H vs ds → ds[i]? = some d → ∃ v, vs[i]? = some v ∧ Fz H v d
  | [], _, _, _, _, e => by simp at e
  | d0 :: ds, _, 0, d, h, e => by
    cases h with
    | cons h1 h2 =>
      have e' : d0 = d := Option.some.inj e
      subst e'
      exact ⟨_, rfl, h1⟩
  | d0 :: ds, _, i + 1, d, h, e => by
    cases h with
    | cons h1 h2 =>
      obtain ⟨v, h3, h4⟩ := FzAll.get (i := i) (d := d) h2 e
      exact ⟨v, h3, h4⟩
/-! data without lists -/
mutual
def flatD : PyData → Bool
  | .list _ => false
  | .dict _ => false
  | .tuple ds => flatAllD ds
  | _ => true
def flatAllD : List PyData → Bool
  | [] => true
  | d :: ds => flatD d && flatAllD ds
end
/-! ## all that was tracked is as it was -/
theorem Same.tk {H H' : Hp} (e : Same H H') : Tk H H' := fun a xs h => e a _ h
theorem Same.new {H : Hp} {p : Addr} {o : HO} (h : H p = none) : Same H (upd H p o) := fun a u e => by
  rw [upd_ne (ne_of_none e h)]
  exact e
/-- what the base does not know may change -/
theorem Same.mut {H H' : Hp} {p : Addr} {o : HO} (e : Same H H') (h : H p = none) : Same H (upd H' p o) := fun a u q => by
  rw [upd_ne (ne_of_none q h)]
  exact e a u q

/-! ## what a slot is known to hold -/
def keyD : Key → PyData
  | .inl i => .int i
  | .inr x => .str x
/-- a dict's entries -/
abbrev KvIs {κ : Type} (H : Hp) : List (κ × V) → List (κ × PyData) → Prop := Paired fun p q => p.1 = q.1 ∧ Is H p.2 q.2
theorem KvIs.tk {κ : Type} {H H' : Hp} (k : Tk H H') {l : List (κ × V)} {m : List (κ × PyData)} (h : KvIs H l m) : KvIs H' l m :=
  Paired.mapP h fun _ _ z => ⟨z.1, Is.tk k _ _ z.2⟩
inductive Sv where
  | no
  /-- just this value -/
  | val (v : V)
  /-- data -/
  | dat (d : PyData)
  /-- a list that nobody here changes -/
  | shr (ds : List PyData)
  /-- a list of one's own at p -/
  | own (p : Addr) (ds : List PyData)
  /-- a dict of one's own at p, its keys tuples; its keys ints or texts -/
  | dic (p : Addr) (kvs : List (List Key × PyData))
  | dks (p : Addr) (kvs : List (Key × PyData))
  /-- the law's feed: at f the list of the script's copy at S, the count (at most n), the rest -/
  | feed (f S : Addr) (n : Nat)
  /-- data with lists, nobody changes them -/
  | fz (d : PyData)
  /-- a tuple whose very object is known -/
  | nic (ds : List PyData)
  /-- the law's feed, told exactly -/
  | fex (f S : Addr) (a r : Int) (ns : List Int)
  /-- an instance of the class at C, its two fields data and a list of one's own at q -/
  | led (C p q : Addr) (f1 f2 : Str) (d : PyData) (ds : List PyData)
def Sv.ptr : Sv → Option Addr
  | .own p _ => some p
  | .dic p _ => some p
  | .dks p _ => some p
  | .feed p _ _ => some p
  | .led _ _ q _ _ _ _ => some q
  | .fex f _ _ _ _ => some f
  | _ => none
def FeedAt (H0 H : Hp) (f S : Addr) (n : Nat) : Prop := ∃ (a r : Int) (ns : List Int), H f = some (.lst [.ref S, .int a, .int r]) ∧ H0 S = some (.lst (ns.map V.int)) ∧ 0 ≤ a ∧ a ≤ n ∧ 0 ≤ r ∧ ns.length ≤ 63
def SvOk (H0 H : Hp) (o : Option (Option V)) : Sv → Prop
  | .no => True
  | .val v => o = some (some v)
  | .dat d => ∃ v, o = some (some v) ∧ Is H v d
  | .shr ds => ∃ p vs, o = some (some (.ref p)) ∧ H0 p = some (.lst vs) ∧ IsAll H vs ds
  | .own p ds => o = some (some (.ref p)) ∧ H0 p = none ∧ ∃ vs, H p = some (.lst vs) ∧ IsAll H vs ds
  | .dic p kvs => o = some (some (.ref p)) ∧ H0 p = none ∧ ∃ kv, H p = some (.dT kv) ∧ KvIs H kv kvs
  | .dks p kvs => o = some (some (.ref p)) ∧ H0 p = none ∧ ∃ kv, H p = some (.dK kv) ∧ KvIs H kv kvs
  | .feed f S n => o = some (some (.ref f)) ∧ H0 f = none ∧ FeedAt H0 H f S n
  | .fz d => ∃ v, o = some (some v) ∧ Fz H0 v d
  | .nic ds => ∃ p vs, o = some (some (.ref p)) ∧ Nic H0 p vs ∧ IsAll H vs ds
  | .fex f S a r ns => o = some (some (.ref f)) ∧ H0 f = none ∧ H f = some (.lst [.ref S, .int a, .int r]) ∧ H0 S = some (.lst (ns.map V.int))
  | .led C p q f1 f2 d ds => o = some (some (.ref p)) ∧ H0 q = none ∧ (∃ dx v, H0 p = some (.ins C dx [(f1, v), (f2, .ref q)]) ∧ Is H v d) ∧ ∃ vs, H q = some (.lst vs) ∧ IsAll H vs ds
structure Kn (H0 : Hp) (Γ : List Sv) (σ : L2.St) (H : Hp) : Prop where
  len : σ.length = Γ.length
  base : Same H0 H
  slots : ∀ (i : Nat) (s : Sv), Γ[i]? = some s → SvOk H0 H σ[i]? s
  apart : ∀ (i j : Nat) (si sj : Sv) (p : Addr), Γ[i]? = some si → Γ[j]? = some sj → si.ptr = some p → sj.ptr = some p → i = j
/-- the addresses of one's own -/
def ptrs (Γ : List Sv) : List Addr := Γ.filterMap Sv.ptr
theorem mem_ptrs {Γ : List Sv} {p : Addr} : p ∈ ptrs Γ ↔ ∃ (i : Nat) (s : Sv), Γ[i]? = some s ∧ s.ptr = some p := by
  unfold ptrs
  rw [List.mem_filterMap]
  constructor
  · rintro ⟨s, hs, e⟩
    obtain ⟨i, hi⟩ := List.getElem?_of_mem hs
    exact ⟨i, s, hi, e⟩
  · rintro ⟨i, s, hi, e⟩
    exact ⟨s, List.mem_of_getElem? hi, e⟩
section
variable {H0 H0' H H' : Hp} {Γ : List Sv} {σ : L2.St} {o : Option (Option V)} {s : Sv}
/-- what stands at an own address is no tuple, and the base does not know it -/
theorem SvOk.own_at {p : Addr} (h : SvOk H0 H o s) (e : s.ptr = some p) : H0 p = none ∧ ∃ u, H p = some u ∧ ∀ xs, u ≠ .tup xs := by
  cases s with
  | own q ds =>
    cases e
    obtain ⟨_, h0, vs, h1, _⟩ := h
    exact ⟨h0, _, h1, fun _ z => nomatch z⟩
  | dic q kvs =>
    cases e
    obtain ⟨_, h0, vs, h1, _⟩ := h
    exact ⟨h0, _, h1, fun _ z => nomatch z⟩
  | dks q kvs =>
    cases e
    obtain ⟨_, h0, vs, h1, _⟩ := h
    exact ⟨h0, _, h1, fun _ z => nomatch z⟩
  | feed q S n =>
    cases e
    obtain ⟨_, h0, a, r, ns, h1, _⟩ := h
    exact ⟨h0, _, h1, fun _ z => nomatch z⟩
  | led C p q f1 f2 d ds =>
    cases e
    obtain ⟨_, h0, _, vs, h1, _⟩ := h
    exact ⟨h0, _, h1, fun _ z => nomatch z⟩
  | fex q S a r ns =>
    cases e
    obtain ⟨_, h0, h1, _⟩ := h
    exact ⟨h0, _, h1, fun _ z => nomatch z⟩
  | fz d => cases e
  | nic ds => cases e
  | no => cases e
  | val v => cases e
  | dat d => cases e
  | shr ds => cases e
theorem SvOk.own_frz {p : Addr} {o1 : Obj} {u1 : HO} (h : SvOk H0 H o s) (e : s.ptr = some p) (z : H p = some (.frz o1 u1)) : False := by
  cases s with
  | own q ds =>
    cases e
    obtain ⟨_, h0, vs, h1, _⟩ := h
    rw [h1] at z
    cases z
  | dic q kvs =>
    cases e
    obtain ⟨_, h0, vs, h1, _⟩ := h
    rw [h1] at z
    cases z
  | dks q kvs =>
    cases e
    obtain ⟨_, h0, vs, h1, _⟩ := h
    rw [h1] at z
    cases z
  | feed q S n =>
    cases e
    obtain ⟨_, h0, a, r, ns, h1, _⟩ := h
    rw [h1] at z
    cases z
  | led C p q f1 f2 d ds =>
    cases e
    obtain ⟨_, h0, _, vs, h1, _⟩ := h
    rw [h1] at z
    cases z
  | fex q S a r ns =>
    cases e
    obtain ⟨_, h0, h1, _⟩ := h
    rw [h1] at z
    cases z
  | _ => cases e
theorem Kn.own_at (S : Kn H0 Γ σ H) {p : Addr} (h : p ∈ ptrs Γ) : H0 p = none ∧ ∃ u, H p = some u ∧ ∀ xs, u ≠ .tup xs := by
  obtain ⟨i, s, hi, e⟩ := mem_ptrs.mp h
  exact (S.slots i s hi).own_at e
theorem Kn.not_own (S : Kn H0 Γ σ H) {p : Addr} (h : H p = none) : p ∉ ptrs Γ := fun z => by
  obtain ⟨_, u, e, _⟩ := S.own_at z
  rw [h] at e
  cases e
theorem Kn.not_own0 (S : Kn H0 Γ σ H) {p : Addr} {u : HO} (h : H0 p = some u) : p ∉ ptrs Γ := fun z => by
  obtain ⟨e, _⟩ := S.own_at z
  rw [h] at e
  cases e
theorem Kn.not_own_frz (S : Kn H0 Γ σ H) {p : Addr} {o1 : Obj} {u1 : HO} (h : H p = some (.frz o1 u1)) : p ∉ ptrs Γ := fun z => by
  obtain ⟨i, s, hi, e⟩ := mem_ptrs.mp z
  exact (S.slots i s hi).own_frz e h
/-- a slot's word where the heap grows and its own address is kept -/
theorem SvOk.grow (h : SvOk H0 H o s) (t : Tk H H') (k : ∀ p, s.ptr = some p → H' p = H p) : SvOk H0 H' o s := by
  cases s with
  | no => trivial
  | val v => exact h
  | dat d =>
    obtain ⟨v, e, i⟩ := h
    exact ⟨v, e, Is.tk t _ _ i⟩
  | shr ds =>
    obtain ⟨p, vs, e, h0, i⟩ := h
    exact ⟨p, vs, e, h0, IsAll.tk t _ _ i⟩
  | own p ds =>
    obtain ⟨e, h0, vs, h1, i⟩ := h
    exact ⟨e, h0, vs, by rw [k p rfl]; exact h1, IsAll.tk t _ _ i⟩
  | dic p kvs =>
    obtain ⟨e, h0, vs, h1, i⟩ := h
    exact ⟨e, h0, vs, by rw [k p rfl]; exact h1, KvIs.tk t i⟩
  | dks p kvs =>
    obtain ⟨e, h0, vs, h1, i⟩ := h
    exact ⟨e, h0, vs, by rw [k p rfl]; exact h1, KvIs.tk t i⟩
  | feed f S n =>
    obtain ⟨e, h0, a, r, ns, h1, h2⟩ := h
    exact ⟨e, h0, a, r, ns, by rw [k f rfl]; exact h1, h2⟩
  | fz d => exact h
  | nic ds =>
    obtain ⟨p, vs, e, h0, i⟩ := h
    exact ⟨p, vs, e, h0, IsAll.tk t _ _ i⟩
  | fex f S a r ns =>
    obtain ⟨e, h0, h1, h2⟩ := h
    exact ⟨e, h0, by rw [k f rfl]; exact h1, h2⟩
  | led C p q f1 f2 d ds =>
    obtain ⟨e, h0, ⟨dx, v, hp, hv⟩, vs, h1, i⟩ := h
    exact ⟨e, h0, ⟨dx, v, hp, Is.tk t _ _ hv⟩, vs, by rw [k q rfl]; exact h1, IsAll.tk t _ _ i⟩
/-- everything tracked is kept -/
theorem Kn.same (S : Kn H0 Γ σ H) (e : Same H H') : Kn H0 Γ σ H' where
  len := S.len
  base := S.base.trans e
  slots := fun i s hi => (S.slots i s hi).grow (Same.tk e) fun p hp => by
    obtain ⟨_, u, hu, _⟩ := (S.slots i s hi).own_at hp
    rw [hu, e p u hu]
  apart := S.apart
/-- the base with all that is not one's own -/
def reb (Γ : List Sv) (H : Hp) : Hp := fun b => if b ∈ ptrs Γ then none else H b
theorem reb_out {p : Addr} (h : p ∉ ptrs Γ) : reb Γ H p = H p := if_neg h
theorem reb_in {p : Addr} (h : p ∈ ptrs Γ) : reb Γ H p = none := if_pos h
theorem reb_some {p : Addr} {u : HO} (h : reb Γ H p = some u) : H p = some u := by
  unfold reb at h
  split at h
  · cases h
  · exact h
theorem SvOk.rebase (h : SvOk H0 H o s) (b : Same H0 H0') (w : ∀ p, s.ptr = some p → H0' p = none) : SvOk H0' H o s := by
  cases s with
  | no => trivial
  | val v => exact h
  | dat d => exact h
  | shr ds =>
    obtain ⟨p, vs, e, h0, i⟩ := h
    exact ⟨p, vs, e, b _ _ h0, i⟩
  | own p ds =>
    obtain ⟨e, h0, r⟩ := h
    exact ⟨e, w p rfl, r⟩
  | dic p kvs =>
    obtain ⟨e, h0, r⟩ := h
    exact ⟨e, w p rfl, r⟩
  | dks p kvs =>
    obtain ⟨e, h0, r⟩ := h
    exact ⟨e, w p rfl, r⟩
  | feed f S n =>
    obtain ⟨e, h0, a, r, ns, h1, h2, h3⟩ := h
    exact ⟨e, w f rfl, a, r, ns, h1, b _ _ h2, h3⟩
  | fz d =>
    obtain ⟨v, e, i⟩ := h
    exact ⟨v, e, Fz.on b _ _ i⟩
  | nic ds =>
    obtain ⟨p, vs, e, h0, i⟩ := h
    exact ⟨p, vs, e, h0.on b, i⟩
  | fex f S a r ns =>
    obtain ⟨e, h0, h1, h2⟩ := h
    exact ⟨e, w f rfl, h1, b _ _ h2⟩
  | led C p q f1 f2 d ds =>
    obtain ⟨e, h0, ⟨dx, v, hp, hv⟩, r⟩ := h
    exact ⟨e, w q rfl, ⟨dx, v, b _ _ hp, hv⟩, r⟩
theorem Kn.rebase (S : Kn H0 Γ σ H) : Kn (reb Γ H) Γ σ H where
  len := S.len
  base := fun a u e => reb_some e
  slots := fun i s hi => (S.slots i s hi).rebase (fun a u e => by rw [reb_out (S.not_own0 e)]; exact S.base a u e) fun p hp => reb_in (mem_ptrs.mpr ⟨i, s, hi, hp⟩)
  apart := S.apart
theorem Kn.under (S : Kn H0 Γ σ H) : Same H0 (reb Γ H) := fun a u e => by
  rw [reb_out (S.not_own0 e)]
  exact S.base a u e
/-- tuples are in the new base -/
theorem Kn.tkb (S : Kn H0 Γ σ H) : Tk H (reb Γ H) := fun a xs e => by
  rw [reb_out fun z => ?_]
  · exact e
  · obtain ⟨_, u, hu, hn⟩ := S.own_at z
    rw [e] at hu
    cases hu
    exact hn _ rfl
/-- a slot stored -/
theorem Kn.store (S : Kn H0 Γ σ H) {i : Nat} {v : V} {s : Sv} (ok : i < Γ.length → SvOk H0 H (some (some v)) s) (new : ∀ p, s.ptr = some p → p ∉ ptrs Γ) : Kn H0 (Γ.set i s) (σ.set i (some v)) H where
  len := by rw [List.length_set, List.length_set]; exact S.len
  base := S.base
  slots := fun j t hj => by
    by_cases e : i = j
    · subst e
      by_cases hl : i < Γ.length
      · rw [List.getElem?_set_self hl] at hj
        cases hj
        rw [List.getElem?_set_self (by rw [S.len]; exact hl)]
        exact ok hl
      · rw [List.getElem?_eq_none (by rw [List.length_set]; omega)] at hj
        cases hj
    · rw [List.getElem?_set_ne e] at hj
      rw [List.getElem?_set_ne e]
      exact S.slots j t hj
  apart := fun j k sj sk p hj hk pj pk => by
    have inn : ∀ (m : Nat) (t : Sv), (Γ.set i s)[m]? = some t → t.ptr = some p → (m = i ∧ t = s) ∨ (m ≠ i ∧ Γ[m]? = some t) := fun m t hm _ => by
      by_cases e : i = m
      · subst e
        by_cases hl : i < Γ.length
        · rw [List.getElem?_set_self hl] at hm
          cases hm
          exact .inl ⟨rfl, rfl⟩
        · rw [List.getElem?_eq_none (by rw [List.length_set]; omega)] at hm
          cases hm
      · rw [List.getElem?_set_ne e] at hm
        exact .inr ⟨fun z => e z.symm, hm⟩
    rcases inn j sj hj pj with ⟨rfl, rfl⟩ | ⟨n1, h1⟩
    · rcases inn k sk hk pk with ⟨rfl, _⟩ | ⟨n2, h2⟩
      · rfl
      · exact absurd (mem_ptrs.mpr ⟨k, sk, h2, pk⟩) (new p pj)
    · rcases inn k sk hk pk with ⟨rfl, rfl⟩ | ⟨n2, h2⟩
      · exact absurd (mem_ptrs.mpr ⟨j, sj, h1, pj⟩) (new p pk)
      · exact S.apart j k sj sk p h1 h2 pj pk
/-- a slot's word forgotten, its value anything -/
theorem Kn.drop (S : Kn H0 Γ σ H) {i : Nat} {o : Option V} : Kn H0 (Γ.set i .no) (σ.set i o) H where
  len := by rw [List.length_set, List.length_set]; exact S.len
  base := S.base
  slots := fun j t hj => by
    by_cases e : i = j
    · subst e
      by_cases hl : i < Γ.length
      · rw [List.getElem?_set_self hl] at hj
        cases hj
        trivial
      · rw [List.getElem?_eq_none (by rw [List.length_set]; omega)] at hj
        cases hj
    · rw [List.getElem?_set_ne e] at hj
      rw [List.getElem?_set_ne e]
      exact S.slots j t hj
  apart := fun j k sj sk p hj hk pj pk => by
    have inn : ∀ (m : Nat) (t : Sv), (Γ.set i .no)[m]? = some t → t.ptr = some p → Γ[m]? = some t := fun m t hm ht => by
      by_cases e : i = m
      · subst e
        by_cases hl : i < Γ.length
        · rw [List.getElem?_set_self hl] at hm
          cases hm
          cases ht
        · rw [List.getElem?_eq_none (by rw [List.length_set]; omega)] at hm
          cases hm
      · rw [List.getElem?_set_ne e] at hm
        exact hm
    exact S.apart j k sj sk p (inn j sj hj pj) (inn k sk hk pk) pj pk
/-- what is one's own at p is changed to what the slot's new word tells -/
theorem Kn.change (S : Kn H0 Γ σ H) {i : Nat} {p : Addr} {s s' : Sv} {o : HO} (h : Γ[i]? = some s) (hp : s.ptr = some p) (hp' : s'.ptr = some p) (ok : SvOk H0 (upd H p o) σ[i]? s') : Kn H0 (Γ.set i s') σ (upd H p o) where
  len := by rw [List.length_set]; exact S.len
  base := Same.mut S.base ((S.slots i s h).own_at hp).1
  slots := fun j t hj => by
    have hl : i < Γ.length := (List.getElem?_eq_some_iff.mp h).1
    by_cases e : i = j
    · subst e
      rw [List.getElem?_set_self hl] at hj
      cases hj
      exact ok
    · rw [List.getElem?_set_ne e] at hj
      refine (S.slots j t hj).grow (fun a xs q => ?_) fun q hq => ?_
      · rw [upd_ne fun z => ?_]
        · exact q
        · obtain ⟨_, u, hu, hn⟩ := (S.slots i s h).own_at hp
          rw [← z, q] at hu
          cases hu
          exact hn _ rfl
      · exact upd_ne fun z => e (S.apart i j s t p h hj hp (by rw [hq, z]))
  apart := fun j k sj sk q hj hk pj pk => by
    have inn : ∀ (m : Nat) (t : Sv), (Γ.set i s')[m]? = some t → t.ptr = some q → ∃ t', Γ[m]? = some t' ∧ t'.ptr = some q := fun m t hm ht => by
      have hl : i < Γ.length := (List.getElem?_eq_some_iff.mp h).1
      by_cases e : i = m
      · subst e
        rw [List.getElem?_set_self hl] at hm
        cases hm
        rw [hp'] at ht
        cases ht
        exact ⟨s, h, hp⟩
      · rw [List.getElem?_set_ne e] at hm
        exact ⟨t, hm, ht⟩
    obtain ⟨t1, h1, q1⟩ := inn j sj hj pj
    obtain ⟨t2, h2, q2⟩ := inn k sk hk pk
    exact S.apart j k t1 t2 q h1 h2 q1 q2
/-- what a slot leans on in the base -/
def Sv.key : Sv → Option Sv
  | .shr ds => some (.shr ds)
  | .feed f S _ => some (.feed f S 0)
  | .fz d => some (.fz d)
  | .nic ds => some (.nic ds)
  | .fex f S _ _ ns => some (.fex f S 0 0 ns)
  | .led C p q f1 f2 d _ => some (.led C p q f1 f2 d [])
  | _ => none
/-- it does not lean on what stands at D -/
def Off (H0 : Hp) (D : Addr) (o : Option (Option V)) : Sv → Prop
  | .shr _ => ∀ p, o = some (some (.ref p)) → p ≠ D
  | .feed _ T _ => T ≠ D
  | .fz d => ∃ v, o = some (some v) ∧ Fz (fun b => if b = D then none else H0 b) v d
  | .nic _ => ∀ p, o = some (some (.ref p)) → p ≠ D
  | .fex _ T _ _ _ => T ≠ D
  | .led _ p _ _ _ _ _ => p ≠ D
  | _ => True
/-- so it is where a smaller base without D is known -/
theorem Off.of {H00 H0 H1 : Hp} {D : Addr} {o : Option (Option V)} {s s0 : Sv} (h : SvOk H00 H1 o s0) (hD : H00 D = none) (b : Same H00 H0) (k : s0.key = s.key) : Off H0 D o s := by
  cases s with
  | shr ds =>
    cases s0 <;> cases k
    obtain ⟨p0, vs0, q0, q1, _⟩ := h
    intro p e z
    rw [e] at q0
    cases q0
    rw [z, hD] at q1
    cases q1
  | feed f T n =>
    cases s0 <;> cases k
    obtain ⟨_, _, a, r, ns, _, q1, _⟩ := h
    intro z
    rw [z, hD] at q1
    cases q1
  | fz d =>
    cases s0 <;> cases k
    obtain ⟨v, e, i⟩ := h
    refine ⟨v, e, Fz.on (fun a u z => ?_) _ _ i⟩
    rw [if_neg fun y => by rw [y, hD] at z; cases z]
    exact b a u z
  | nic ds =>
    cases s0 <;> cases k
    obtain ⟨p0, vs0, q0, ⟨o1, q1, _⟩, _⟩ := h
    intro p e z
    rw [e] at q0
    cases q0
    rw [z, hD] at q1
    cases q1
  | fex f T a r ns =>
    cases s0 <;> cases k
    obtain ⟨_, _, _, q1⟩ := h
    intro z
    rw [z, hD] at q1
    cases q1
  | led C p q f1 f2 d ds =>
    cases s0 <;> cases k
    obtain ⟨_, _, ⟨dx, v, q1, _⟩, _⟩ := h
    intro z
    rw [z, hD] at q1
    cases q1
  | _ => trivial
/-- a list D of the base that no slot leans on is written: it leaves the base -/
theorem Kn.unbase (S : Kn H0 Γ σ H) {D : Addr} {ys zs : List V} (hD : H0 D = some (.lst zs)) (hoff : ∀ (i : Nat) (s : Sv), Γ[i]? = some s → Off H0 D σ[i]? s) :
    Kn (fun b => if b = D then none else H0 b) Γ σ (upd H D (.lst ys)) where
  len := S.len
  base := fun a u e => by
    have e1 : (if a = D then none else H0 a) = some u := e
    by_cases h : a = D
    · rw [if_pos h] at e1; cases e1
    · rw [if_neg h] at e1
      rw [upd_ne h]
      exact S.base a u e1
  slots := fun i s hi => by
    have ok := S.slots i s hi
    have hne : ∀ p, s.ptr = some p → p ≠ D := fun p hp z => by
      obtain ⟨e, _⟩ := ok.own_at hp
      rw [z, hD] at e
      cases e
    have tk : Tk H (upd H D (.lst ys)) := fun a xs e => by
      rw [upd_ne fun z => ?_]
      · exact e
      · rw [z, S.base D _ hD] at e
        cases e
    have g := ok.grow (H' := upd H D (.lst ys)) tk fun p hp => upd_ne (hne p hp)
    have z0 : ∀ {p : Addr}, p ≠ D → (if p = D then none else H0 p) = H0 p := fun h => if_neg h
    cases s with
    | no => trivial
    | val v => exact g
    | dat d => exact g
    | shr ds =>
      obtain ⟨p, vs, e, h0, r⟩ := g
      exact ⟨p, vs, e, (z0 (hoff i _ hi p e)).trans h0, r⟩
    | own p ds =>
      obtain ⟨e, h0, r⟩ := g
      exact ⟨e, (z0 (hne p rfl)).trans h0, r⟩
    | dic p ds =>
      obtain ⟨e, h0, r⟩ := g
      exact ⟨e, (z0 (hne p rfl)).trans h0, r⟩
    | dks p ds =>
      obtain ⟨e, h0, r⟩ := g
      exact ⟨e, (z0 (hne p rfl)).trans h0, r⟩
    | feed f T n =>
      obtain ⟨e, h0, a, r, ns, k1, k2, k3⟩ := g
      exact ⟨e, (z0 (hne f rfl)).trans h0, a, r, ns, k1, (z0 (hoff i _ hi)).trans k2, k3⟩
    | fz d => exact hoff i _ hi
    | nic ds =>
      obtain ⟨p, vs, e, ⟨o1, h1, h2⟩, r⟩ := g
      exact ⟨p, vs, e, ⟨o1, (z0 (hoff i _ hi p e)).trans h1, h2⟩, r⟩
    | fex f T a r ns =>
      obtain ⟨e, h0, h1, h2⟩ := g
      exact ⟨e, (z0 (hne f rfl)).trans h0, h1, (z0 (hoff i _ hi)).trans h2⟩
    | led C p q f1 f2 d ds =>
      obtain ⟨e, h0, ⟨dx, v, h1, h2⟩, r⟩ := g
      exact ⟨e, (z0 (hne q rfl)).trans h0, ⟨dx, v, (z0 (hoff i _ hi)).trans h1, h2⟩, r⟩
  apart := S.apart
end
end K83
set_option maxRecDepth 100000
set_option maxHeartbeats 4000000
namespace K83
open PySem PySem.Spec PyProof.Rows L2

/-! ## what holds of a run by itself -/
def WE (X : Cx) (e : Expr) : TE := fun σ H Q => ∀ (pins : List (Addr × Obj)) (s : Shared), Inv X pins σ H s → wpAny (model X.prog X.w) X.A (eval e X.env) (EP X pins σ Q) X.xe s
def WT0 (X : Cx) (e : Expr) : TT := fun σ H Q => ∀ (pins : List (Addr × Obj)) (s : Shared), Inv X pins σ H s → wpAny (model X.prog X.w) X.A (isTrue e X.env (eval e X.env)) (TP X pins σ Q) X.xe s
def WW0 (X : Cx) (e : Expr) : TT := fun σ H Q => ∀ (whole : Sem Value) (pins : List (Addr × Obj)) (s : Shared), Inv X pins σ H s → wpAny (model X.prog X.w) X.A (isTrue e X.env whole) (TP X pins σ Q) X.xe s
def WA0 (X : Cx) (es : List Expr) : TA := fun σ H Q => ∀ (pos : Pos) (pins : List (Addr × Obj)) (s : Shared), Inv X pins σ H s → wpAny (model X.prog X.w) X.A (spliced (backTo pos (starEach es X.env))) (AP X pins σ Q) X.xe s
def WS (X : Cx) (st : Stmt) : TS := fun D σ H => ∀ (pins : List (Addr × Obj)) (s : Shared), Inv X pins σ H s → wpAny (model X.prog X.w) X.A (exec st X.env) (SP X pins D) X.xe s
def WSs (X : Cx) (st : List Stmt) : TS := fun D σ H => ∀ (pins : List (Addr × Obj)) (s : Shared), Inv X pins σ H s → wpAny (model X.prog X.w) X.A (execs st X.env) (SP X pins D) X.xe s
section
variable {X : Cx} {e : Expr} {es : List Expr} {st : Stmt} {sts : List Stmt}
theorem pe_we : PE X e (WE X e) := ⟨fun pins s σ H Q I h => h pins s I⟩
theorem pt_wt : PT X e (WT0 X e) := ⟨fun pins s σ H Q I h => h pins s I⟩
theorem pw_ww : PW X e (WW0 X e) := ⟨fun whole pins s σ H Q I h => h whole pins s I⟩
theorem pa_wa : PA X es (WA0 X es) := ⟨fun pos pins s σ H Q I h => h pos pins s I⟩
theorem ps_ws : PS X st (WS X st) := ⟨fun pins s σ H D I h => h pins s I⟩
theorem pss_ws : PSs X sts (WSs X sts) := ⟨fun pins s σ H D I h => h pins s I⟩
theorem _root_.L2.PE.we {t : TE} (p : PE X e t) {σ : L2.St} {H : Hp} {Q : VK} (h : t σ H Q) : WE X e σ H Q := fun pins s I => p.run pins s σ H Q I h
theorem _root_.L2.PT.wt {t : TT} (p : PT X e t) {σ : L2.St} {H : Hp} {Q : Bool → Hp → Prop} (h : t σ H Q) : WT0 X e σ H Q := fun pins s I => p.run pins s σ H Q I h
theorem _root_.L2.PW.ww {t : TT} (p : PW X e t) {σ : L2.St} {H : Hp} {Q : Bool → Hp → Prop} (h : t σ H Q) : WW0 X e σ H Q := fun whole pins s I => p.run whole pins s σ H Q I h
theorem _root_.L2.PA.wa {t : TA} (p : PA X es t) {σ : L2.St} {H : Hp} {Q : List V → Hp → Prop} (h : t σ H Q) : WA0 X es σ H Q := fun pos pins s I => p.run pos pins s σ H Q I h
theorem _root_.L2.PS.ws {t : TS} (p : PS X st t) {σ : L2.St} {H : Hp} {D : Ends} (h : t D σ H) : WS X st D σ H := fun pins s I => p.run pins s σ H D I h
theorem _root_.L2.PSs.wss {t : TS} (p : PSs X sts t) {σ : L2.St} {H : Hp} {D : Ends} (h : t D σ H) : WSs X sts D σ H := fun pins s I => p.run pins s σ H D I h
theorem WE.imp {σ : L2.St} {H : Hp} {Q Q' : VK} (h : WE X e σ H Q) (k : ∀ v H', Q v H' → Q' v H') : WE X e σ H Q' := fun pins s I =>
  thn (h pins s I) fun u s' ⟨v, H', I', r, q⟩ => ⟨v, H', I', r, k v H' q⟩
theorem WT0.imp {σ : L2.St} {H : Hp} {Q Q' : Bool → Hp → Prop} (h : WT0 X e σ H Q) (k : ∀ v H', Q v H' → Q' v H') : WT0 X e σ H Q' := fun pins s I =>
  thn (h pins s I) fun u s' ⟨H', I', q⟩ => ⟨H', I', k _ H' q⟩
theorem WA0.imp {σ : L2.St} {H : Hp} {Q Q' : List V → Hp → Prop} (h : WA0 X es σ H Q) (k : ∀ v H', Q v H' → Q' v H') : WA0 X es σ H Q' := fun pos pins s I =>
  thn (h pos pins s I) fun u s' ⟨v, H', I', r, q⟩ => ⟨v, H', I', r, k v H' q⟩
end

/-! ## where one stands -/
structure Gv where
  P : Program
  w : World
  K : PySem.W.Frag
  mg : Str → Option Value
  base : Heap
structure Ct where
  g : Gv
  N : List Str
  sc : Scope
  k : Nat
  top : Bool
  gd : Bool
structure InC (c : Ct) (X : Cx) : Prop where
  P : X.prog = c.g.P
  w : X.w = c.g.w
  K : X.K = c.g.K
  mg : X.mg = c.g.mg
  base : X.base = c.g.base
  N : X.N = c.N
  nd : c.N.Nodup
  sc : X.env.scope = c.sc
  calm : X.calm = true
  room : Room c.k X.A
  fn : c.top = true → ∀ x, X.fn x = true
  gd : c.gd = true → X.A.guards = some []
  xe : X.xe = fun _ _ => False
section
variable {c : Ct} {X : Cx}
theorem InC.vis (h : InC c X) {x : Str} (v : Vis c.sc x) : Vis X.env.scope x := by rw [h.sc]; exact v
theorem InC.gl (h : InC c X) {x : Str} (v : c.sc.names.lookup x = some .globalImplicit) : Gl X x := by
  show X.env.scope.names.lookup x = _
  rw [h.sc]
  exact v
theorem InC.at_ (h : InC c X) {i : Nat} {x : Str} (e : c.N[i]? = some x) : X.N[i]? = some x := by rw [h.N]; exact e
theorem InC.ndX (h : InC c X) : X.N.Nodup := by rw [h.N]; exact h.nd
theorem InC.hu (h : InC c X) : X.A.units + 65 < cLine := by have := h.room.un; omega
theorem InC.pass (h : InC c X) : PassesOwn (model X.prog X.w) X.A X.env X.xe := by rw [h.xe]; exact PassesOwn.never
end

/-! ## results -/
inductive Ar where
  | dat (d : PyData)
  | raw (v : V)
  /-- a new list; a list that nobody here changes -/
  | new (ds : List PyData)
  | lst (ds : List PyData)
  /-- data with lists that nobody here changes -/
  | fz (d : PyData)
  /-- a tuple whose very object is known -/
  | nic (ds : List PyData)
def Ar.weak : Ar → Ar
  | .new ds => .lst ds
  | r => r
def ArOk (H0 H : Hp) (Γ : List Sv) (v : V) : Ar → Prop
  | .dat d => Is H v d
  | .raw u => v = u
  | .new ds => ∃ p vs, v = .ref p ∧ H0 p = none ∧ p ∉ ptrs Γ ∧ H p = some (.lst vs) ∧ IsAll H vs ds
  | .lst ds => ∃ p vs, v = .ref p ∧ p ∉ ptrs Γ ∧ H p = some (.lst vs) ∧ IsAll H vs ds
  | .fz d => Fz (reb Γ H) v d
  | .nic ds => ∃ p vs, v = .ref p ∧ p ∉ ptrs Γ ∧ Nic H p vs ∧ IsAll H vs ds
def ArAll (H0 H : Hp) (Γ : List Sv) : List V → List Ar → Prop := Paired fun v r => ArOk H0 H Γ v r
theorem ArOk.weaken {H0 H : Hp} {Γ : List Sv} {v : V} {r : Ar} (h : ArOk H0 H Γ v r) : ArOk H0 H Γ v r.weak := by
  cases r with
  | new ds =>
    obtain ⟨p, vs, e, _, r⟩ := h
    exact ⟨p, vs, e, r⟩
  | _ => exact h
/-- a result stays while more is reckoned over the base that holds it -/
theorem ArOk.carry {H0 H0' H1 H2 : Hp} {Γ1 Γ2 : List Sv} {σ σ' : L2.St} {v : V} {r : Ar} (S : Kn H0 Γ1 σ H1) (h : ArOk H0 H1 Γ1 v r) (b : Same (reb Γ1 H1) H0') (S2 : Kn H0' Γ2 σ' H2) : ArOk H0' H2 Γ2 v r.weak := by
  have t : Tk H1 H2 := fun a xs e => S2.base a _ (b a _ (S.tkb a xs e))
  have lst : ∀ (p : Addr) (vs : List V) (ds : List PyData), v = .ref p → p ∉ ptrs Γ1 → H1 p = some (.lst vs) → IsAll H1 vs ds → ArOk H0' H2 Γ2 v (.lst ds) := fun p vs ds e n h i => by
    have e0 : H0' p = some (.lst vs) := b p _ (by rw [reb_out n]; exact h)
    exact ⟨p, vs, e, S2.not_own0 e0, S2.base p _ e0, IsAll.tk t _ _ i⟩
  cases r with
  | dat d => exact Is.tk t _ _ h
  | raw u => exact h
  | new ds =>
    obtain ⟨p, vs, e, _, n, h1, i⟩ := h
    exact lst p vs ds e n h1 i
  | lst ds =>
    obtain ⟨p, vs, e, n, h1, i⟩ := h
    exact lst p vs ds e n h1 i
  | fz d => exact Fz.on (b.trans S2.under) _ _ h
  | nic ds =>
    obtain ⟨p, vs, e, n, ⟨o1, h1, h2⟩, i⟩ := h
    have e0 : H0' p = some (.frz o1 (.tup vs)) := b p _ (by rw [reb_out n]; exact h1)
    exact ⟨p, vs, e, S2.not_own0 e0, ⟨o1, S2.base p _ e0, h2⟩, IsAll.tk t _ _ i⟩
theorem ArAll.carry {H0 H0' H1 H2 : Hp} {Γ1 Γ2 : List Sv} {σ σ' : L2.St} (S : Kn H0 Γ1 σ H1) (b : Same (reb Γ1 H1) H0') (S2 : Kn H0' Γ2 σ' H2) : ∀ {vs : List V} {rs : List Ar}, ArAll H0 H1 Γ1 vs rs → ArAll H0' H2 Γ2 vs (rs.map Ar.weak)
  | _, _, .nil => .nil
  | _, _, .cons h t => .cons (h.carry S b S2) (ArAll.carry S b S2 t)
/-- the list of one's own that a slot holds -/
def Sv.lst? : Sv → Option (Addr × List PyData)
  | .own p ds => some (p, ds)
  | .led _ _ q _ _ _ ds => some (q, ds)
  | _ => none
theorem lst_at {Γ : List Sv} {j : Nat} {p : Addr} {ds : List PyData} (h : (Γ[j]?).bind Sv.lst? = some (p, ds)) : ∃ s, Γ[j]? = some s ∧ s.ptr = some p ∧ ∀ H0 H o, SvOk H0 H o s → ∃ vs, H p = some (.lst vs) ∧ IsAll H vs ds := by
  cases e : Γ[j]? with
  | none => rw [e] at h; cases h
  | some s =>
    rw [e] at h
    refine ⟨s, rfl, ?_⟩
    cases s <;> cases h
    · exact ⟨rfl, fun H0 H o ⟨_, _, vs, h1, i⟩ => ⟨vs, h1, i⟩⟩
    · exact ⟨rfl, fun H0 H o ⟨_, _, _, vs, h1, i⟩ => ⟨vs, h1, i⟩⟩
/-- a list that can be read now -/
def RdL (Γ : List Sv) (r : Ar) (ds : List PyData) : Prop := r = .new ds ∨ r = .lst ds ∨ ∃ (p : Addr) (j : Nat), r = .raw (.ref p) ∧ (Γ[j]?).bind Sv.lst? = some (p, ds)
theorem RdL.get {H0 H : Hp} {Γ : List Sv} {σ : L2.St} {v : V} {r : Ar} {ds : List PyData} (S : Kn H0 Γ σ H) (h : ArOk H0 H Γ v r) (q : RdL Γ r ds) : ∃ p vs, v = .ref p ∧ H p = some (.lst vs) ∧ IsAll H vs ds := by
  rcases q with rfl | rfl | ⟨p, j, rfl, e⟩
  · obtain ⟨p, vs, e, _, _, h1, i⟩ := h
    exact ⟨p, vs, e, h1, i⟩
  · obtain ⟨p, vs, e, _, h1, i⟩ := h
    exact ⟨p, vs, e, h1, i⟩
  · obtain ⟨s, e1, _, k⟩ := lst_at e
    obtain ⟨vs, h1, i⟩ := k _ _ _ (S.slots j s e1)
    exact ⟨p, vs, h, h1, i⟩

/-! ## judgements over data -/
def W (c : Ct) (Γ : List Sv) (e : Expr) (Φ : Ar → List Sv → Prop) : Prop :=
  ∀ X, InC c X → ∀ H0 σ H, Kn H0 Γ σ H → ∀ Q : VK, (∀ H0' r Γ' v H', Same H0 H0' → Φ r Γ' → Kn H0' Γ' σ H' → ArOk H0' H' Γ' v r → Q v H') → WE X e σ H Q
def WT (c : Ct) (Γ : List Sv) (e : Expr) (Φ : Bool → List Sv → Prop) : Prop :=
  ∀ X, InC c X → ∀ H0 σ H, Kn H0 Γ σ H → ∀ Q : Bool → Hp → Prop, (∀ H0' b Γ' H', Same H0 H0' → Φ b Γ' → Kn H0' Γ' σ H' → Q b H') → WT0 X e σ H Q
def WW (c : Ct) (Γ : List Sv) (e : Expr) (Φ : Bool → List Sv → Prop) : Prop :=
  ∀ X, InC c X → ∀ H0 σ H, Kn H0 Γ σ H → ∀ Q : Bool → Hp → Prop, (∀ H0' b Γ' H', Same H0 H0' → Φ b Γ' → Kn H0' Γ' σ H' → Q b H') → WW0 X e σ H Q
def WA (c : Ct) (Γ : List Sv) (es : List Expr) (Φ : List Ar → List Sv → Prop) : Prop :=
  ∀ X, InC c X → ∀ H0 σ H, Kn H0 Γ σ H → ∀ Q : List V → Hp → Prop, (∀ H0' rs Γ' vs H', Same H0 H0' → Φ rs Γ' → Kn H0' Γ' σ H' → ArAll H0' H' Γ' vs rs → Q vs H') → WA0 X es σ H Q
section
variable {c : Ct} {Γ : List Sv} {a b e : Expr} {es : List Expr} {pos : Pos} {Φ Φ' : Ar → List Sv → Prop} {ΦT ΦT' : Bool → List Sv → Prop}
theorem W.imp (h : W c Γ e Φ) (k : ∀ r Γ', Φ r Γ' → Φ' r Γ') : W c Γ e Φ' := fun X hX H0 σ H S Q q =>
  h X hX H0 σ H S Q fun H0' r Γ' v H' b p => q H0' r Γ' v H' b (k r Γ' p)
theorem WT.imp (h : WT c Γ e ΦT) (k : ∀ r Γ', ΦT r Γ' → ΦT' r Γ') : WT c Γ e ΦT' := fun X hX H0 σ H S Q q =>
  h X hX H0 σ H S Q fun H0' r Γ' H' b p => q H0' r Γ' H' b (k r Γ' p)
/-- one after the other -/
theorem seq2 {X : Cx} (hX : InC c X) {H0 : Hp} {σ : L2.St} {H : Hp} (S : Kn H0 Γ σ H) {Ψ : Ar → Ar → List Sv → Prop} {R : V → V → Hp → Prop} (h : W c Γ a fun r1 Γ1 => W c Γ1 b fun r2 Γ2 => Ψ r1 r2 Γ2)
    (fin : ∀ H0' r1 r2 Γ2 v1 v2 H2, Same H0 H0' → Ψ r1 r2 Γ2 → Kn H0' Γ2 σ H2 → ArOk H0' H2 Γ2 v1 r1.weak → ArOk H0' H2 Γ2 v2 r2 → R v1 v2 H2) : WE X a σ H fun v1 H1 => WE X b σ H1 fun v2 H2 => R v1 v2 H2 :=
  h X hX H0 σ H S _ fun H0' r1 Γ1 v1 H1 b1 p1 S1 o1 => p1 X hX _ σ H1 S1.rebase _ fun H0'' r2 Γ2 v2 H2 b2 p2 S2 o2 =>
    fin H0'' r1 r2 Γ2 v1 v2 H2 ((b1.trans S1.under).trans b2) p2 S2 (o1.carry S1 b2 S2) o2
theorem seqA {X : Cx} (hX : InC c X) {H0 : Hp} {σ : L2.St} {H : Hp} (S : Kn H0 Γ σ H) {Ψ : Ar → List Ar → List Sv → Prop} {R : V → List V → Hp → Prop} (h : W c Γ a fun r1 Γ1 => WA c Γ1 es fun r2 Γ2 => Ψ r1 r2 Γ2)
    (fin : ∀ H0' r1 rs Γ2 v1 vs H2, Same H0 H0' → Ψ r1 rs Γ2 → Kn H0' Γ2 σ H2 → ArOk H0' H2 Γ2 v1 r1.weak → ArAll H0' H2 Γ2 vs rs → R v1 vs H2) : WE X a σ H fun v1 H1 => WA0 X es σ H1 fun vs H2 => R v1 vs H2 :=
  h X hX H0 σ H S _ fun H0' r1 Γ1 v1 H1 b1 p1 S1 o1 => p1 X hX _ σ H1 S1.rebase _ fun H0'' r2 Γ2 v2 H2 b2 p2 S2 o2 =>
    fin H0'' r1 r2 Γ2 v1 v2 H2 ((b1.trans S1.under).trans b2) p2 S2 (o1.carry S1 b2 S2) o2

/-! ### names and constants -/
def Sv.res : Sv → Option Ar
  | .no => none
  | .val v => some (.raw v)
  | .dat d => some (.dat d)
  | .shr ds => some (.lst ds)
  | .own p _ => some (.raw (.ref p))
  | .dic p _ => some (.raw (.ref p))
  | .dks p _ => some (.raw (.ref p))
  | .feed p _ _ => some (.raw (.ref p))
  | .fz d => some (.fz d)
  | .nic ds => some (.nic ds)
  | .led _ p _ _ _ _ _ => some (.raw (.ref p))
  | .fex p _ _ _ _ => some (.raw (.ref p))
theorem Kn.name {H0 : Hp} {σ : L2.St} {H : Hp} {i : Nat} {r : Ar} (S : Kn H0 Γ σ H) (h : (Γ[i]?).bind Sv.res = some r) : ∃ v, σ[i]? = some (some v) ∧ ArOk H0 H Γ v r := by
  cases e : Γ[i]? with
  | none => rw [e] at h; cases h
  | some s =>
    rw [e] at h
    have q := S.slots i s e
    cases s with
    | no => cases h
    | val v => cases h; exact ⟨v, q, rfl⟩
    | dat d => cases h; exact q
    | shr ds =>
      cases h
      obtain ⟨p, vs, e1, e2, i2⟩ := q
      exact ⟨_, e1, p, vs, rfl, S.not_own0 e2, S.base p _ e2, i2⟩
    | own p ds => cases h; exact ⟨_, q.1, rfl⟩
    | dic p ds => cases h; exact ⟨_, q.1, rfl⟩
    | dks p ds => cases h; exact ⟨_, q.1, rfl⟩
    | feed p S n => cases h; exact ⟨_, q.1, rfl⟩
    | led C p q f1 f2 d ds => cases h; exact ⟨_, q.1, rfl⟩
    | fex p S a r ns => cases h; exact ⟨_, q.1, rfl⟩
    | fz d =>
      cases h
      obtain ⟨v, e1, i⟩ := q
      exact ⟨v, e1, Fz.on S.under _ _ i⟩
    | nic ds =>
      cases h
      obtain ⟨p, vs, e1, e2, i2⟩ := q
      obtain ⟨o1, h1, h2⟩ := id e2
      exact ⟨_, e1, p, vs, rfl, S.not_own0 h1, e2.on S.base, i2⟩
theorem w_name (i : Nat) {x : Str} {r : Ar} (hs : (Γ[i]?).bind Sv.res = some r) (h : Φ r Γ) (hN : c.N[i]? = some x := by rfl) (hv : Vis c.sc x := by first | exact Or.inl rfl | exact Or.inr (Or.inl rfl) | exact Or.inr (Or.inr rfl))
    (hd : (x == ("__debug__" : Str)) = false := by decide) (hcd : (x == ("__classdict__" : Str)) = false := by decide) : W c Γ (.Name x pos) Φ := fun X hX H0 σ H S Q q => by
  obtain ⟨v, e, o⟩ := S.name hs
  exact (pe_var (hX.at_ hN) (hX.vis hv) hd hcd).we ⟨v, e, q H0 r Γ v H (Same.refl H0) h S o⟩
theorem w_int {i : Int} {j : Nat} (h : Φ (.dat (.int i)) Γ) : W c Γ (.Constant (.int i) j pos) Φ := fun X hX H0 σ H S Q q => pe_int.we (q H0 _ Γ (.int i) H (Same.refl H0) h S (.int i))
theorem w_str {x : Str} {j : Nat} (h : Φ (.dat (.str x)) Γ) : W c Γ (.Constant (.str x) j pos) Φ := fun X hX H0 σ H S Q q => pe_str.we (q H0 _ Γ (.str x) H (Same.refl H0) h S (.str x))
theorem w_bl {x : Bool} {j : Nat} (h : Φ (.dat (.bool x)) Γ) : W c Γ (.Constant (.bool x) j pos) Φ := fun X hX H0 σ H S Q q => pe_bl.we (q H0 _ Γ (.bl x) H (Same.refl H0) h S (.bl x))
theorem w_non {j : Nat} (h : Φ (.dat .none) Γ) : W c Γ (.Constant .none j pos) Φ := fun X hX H0 σ H S Q q => pe_non.we (q H0 _ Γ .non H (Same.refl H0) h S .non)
/-- constants of the module -/
def GInt (g : Gv) (x : Str) (i : Int) : Prop := ∃ t, g.mg x = some (.int i t)
def GStr (g : Gv) (x z : Str) : Prop := ∃ t, g.mg x = some (.str z t)
def GAdr (g : Gv) (x : Str) (a : Addr) : Prop := g.mg x = some (.ref a)
def GFree (g : Gv) (x : Str) : Prop := g.mg x = none
theorem w_gint {x : Str} {i : Int} (G : GInt c.g x i) (h : Φ (.dat (.int i)) Γ) (hg : c.sc.names.lookup x = some .globalImplicit := by rfl) (hd : (x == ("__debug__" : Str)) = false := by decide) : W c Γ (.Name x pos) Φ := fun X hX H0 σ H S Q q => by
  obtain ⟨t, e⟩ := G
  exact (pe_glob (v := .int i) (hX.gl hg) (by rw [hX.mg]; exact e) ⟨t, rfl⟩ hd).we (q H0 _ Γ (.int i) H (Same.refl H0) h S (.int i))
theorem w_gstr {x z : Str} (G : GStr c.g x z) (h : Φ (.dat (.str z)) Γ) (hg : c.sc.names.lookup x = some .globalImplicit := by rfl) (hd : (x == ("__debug__" : Str)) = false := by decide) : W c Γ (.Name x pos) Φ := fun X hX H0 σ H S Q q => by
  obtain ⟨t, e⟩ := G
  exact (pe_glob (v := .str z) (hX.gl hg) (by rw [hX.mg]; exact e) ⟨t, rfl⟩ hd).we (q H0 _ Γ (.str z) H (Same.refl H0) h S (.str z))
theorem w_gadr {x : Str} {a : Addr} (G : GAdr c.g x a) (h : Φ (.raw (.ref a)) Γ) (hg : c.sc.names.lookup x = some .globalImplicit := by rfl) (hd : (x == ("__debug__" : Str)) = false := by decide) : W c Γ (.Name x pos) Φ := fun X hX H0 σ H S Q q =>
  (pe_glob (v := .ref a) (hX.gl hg) (by rw [hX.mg]; exact G) rfl hd).we (q H0 _ Γ (.ref a) H (Same.refl H0) h S rfl)

/-! ### operators -/
/-- P: of what the two are, what comes, as data -/
structure DOp (c : Ct) (f : Value → Value → Sem Value) (P : Ar → Ar → List Sv → PyData → Prop) : Prop where
  ok : ∀ X, InC c X → ∃ r : R2, OpR X f r ∧ ∀ H0 H Γ σ r1 r2 v1 v2 d, Kn H0 Γ σ H → ArOk H0 H Γ v1 r1 → ArOk H0 H Γ v2 r2 → P r1 r2 Γ d → ∀ Q : VK, (∀ v, Is H v d → Q v H) → r v1 v2 H Q
theorem w_op {op : Operator} {P : Ar → Ar → List Sv → PyData → Prop} (D : DOp c (binaryOp op) P) (h : W c Γ a fun r1 Γ1 => W c Γ1 b fun r2 Γ2 => ∃ d, P r1.weak r2 Γ2 d ∧ Φ (.dat d) Γ2) : W c Γ (.BinOp a op b pos) Φ := fun X hX H0 σ H S Q q => by
  obtain ⟨r, hr, k⟩ := D.ok X hX
  exact (pe_op hr pe_we pe_we).we (seq2 hX S h fun H0' r1 r2 Γ2 v1 v2 H2 b ⟨d, p, f⟩ S2 o1 o2 => k H0' H2 Γ2 σ _ _ v1 v2 d S2 o1 o2 p Q fun v i => q H0' _ Γ2 v H2 b f S2 i)
theorem w_cmp {op : CmpOp} {P : Ar → Ar → List Sv → PyData → Prop} (D : DOp c (compareOp op) P) (h : W c Γ a fun r1 Γ1 => W c Γ1 b fun r2 Γ2 => ∃ d, P r1.weak r2 Γ2 d ∧ Φ (.dat d) Γ2) (hm : behindInMarks op b = false := by first | rfl | exact nomark _) :
    W c Γ (.Compare a [op] [b] pos) Φ := fun X hX H0 σ H S Q q => by
  obtain ⟨r, hr, k⟩ := D.ok X hX
  exact (pe_cmpR hr pe_we pe_we hm).we (seq2 hX S h fun H0' r1 r2 Γ2 v1 v2 H2 b ⟨d, p, f⟩ S2 o1 o2 => k H0' H2 Γ2 σ _ _ v1 v2 d S2 o1 o2 p Q fun v i => q H0' _ Γ2 v H2 b f S2 i)
theorem wt_cmp {op : CmpOp} {P : Ar → Ar → List Sv → PyData → Prop} (D : DOp c (compareOp op) P) (h : W c Γ a fun r1 Γ1 => W c Γ1 b fun r2 Γ2 => ∃ k, P r1.weak r2 Γ2 (.bool k) ∧ ΦT k Γ2) (hm : behindInMarks op b = false := by first | rfl | exact nomark _) :
    WT c Γ (.Compare a [op] [b] pos) ΦT := fun X hX H0 σ H S Q q => by
  obtain ⟨r, hr, k⟩ := D.ok X hX
  exact (pt_cmpR hr pe_we pe_we hm).wt (seq2 hX S h fun H0' r1 r2 Γ2 v1 v2 H2 b ⟨d, p, f⟩ S2 o1 o2 => k H0' H2 Γ2 σ _ _ v1 v2 _ S2 o1 o2 p _ fun v i => ⟨d, i.blInv, q H0' d Γ2 H2 b f S2⟩)
end
end K83
set_option maxRecDepth 100000
set_option maxHeartbeats 4000000
namespace K83
open PySem PySem.Spec PyProof.Rows L2

/-! ## operators -/
section
variable {c : Ct} {Γ : List Sv} {a b e : Expr} {es : List Expr} {pos : Pos} {Φ : Ar → List Sv → Prop} {ΦT : Bool → List Sv → Prop}
/-- two ints -/
def PII (C : Int → Int → Prop) (g : Int → Int → PyData) : Ar → Ar → List Sv → PyData → Prop := fun r1 r2 _ d => ∃ i j, r1 = .dat (.int i) ∧ r2 = .dat (.int j) ∧ C i j ∧ d = g i j
def CT : Int → Int → Prop := fun _ _ => True
theorem dop_I {f : Value → Value → Sem Value} {C : Int → Int → Prop} {g : Int → Int → V} {g' : Int → Int → PyData} (h : ∀ X, InC c X → OpR X f (rI C g)) (hg : ∀ (H : Hp) i j, Is H (g i j) (g' i j)) : DOp c f (PII C g') :=
  ⟨fun X hX => ⟨_, h X hX, fun H0 H Γ σ r1 r2 v1 v2 d _ o1 o2 ⟨i, j, e1, e2, hc, e3⟩ Q q => by
    subst e1; subst e2; subst e3
    exact ⟨i, j, Is.intInv o1, Is.intInv o2, hc, q _ (hg H i j)⟩⟩⟩
theorem dop_I0 {f : Value → Value → Sem Value} {g : Int → Int → V} {g' : Int → Int → PyData} (h : ∀ X, InC c X → OpR X f (rI0 g)) (hg : ∀ (H : Hp) i j, Is H (g i j) (g' i j)) : DOp c f (PII CT g') :=
  ⟨fun X hX => ⟨_, h X hX, fun H0 H Γ σ r1 r2 v1 v2 d _ o1 o2 ⟨i, j, e1, e2, hc, e3⟩ Q q => by
    subst e1; subst e2; subst e3
    exact ⟨i, j, Is.intInv o1, Is.intInv o2, q _ (hg H i j)⟩⟩⟩
theorem d_add : DOp c (binaryOp .Add) (PII CT fun i j => .int (i + j)) := dop_I0 (fun _ _ => op_add) fun _ _ _ => .int _
theorem d_sub : DOp c (binaryOp .Sub) (PII CT fun i j => .int (i - j)) := dop_I0 (fun _ _ => op_sub) fun _ _ _ => .int _
theorem d_mul : DOp c (binaryOp .Mult) (PII CMul fun i j => .int (i * j)) := dop_I (fun _ _ => op_mul) fun _ _ _ => .int _
theorem d_fdiv : DOp c (binaryOp .FloorDiv) (PII CDiv fun i j => .int (i / j)) := dop_I (fun _ _ => op_fdiv) fun _ _ _ => .int _
theorem d_mod : DOp c (binaryOp .Mod) (PII (fun _ j => 0 < j) fun i j => .int (i % j)) := dop_I (fun _ _ => op_mod) fun _ _ _ => .int _
theorem d_pow : DOp c (binaryOp .Pow) (PII CPow fun i j => .int (i ^ j.toNat)) := dop_I (fun _ _ => op_pow) fun _ _ _ => .int _
theorem d_lt : DOp c (compareOp .Lt) (PII CT fun i j => .bool (decide (i < j))) := dop_I0 (fun _ _ => op_lt) fun _ _ _ => .bl _
theorem d_le : DOp c (compareOp .LtE) (PII CT fun i j => .bool (decide (i ≤ j))) := dop_I0 (fun _ _ => op_le) fun _ _ _ => .bl _
theorem d_gt : DOp c (compareOp .Gt) (PII CT fun i j => .bool (decide (j < i))) := dop_I0 (fun _ _ => op_gt) fun _ _ _ => .bl _
theorem d_ge : DOp c (compareOp .GtE) (PII CT fun i j => .bool (decide (j ≤ i))) := dop_I0 (fun _ _ => op_ge) fun _ _ _ => .bl _
def PEq (neg : Bool) : Ar → Ar → List Sv → PyData → Prop := fun r1 r2 _ d => ∃ x y, r1 = .dat x ∧ r2 = .dat y ∧ SeqAt.shaped x = true ∧ SeqAt.shaped y = true ∧ d = .bool (if neg then !PyData.eqv x y else PyData.eqv x y)
theorem d_eq : DOp c (compareOp .Eq) (PEq false) := ⟨fun X hX => ⟨_, op_eqD hX.room.units, fun H0 H Γ σ r1 r2 v1 v2 d _ o1 o2 ⟨x, y, e1, e2, s1, s2, e3⟩ Q q => by
  subst e1; subst e2; subst e3
  exact ⟨x, y, Is.dp _ _ o1, Is.dp _ _ o2, s1, s2, q _ (.bl _)⟩⟩⟩
theorem d_ne : DOp c (compareOp .NotEq) (PEq true) := ⟨fun X hX => ⟨_, op_neD hX.room.units, fun H0 H Γ σ r1 r2 v1 v2 d _ o1 o2 ⟨x, y, e1, e2, s1, s2, e3⟩ Q q => by
  subst e1; subst e2; subst e3
  exact ⟨x, y, Is.dp _ _ o1, Is.dp _ _ o2, s1, s2, q _ (.bl _)⟩⟩⟩
theorem d_isN : DOp c (compareOp .Is) (fun r1 r2 _ d => ∃ x, r1 = .dat x ∧ r2 = .dat .none ∧ d = .bool (match x with | .none => true | _ => false)) := ⟨fun X hX => ⟨_, op_isN, fun H0 H Γ σ r1 r2 v1 v2 d _ o1 o2 ⟨x, e1, e2, e3⟩ Q q => by
  subst e1; subst e2; subst e3
  refine ⟨Is.nonInv o2, q _ ?_⟩
  cases o1 <;> exact .bl _⟩⟩
theorem d_notN : DOp c (compareOp .IsNot) (fun r1 r2 _ d => ∃ x, r1 = .dat x ∧ r2 = .dat .none ∧ d = .bool (match x with | .none => false | _ => true)) := ⟨fun X hX => ⟨_, op_notN, fun H0 H Γ σ r1 r2 v1 v2 d _ o1 o2 ⟨x, e1, e2, e3⟩ Q q => by
  subst e1; subst e2; subst e3
  refine ⟨Is.nonInv o2, q _ ?_⟩
  cases o1 <;> exact .bl _⟩⟩
theorem d_ltS : DOp c (compareOp .Lt) (fun r1 r2 _ d => ∃ x y, r1 = .dat (.str x) ∧ r2 = .dat (.str y) ∧ d = .bool (decide (x.cps.toList < y.cps.toList))) := ⟨fun X hX => ⟨_, op_lt_str, fun H0 H Γ σ r1 r2 v1 v2 d _ o1 o2 ⟨x, y, e1, e2, e3⟩ Q q => by
  subst e1; subst e2; subst e3
  exact ⟨x, y, Is.strInv o1, Is.strInv o2, q _ (.bl _)⟩⟩⟩
theorem d_inS : DOp c (compareOp .In) (fun r1 r2 _ d => ∃ (x : Nat) (y : Str), r1 = .dat (.str ⟨#[x]⟩) ∧ r2 = .dat (.str y) ∧ d = .bool (decide (x ∈ y.cps.toList))) := ⟨fun X hX => ⟨_, op_in_sign, fun H0 H Γ σ r1 r2 v1 v2 d _ o1 o2 ⟨x, y, e1, e2, e3⟩ Q q => by
  subst e1; subst e2; subst e3
  exact ⟨x, y, Is.strInv o1, Is.strInv o2, q _ (.bl _)⟩⟩⟩
/-- x in t, t a tuple of data -/
def rInT (K : PySem.W.Frag) (neg : Bool) : R2 := fun x y H Q => ∃ d ds, Dp K H x d ∧ Dp K H y (.tuple ds) ∧ SeqAt.shaped d = true ∧ SeqAt.shaped (.tuple ds) = true ∧ Q (.bl (if neg then !ds.any fun z => PyData.eqv z d else ds.any fun z => PyData.eqv z d)) H
theorem op_inTup {X : Cx} (hu : X.A.units + 65 < cLine) : OpR X (compareOp .In) (rInT X.K false) := by
  intro pins s σ H x y v u Q I rx ry h
  obtain ⟨d, ds, hd, he, sd, se, q⟩ := h
  obtain ⟨as, h1⟩ := Dp.reads I d x v hd rx
  obtain ⟨bs, h2⟩ := Dp.reads I (.tuple ds) y u he ry
  exact SeqAt.in_tuple_reads h2 h1 (SeqAt.canLay_of_shaped se) (SeqAt.canLay_of_shaped sd) (room_in_shaped sd hu) ⟨.bl _, H, I, rfl, q⟩
theorem op_notInTup {X : Cx} (hu : X.A.units + 65 < cLine) : OpR X (compareOp .NotIn) (rInT X.K true) := by
  intro pins s σ H x y v u Q I rx ry h
  obtain ⟨d, ds, hd, he, sd, se, q⟩ := h
  obtain ⟨as, h1⟩ := Dp.reads I d x v hd rx
  obtain ⟨bs, h2⟩ := Dp.reads I (.tuple ds) y u he ry
  exact SeqAt.notIn_tuple_reads h2 h1 (SeqAt.canLay_of_shaped se) (SeqAt.canLay_of_shaped sd) (room_in_shaped sd hu) ⟨.bl _, H, I, rfl, q⟩
/-- .. in a tuple or a list -/
def PIn (neg : Bool) : Ar → Ar → List Sv → PyData → Prop := fun r1 r2 Γ d => ∃ x ds, r1 = .dat x ∧ (r2 = .dat (.tuple ds) ∨ RdL Γ r2 ds) ∧ SeqAt.shaped x = true ∧ SeqAt.shaped (.tuple ds) = true ∧ d = .bool (if neg then !ds.any (fun z => PyData.eqv z x) else ds.any fun z => PyData.eqv z x)
theorem shaped_list {ds : List PyData} (h : SeqAt.shaped (.tuple ds) = true) : SeqAt.shaped (.list ds) = true := h
theorem d_in : DOp c (compareOp .In) (PIn false) := ⟨fun X hX => ⟨_, (op_inTup hX.hu).or (op_inD hX.hu), fun H0 H Γ σ r1 r2 v1 v2 d S o1 o2 ⟨x, ds, e1, e2, s1, s2, e3⟩ Q q => by
  subst e1; subst e3
  rcases e2 with rfl | e2
  · exact .inl ⟨x, ds, Is.dp _ _ o1, Is.dp _ _ o2, s1, s2, q _ (.bl _)⟩
  · obtain ⟨p, vs, ep, hp, hi⟩ := e2.get S o2
    subst ep
    exact .inr ⟨x, ds, Is.dp _ _ o1, .lst (SqL.of hp) (IsAll.dp _ _ hi), s1, shaped_list s2, q _ (.bl _)⟩⟩⟩
theorem d_notIn : DOp c (compareOp .NotIn) (PIn true) := ⟨fun X hX => ⟨_, (op_notInTup hX.hu).or (op_notInD hX.hu), fun H0 H Γ σ r1 r2 v1 v2 d S o1 o2 ⟨x, ds, e1, e2, s1, s2, e3⟩ Q q => by
  subst e1; subst e3
  rcases e2 with rfl | e2
  · exact .inl ⟨x, ds, Is.dp _ _ o1, Is.dp _ _ o2, s1, s2, q _ (.bl _)⟩
  · obtain ⟨p, vs, ep, hp, hi⟩ := e2.get S o2
    subst ep
    exact .inr ⟨x, ds, Is.dp _ _ o1, .lst (SqL.of hp) (IsAll.dp _ _ hi), s1, shaped_list s2, q _ (.bl _)⟩⟩⟩

/-! ## tests -/
def T (c : Ct) (Γ : List Sv) (e : Expr) (b : Bool) : Prop := WT c Γ e fun b' Γ' => b' = b ∧ Γ' = Γ
def Pu (c : Ct) (Γ : List Sv) (e : Expr) (d : PyData) : Prop := W c Γ e fun r Γ' => r = .dat d ∧ Γ' = Γ
theorem T.go {b : Bool} (h : T c Γ e b) (k : ΦT b Γ) : WT c Γ e ΦT := WT.imp h fun _ _ ⟨h1, h2⟩ => by rw [h1, h2]; exact k
theorem Pu.go {d : PyData} (h : Pu c Γ e d) (k : Φ (.dat d) Γ) : W c Γ e Φ := W.imp h fun _ _ ⟨h1, h2⟩ => by rw [h1, h2]; exact k
theorem wt_w (h : W c Γ e fun r Γ' => ∃ b, r = .dat (.bool b) ∧ ΦT b Γ') (he : ∀ (env : Env) (whole : Sem Value), isTrue e env whole = (do let v ← whole; standAt e.pos; holding [v] (truthy v)) := by intro _ _; rfl) : WT c Γ e ΦT := fun X hX H0 σ H S Q q =>
  (pt_val (pe_we (e := e)) (he X.env)).wt (h X hX H0 σ H S _ fun H0' r Γ' v H' b ⟨k, e1, p⟩ S' o => by
    subst e1
    exact ⟨k, Is.blInv o, q H0' k Γ' H' b p S'⟩)
theorem wt_not (h : WT c Γ e fun b Γ' => ΦT (!b) Γ') : WT c Γ (.UnaryOp .Not e pos) ΦT := fun X hX H0 σ H S Q q =>
  (pt_not pt_wt).wt (h X hX H0 σ H S _ fun H0' b Γ' H' s p S' => q H0' (!b) Γ' H' s p S')
theorem w_not (h : W c Γ e fun r Γ' => ∃ b, r = .dat (.bool b) ∧ Φ (.dat (.bool (!b))) Γ') : W c Γ (.UnaryOp .Not e pos) Φ := fun X hX H0 σ H S Q q =>
  (pe_not pe_we).we (h X hX H0 σ H S _ fun H0' r Γ' v H' s ⟨b, e1, p⟩ S' o => by
    subst e1
    exact ⟨b, Is.blInv o, q H0' _ Γ' (.bl (!b)) H' s p S' (.bl _)⟩)
theorem ww_and1 (h : WT c Γ a ΦT) : WW c Γ (.BoolOp .And [a] pos) ΦT := fun X hX H0 σ H S Q q => (pw_and1 pt_wt).ww (h X hX H0 σ H S Q q)
theorem ww_or1 (h : WT c Γ a ΦT) : WW c Γ (.BoolOp .Or [a] pos) ΦT := fun X hX H0 σ H S Q q => (pw_or1 pt_wt).ww (h X hX H0 σ H S Q q)
theorem ww_and {rest : List Expr} (h : WT c Γ a fun k Γ1 => if k = true then WW c Γ1 (.BoolOp .And (b :: rest) pos) ΦT else ΦT false Γ1) : WW c Γ (.BoolOp .And (a :: b :: rest) pos) ΦT := fun X hX H0 σ H S Q q =>
  (pw_and pt_wt pw_ww).ww (h X hX H0 σ H S _ fun H0' k Γ' H' s p S' => by
    cases k with
    | true =>
      rw [if_pos rfl] at p ⊢
      exact p X hX H0' σ H' S' Q fun H0'' b Γ'' H'' s' => q H0'' b Γ'' H'' (s.trans s')
    | false =>
      rw [if_neg Bool.false_ne_true] at p ⊢
      exact q H0' false Γ' H' s p S')
theorem ww_or {rest : List Expr} (h : WT c Γ a fun k Γ1 => if k = true then ΦT true Γ1 else WW c Γ1 (.BoolOp .Or (b :: rest) pos) ΦT) : WW c Γ (.BoolOp .Or (a :: b :: rest) pos) ΦT := fun X hX H0 σ H S Q q =>
  (pw_or pt_wt pw_ww).ww (h X hX H0 σ H S _ fun H0' k Γ' H' s p S' => by
    cases k with
    | true =>
      rw [if_pos rfl] at p ⊢
      exact q H0' true Γ' H' s p S'
    | false =>
      rw [if_neg Bool.false_ne_true] at p ⊢
      exact p X hX H0' σ H' S' Q fun H0'' b Γ'' H'' s' => q H0'' b Γ'' H'' (s.trans s'))
theorem wt_ww (h : WW c Γ e ΦT) : WT c Γ e ΦT := fun X hX H0 σ H S Q q => (pw_ww (e := e)).pt.wt (h X hX H0 σ H S Q q)
/-- the answer as one truth, where nothing changes -/
theorem ww_andP {rest : List Expr} {k1 k2 : Bool} (h1 : T c Γ a k1) (h2 : k1 = true → WW c Γ (.BoolOp .And (b :: rest) pos) fun k Γ' => k = k2 ∧ Γ' = Γ) (h : ΦT (k1 && k2) Γ) : WW c Γ (.BoolOp .And (a :: b :: rest) pos) ΦT :=
  ww_and (h1.go (by
    cases k1 with
    | true =>
      rw [if_pos rfl]
      exact fun X hX H0 σ H S Q q => h2 rfl X hX H0 σ H S Q fun H0' k Γ' H' s ⟨e1, e2⟩ => by rw [e1, e2]; exact q H0' k2 Γ H' s h
    | false =>
      rw [if_neg Bool.false_ne_true]
      exact h))
theorem ww_orP {rest : List Expr} {k1 k2 : Bool} (h1 : T c Γ a k1) (h2 : k1 = false → WW c Γ (.BoolOp .Or (b :: rest) pos) fun k Γ' => k = k2 ∧ Γ' = Γ) (h : ΦT (k1 || k2) Γ) : WW c Γ (.BoolOp .Or (a :: b :: rest) pos) ΦT :=
  ww_or (h1.go (by
    cases k1 with
    | true =>
      rw [if_pos rfl]
      exact h
    | false =>
      rw [if_neg Bool.false_ne_true]
      exact fun X hX H0 σ H S Q q => h2 rfl X hX H0 σ H S Q fun H0' k Γ' H' s ⟨e1, e2⟩ => by rw [e1, e2]; exact q H0' k2 Γ H' s h))
/-- and, or as values of truths -/
theorem w_one {op : BoolOp} (h : W c Γ a Φ) : W c Γ (.BoolOp op [a] pos) Φ := fun X hX H0 σ H S Q q => (pe_one pe_we).we (h X hX H0 σ H S Q q)
theorem w_andP {rest : List Expr} {k1 k2 : Bool} (h1 : Pu c Γ a (.bool k1)) (h2 : k1 = true → Pu c Γ (.BoolOp .And (b :: rest) pos) (.bool k2)) (h : Φ (.dat (.bool (k1 && k2))) Γ) : W c Γ (.BoolOp .And (a :: b :: rest) pos) Φ := fun X hX H0 σ H S Q q =>
  (pe_and pe_we pe_we).we (h1 X hX H0 σ H S _ fun H0' r Γ' v H' s ⟨e1, e2⟩ S' o => by
    subst e1; subst e2
    refine ⟨k1, Is.blInv o, ?_⟩
    cases k1 with
    | true =>
      rw [if_pos rfl]
      exact h2 rfl X hX H0' σ H' S' Q fun H0'' r Γ'' v H'' s' ⟨e1, e2⟩ S'' o' => by
        subst e1; subst e2
        exact q H0'' _ _ v H'' (s.trans s') h S'' o'
    | false =>
      rw [if_neg Bool.false_ne_true]
      exact q H0' _ _ (.bl false) H' s h S' (.bl _))
theorem w_orP {rest : List Expr} {k1 k2 : Bool} (h1 : Pu c Γ a (.bool k1)) (h2 : k1 = false → Pu c Γ (.BoolOp .Or (b :: rest) pos) (.bool k2)) (h : Φ (.dat (.bool (k1 || k2))) Γ) : W c Γ (.BoolOp .Or (a :: b :: rest) pos) Φ := fun X hX H0 σ H S Q q =>
  (pe_or pe_we pe_we).we (h1 X hX H0 σ H S _ fun H0' r Γ' v H' s ⟨e1, e2⟩ S' o => by
    subst e1; subst e2
    refine ⟨k1, Is.blInv o, ?_⟩
    cases k1 with
    | true =>
      rw [if_pos rfl]
      exact q H0' _ _ (.bl true) H' s h S' (.bl _)
    | false =>
      rw [if_neg Bool.false_ne_true]
      exact h2 rfl X hX H0' σ H' S' Q fun H0'' r Γ'' v H'' s' ⟨e1, e2⟩ S'' o' => by
        subst e1; subst e2
        exact q H0'' _ _ v H'' (s.trans s') h S'' o')
theorem w_if {t : Expr} (h : WT c Γ t fun k Γ1 => if k = true then W c Γ1 a Φ else W c Γ1 b Φ) : W c Γ (.IfExp t a b pos) Φ := fun X hX H0 σ H S Q q =>
  (pe_ifExp pt_wt pe_we pe_we).we (h X hX H0 σ H S _ fun H0' k Γ' H' s p S' => by
    cases k with
    | true =>
      rw [if_pos rfl] at p ⊢
      exact p X hX H0' σ H' S' Q fun H0'' r Γ'' v H'' s' => q H0'' r Γ'' v H'' (s.trans s')
    | false =>
      rw [if_neg Bool.false_ne_true] at p ⊢
      exact p X hX H0' σ H' S' Q fun H0'' r Γ'' v H'' s' => q H0'' r Γ'' v H'' (s.trans s'))
/-- a <= b <= c, c pure -/
theorem w_chainLe {cc : Expr} (h : W c Γ a fun r1 Γ1 => W c Γ1 b fun r2 Γ2 => ∃ i j l, r1.weak = .dat (.int i) ∧ r2 = .dat (.int j) ∧ Pu c Γ2 cc (.int l) ∧ Φ (.dat (.bool (decide (i ≤ j) && decide (j ≤ l)))) Γ2) (hm : lastMarks [CmpOp.LtE, CmpOp.LtE] [b, cc] = false := by with_unfolding_all rfl) : W c Γ (.Compare a [.LtE, .LtE] [b, cc] pos) Φ := fun X hX H0 σ H S Q q =>
  (pe_chain op_le op_le pe_we pe_we pe_we (hm := hm)).we (seq2 hX S h fun H0' r1 r2 Γ2 v1 v2 H2 s ⟨i, j, l, e1, e2, hc, p⟩ S2 o1 o2 => by
    rw [e1] at o1
    subst e2
    refine ⟨i, j, Is.intInv o1, Is.intInv o2, decide (i ≤ j), rfl, ?_⟩
    by_cases hij : i ≤ j
    · rw [decide_eq_true hij] at p ⊢
      rw [if_pos rfl]
      exact hc X hX H0' σ H2 S2 _ fun H0'' r Γ'' v H'' s' ⟨e1, e2⟩ S'' o' => by
        subst e1; subst e2
        exact ⟨j, l, Is.intInv o2, Is.intInv o', q H0'' _ _ _ H'' (s.trans s') p S'' (.bl _)⟩
    · rw [decide_eq_false hij] at p ⊢
      rw [if_neg Bool.false_ne_true]
      exact q H0' _ _ _ H2 s p S2 (.bl _))
theorem wt_chain {op1 op2 : CmpOp} {cc : Expr} {p1 p2 : Int → Int → Bool} (h1 : ∀ X, OpR X (compareOp op1) (rI0 fun i j => .bl (p1 i j))) (h2 : ∀ X, OpR X (compareOp op2) (rI0 fun i j => .bl (p2 i j)))
    (h : W c Γ a fun r1 Γ1 => W c Γ1 b fun r2 Γ2 => ∃ i j l, r1.weak = .dat (.int i) ∧ r2 = .dat (.int j) ∧ Pu c Γ2 cc (.int l) ∧ ΦT (p1 i j && p2 j l) Γ2) (hm : lastMarks [op1, op2] [b, cc] = false := by with_unfolding_all rfl) : WT c Γ (.Compare a [op1, op2] [b, cc] pos) ΦT := fun X hX H0 σ H S Q q =>
  (pt_chain (h1 X) (h2 X) pe_we pe_we pe_we (hm := hm)).wt (seq2 hX S h fun H0' r1 r2 Γ2 v1 v2 H2 s ⟨i, j, l, e1, e2, hc, p⟩ S2 o1 o2 => by
    rw [e1] at o1
    subst e2
    refine ⟨i, j, Is.intInv o1, Is.intInv o2, p1 i j, rfl, ?_⟩
    cases hij : p1 i j with
    | true =>
      rw [hij] at p
      rw [if_pos rfl]
      exact hc X hX H0' σ H2 S2 _ fun H0'' r Γ'' v H'' s' ⟨e1, e2⟩ S'' o' => by
        subst e1; subst e2
        exact ⟨j, l, Is.intInv o2, Is.intInv o', p2 j l, rfl, q H0'' _ _ H'' (s.trans s') p S''⟩
    | false =>
      rw [hij] at p
      rw [if_neg Bool.false_ne_true]
      exact ⟨false, rfl, q H0' _ _ H2 s p S2⟩)
end
end K83
set_option maxRecDepth 100000
set_option maxHeartbeats 4000000
namespace K83
open PySem PySem.Spec PyProof.Rows L2

section
variable {c : Ct} {Γ : List Sv} {a b e : Expr} {es : List Expr} {pos : Pos} {Φ : Ar → List Sv → Prop} {ΦT : Bool → List Sv → Prop} {ΦA : List Ar → List Sv → Prop}
/-! ## arguments, displays -/
theorem wa_nil (h : ΦA [] Γ) : WA c Γ [] ΦA := fun X hX H0 σ H S Q q => pa_nil.wa (q H0 [] Γ [] H (Same.refl H0) h S .nil)
theorem wa_cons (h : W c Γ e fun r Γ1 => WA c Γ1 es fun rs Γ2 => ΦA (r.weak :: rs) Γ2) (hs : ∀ env : Env, starEach (e :: es) env = (false, eval e env) :: starEach es env := by intro _; rfl) : WA c Γ (e :: es) ΦA := fun X hX H0 σ H S Q q =>
  (pa_cons pe_we pa_wa (hs X.env)).wa (seqA hX S h fun H0' r1 rs Γ2 v1 vs H2 s p S2 o1 o2 => q H0' _ Γ2 _ H2 s p S2 (.cons o1 o2))
theorem ArAll.dats {H0 H : Hp} {Γ : List Sv} : ∀ {ds : List PyData} {vs : List V}, ArAll H0 H Γ vs (ds.map Ar.dat) → IsAll H vs ds
  | [], _, h => by cases h; exact .nil
  | d :: ds, _, h => by
    cases h with
    | cons h1 h2 => exact .cons h1 (ArAll.dats h2)
theorem w_tup {k : Nat} (h : WA c Γ es fun rs Γ1 => ∃ ds : List PyData, rs = ds.map Ar.dat ∧ ds.length ≤ 100 ∧ Φ (.dat (.tuple ds)) Γ1) : W c Γ (.Tuple es k pos) Φ := fun X hX H0 σ H S Q q =>
  (pe_tup pa_wa).we (h X hX H0 σ H S _ fun H0' rs Γ' vs H' s ⟨ds, e1, hl, p⟩ S' o => by
    subst e1
    have i := ArAll.dats o
    refine ⟨Nat.le_trans (by rw [i.len]; exact hl) (by decide), fun t ht => ?_⟩
    exact q H0' _ Γ' _ _ s p (S'.same (Same.new ht)) (.tup upd_same (IsAll.tk (Same.tk (Same.new ht)) _ _ i)))
theorem w_lst (h : WA c Γ es fun rs Γ1 => ∃ ds : List PyData, rs = ds.map Ar.dat ∧ ds.length ≤ 100 ∧ Φ (.new ds) Γ1) : W c Γ (.List es pos) Φ := fun X hX H0 σ H S Q q =>
  (pe_lst pa_wa).we (h X hX H0 σ H S _ fun H0' rs Γ' vs H' s ⟨ds, e1, hl, p⟩ S' o => by
    subst e1
    have i := ArAll.dats o
    refine ⟨Nat.le_trans (by rw [i.len]; exact hl) (by decide), fun t ht => ?_⟩
    exact q H0' _ Γ' _ _ s p (S'.same (Same.new ht)) ⟨t, vs, rfl, Same.free S'.base ht, S'.not_own ht, upd_same, IsAll.tk (Same.tk (Same.new ht)) _ _ i⟩)

/-! ## subscripts -/
theorem IsAll.atI {H : Hp} {ds : List PyData} {vs : List V} {i : Int} {d : PyData} (h : IsAll H vs ds) (e : atI ds i = some d) : ∃ v, L2.atI vs i = some v ∧ Is H v d := by
  obtain ⟨j, h1, h2, h3, h4, h5⟩ := atI_get e
  obtain ⟨v, hv, hi⟩ := h.get h2
  refine ⟨v, ?_, hi⟩
  unfold L2.atI at e ⊢
  rw [h.len]
  cases q : ixN ds.length i with
  | none => rw [q] at e; cases e
  | some j' =>
    rw [q] at e
    obtain ⟨h6, _, _, _⟩ := ixN_seq q
    rw [h1] at h6
    cases h6
    exact hv
/-- t[i] -/
theorem w_ix (h : W c Γ a fun r1 Γ1 => W c Γ1 b fun r2 Γ2 => ∃ ds i d, (r1.weak = .dat (.tuple ds) ∨ RdL Γ2 r1.weak ds) ∧ r2 = .dat (.int i) ∧ atI ds i = some d ∧ Φ (.dat d) Γ2) (hs : PlainIx b := by exact fun _ _ => rfl) : W c Γ (.Subscript a b pos) Φ := fun X hX H0 σ H S Q q =>
  (pe_ix (ix_tup.or ix_list) pe_we pe_we hs).we (seq2 hX S h fun H0' r1 r2 Γ2 v1 v2 H2 s ⟨ds, i, d, e1, e2, e3, p⟩ S2 o1 o2 => by
    subst e2
    have ei := Is.intInv o2
    rcases e1 with e1 | e1
    · rw [e1] at o1
      obtain ⟨t, xs, et, ht, hi⟩ := Is.tupInv o1
      obtain ⟨v, ev, iv⟩ := hi.atI e3
      exact .inl ⟨t, xs, i, v, et, ei, SqT.of ht, ev, q H0' _ Γ2 v H2 s p S2 iv⟩
    · obtain ⟨t, xs, et, ht, hi⟩ := e1.get S2 o1
      obtain ⟨v, ev, iv⟩ := hi.atI e3
      exact .inr ⟨t, xs, i, v, et, ei, SqL.of ht, ev, q H0' _ Γ2 v H2 s p S2 iv⟩)
/-- t[k], k written -/
theorem w_ixk (k : Nat) {i : Int} {j : Nat} {p2 : Pos} (h : W c Γ a fun r1 Γ1 => ∃ ds d, (r1.weak = .dat (.tuple ds) ∨ RdL Γ1 r1.weak ds) ∧ ds[k]? = some d ∧ Φ (.dat d) Γ1) (hk : i = (k : Int) := by rfl) : W c Γ (.Subscript a (.Constant (.int i) j p2) pos) Φ :=
  w_ix (W.imp h fun r1 Γ1 ⟨ds, d, e1, e2, p⟩ => w_int ⟨ds, i, d, e1, rfl, by rw [hk]; exact atI_nat e2, p⟩)

/-! ## calls of built-ins -/
def RsOk (H H' : Hp) (v : V) : Ar → Prop
  | .dat d => Is H' v d
  | .new ds => ∃ p vs, v = .ref p ∧ H p = none ∧ H' p = some (.lst vs) ∧ IsAll H' vs ds
  | .nic ds => ∃ p vs, v = .ref p ∧ Nic H' p vs ∧ IsAll H' vs ds
  | _ => False
theorem RsOk.ar {H0 H H' : Hp} {σ : L2.St} {v : V} {r : Ar} (S : Kn H0 Γ σ H) (S' : Kn H0 Γ σ H') (h : RsOk H H' v r) : ArOk H0 H' Γ v r := by
  cases r with
  | dat d => exact h
  | new ds =>
    obtain ⟨p, vs, e, n, h1, i⟩ := h
    exact ⟨p, vs, e, Same.free S.base n, S.not_own n, h1, i⟩
  | raw v => exact h.elim
  | lst ds => exact h.elim
  | fz d => exact h.elim
  | nic ds =>
    obtain ⟨p, vs, e, h1, i⟩ := h
    obtain ⟨o1, h2, _⟩ := id h1
    exact ⟨p, vs, e, S'.not_own_frz h2, h1, i⟩
/-- P: of what the arguments are, what comes -/
structure DCall (c : Ct) (f : Value) (P : List Ar → List Sv → Ar → Prop) : Prop where
  ok : ∀ X, InC c X → ∃ r, CallR X f r ∧ ∀ H0 H Γ σ rs vs res, Kn H0 Γ σ H → ArAll H0 H Γ vs rs → P rs Γ res → ∀ Q : VK, (∀ v H', Same H H' → RsOk H H' v res → Q v H') → r vs H Q
theorem w_callB {id : String} {x : Str} {p : Pos} {P : List Ar → List Sv → Ar → Prop} (D : DCall c (.builtin id) P) (G : GFree c.g x) (h : WA c Γ (e :: es) fun rs Γ1 => ∃ res, P rs Γ1 res ∧ Φ res Γ1)
    (hv : bootBuiltins x = some (.builtin id) := by decide +kernel) (hg : c.sc.names.lookup x = some .globalImplicit := by rfl) (hn : x ≠ "__name__" := by decide) (hdb : (x == ("__debug__" : Str)) = false := by decide)
    (he : ∀ env : Env, starEach (e :: es) env = (false, eval e env) :: starEach es env := by intro _; rfl) (hpl : ∀ env : Env, (backTo pos (starEach es env)).any (·.1) = false := by intro _; rfl) : W c Γ (.Call (.Name x p) (e :: es) [] pos) Φ := fun X hX H0 σ H S Q q => by
  obtain ⟨r, hr, k⟩ := D.ok X hX
  exact (pe_callB hr (hX.gl hg) (by rw [hX.mg]; exact G) hv pa_wa hn hdb (he X.env) (hpl X.env)).we (h X hX H0 σ H S _ fun H0' rs Γ' vs H' s ⟨res, hp, f⟩ S' o =>
    k H0' H' Γ' σ rs vs res S' o hp Q fun v H'' s' rk => q H0' res Γ' v H'' s f (S'.same s') (rk.ar S' (S'.same s')))
theorem w_callTy {T : String} {x : Str} {p : Pos} {P : List Ar → List Sv → Ar → Prop} (D : DCall c (.type T) P) (G : GFree c.g x) (h : WA c Γ (e :: es) fun rs Γ1 => ∃ res, P rs Γ1 res ∧ Φ res Γ1)
    (hv : bootBuiltins x = some (.type T) := by decide +kernel) (hg : c.sc.names.lookup x = some .globalImplicit := by rfl) (hn : x ≠ "__name__" := by decide) (hdb : (x == ("__debug__" : Str)) = false := by decide)
    (he : ∀ env : Env, starEach (e :: es) env = (false, eval e env) :: starEach es env := by intro _; rfl) (hpl : ∀ env : Env, (backTo pos (starEach es env)).any (·.1) = false := by intro _; rfl) : W c Γ (.Call (.Name x p) (e :: es) [] pos) Φ := fun X hX H0 σ H S Q q => by
  obtain ⟨r, hr, k⟩ := D.ok X hX
  exact (pe_callTy hr (hX.gl hg) (by rw [hX.mg]; exact G) hv pa_wa hn hdb (he X.env) (hpl X.env)).we (h X hX H0 σ H S _ fun H0' rs Γ' vs H' s ⟨res, hp, f⟩ S' o =>
    k H0' H' Γ' σ rs vs res S' o hp Q fun v H'' s' rk => q H0' res Γ' v H'' s f (S'.same s') (rk.ar S' (S'.same s')))
theorem ArAll.one {H0 H : Hp} {vs : List V} {r : Ar} (h : ArAll H0 H Γ vs [r]) : ∃ v, vs = [v] ∧ ArOk H0 H Γ v r := by
  cases h with
  | cons h1 h2 => cases h2; exact ⟨_, rfl, h1⟩
theorem ArAll.two {H0 H : Hp} {vs : List V} {r r' : Ar} (h : ArAll H0 H Γ vs [r, r']) : ∃ v w, vs = [v, w] ∧ ArOk H0 H Γ v r ∧ ArOk H0 H Γ w r' := by
  cases h with
  | cons h1 h2 =>
    obtain ⟨w, rfl, h3⟩ := ArAll.one h2
    exact ⟨_, _, rfl, h1, h3⟩
/-- len -/
def PLen : List Ar → List Sv → Ar → Prop := fun rs Γ res => (∃ r ds, rs = [r] ∧ (r = .dat (.tuple ds) ∨ RdL Γ r ds) ∧ res = .dat (.int ds.length)) ∨ ∃ z, rs = [.dat (.str z)] ∧ z.length ≤ 1000 ∧ res = .dat (.int z.length)
theorem c_len : DCall c (.builtin "len") PLen := ⟨fun X hX => ⟨_, call_len_seq.or call_len_str, fun H0 H Γ σ rs vs res S o h Q q => by
  rcases h with ⟨r, ds, rfl, hr, rfl⟩ | ⟨z, rfl, hz, rfl⟩
  · obtain ⟨v, rfl, o1⟩ := ArAll.one o
    rcases hr with rfl | hr
    · obtain ⟨t, xs, rfl, ht, hi⟩ := Is.tupInv o1
      refine .inl ⟨t, xs, rfl, .inr (SqT.of ht), q _ H (Same.refl H) ?_⟩
      rw [hi.len]
      exact .int _
    · obtain ⟨t, xs, rfl, ht, hi⟩ := hr.get S o1
      refine .inl ⟨t, xs, rfl, .inl (SqL.of ht), q _ H (Same.refl H) ?_⟩
      rw [hi.len]
      exact .int _
  · obtain ⟨v, rfl, o1⟩ := ArAll.one o
    exact .inr ⟨z, by rw [Is.strInv o1], Nat.le_trans hz (by decide), q _ H (Same.refl H) (.int _)⟩⟩⟩
theorem isAll_bls {H : Hp} : ∀ {bs : List Bool} {vs : List V}, IsAll H vs (bs.map PyData.bool) → vs = bs.map V.bl
  | [], _, h => by cases h; rfl
  | b :: bs, _, h => by
    cases h with
    | cons h1 h2 => rw [Is.blInv h1, isAll_bls h2] <;> rfl
theorem isAll_ints {H : Hp} : ∀ {ns : List Int} {vs : List V}, IsAll H vs (ns.map PyData.int) → vs = ns.map V.int
  | [], _, h => by cases h; rfl
  | b :: bs, _, h => by
    cases h with
    | cons h1 h2 => rw [Is.intInv h1, isAll_ints h2] <;> rfl
theorem isAll_strs {H : Hp} : ∀ {ns : List Str} {vs : List V}, IsAll H vs (ns.map PyData.str) → vs = ns.map V.str
  | [], _, h => by cases h; rfl
  | b :: bs, _, h => by
    cases h with
    | cons h1 h2 => rw [Is.strInv h1, isAll_strs h2] <;> rfl
theorem all_strs {H : Hp} : ∀ ns : List Str, IsAll H (ns.map V.str) (ns.map PyData.str)
  | [] => .nil
  | b :: bs => .cons (.str b) (all_strs bs)
theorem all_ints {H : Hp} : ∀ ns : List Int, IsAll H (ns.map V.int) (ns.map PyData.int)
  | [] => .nil
  | b :: bs => .cons (.int b) (all_ints bs)
theorem c_all : DCall c (.builtin "all") (fun rs Γ res => ∃ (r : Ar) (bs : List Bool), rs = [r] ∧ RdL Γ r (bs.map PyData.bool) ∧ res = .dat (.bool (bs.all id))) := ⟨fun X hX => ⟨_, cr_all hX.calm, fun H0 H Γ σ rs vs res S o ⟨r, bs, e1, hr, e2⟩ Q q => by
  subst e1; subst e2
  obtain ⟨v, rfl, o1⟩ := ArAll.one o
  obtain ⟨t, xs, rfl, ht, hi⟩ := hr.get S o1
  rw [isAll_bls hi] at ht
  exact ⟨t, bs, rfl, SqL.of ht, q _ H (Same.refl H) (.bl _)⟩⟩⟩
theorem c_sum : DCall c (.builtin "sum") (fun rs Γ res => ∃ (r : Ar) (ns : List Int), rs = [r] ∧ RdL Γ r (ns.map PyData.int) ∧ res = .dat (.int ns.sum)) := ⟨fun X hX => ⟨_, cr_sum hX.calm, fun H0 H Γ σ rs vs res S o ⟨r, ns, e1, hr, e2⟩ Q q => by
  subst e1; subst e2
  obtain ⟨v, rfl, o1⟩ := ArAll.one o
  obtain ⟨t, xs, rfl, ht, hi⟩ := hr.get S o1
  rw [isAll_ints hi] at ht
  exact ⟨t, ns, rfl, SqL.of ht, q _ H (Same.refl H) (.int _)⟩⟩⟩
theorem c_intB : DCall c (.type "int") (fun rs _ res => ∃ b, rs = [.dat (.bool b)] ∧ res = .dat (.int (if b then 1 else 0))) := ⟨fun X hX => ⟨_, call_int1, fun H0 H Γ σ rs vs res S o ⟨b, e1, e2⟩ Q q => by
  subst e1; subst e2
  obtain ⟨v, rfl, o1⟩ := ArAll.one o
  exact .inr ⟨b, by rw [Is.blInv o1], q _ H (Same.refl H) (.int _)⟩⟩⟩
theorem c_tupleL : DCall c (.type "tuple") (fun rs Γ res => ∃ r ds, rs = [r] ∧ RdL Γ r ds ∧ res = .dat (.tuple ds)) := ⟨fun X hX => ⟨_, call_tuple_of, fun H0 H Γ σ rs vs res S o ⟨r, ds, e1, hr, e2⟩ Q q => by
  subst e1; subst e2
  obtain ⟨v, rfl, o1⟩ := ArAll.one o
  obtain ⟨t, xs, rfl, ht, hi⟩ := hr.get S o1
  exact ⟨t, xs, rfl, .inl ⟨SqL.of ht, fun l hl => q _ _ (Same.new hl) (.tup upd_same (IsAll.tk (Same.tk (Same.new hl)) _ _ hi))⟩⟩⟩⟩
/-- tuple(xs), the new object known -/
theorem call_tuple_nic {X : Cx} : CallR X (.type "tuple") (fun xs H Q => ∃ p ys, xs = [.ref p] ∧ SqL X.K H p ys ∧ ∀ l H', H l = none → Same H H' → Nic H' l ys → Q (.ref l) H') := by
  intro pins s σ H xs us Q I r h
  obtain ⟨p, ys, rfl, hq, q⟩ := h
  obtain ⟨u, rfl, rx⟩ := vals1 r
  cases rx
  obtain ⟨its, r', pl, hz⟩ := I.list hq
  have hlen := r'.length
  refine call_tuple_list pl.isList (fun h' kp => ?_) (by simp only [List.size_toArray] <;> omega)
  have I1 : Inv X pins σ H { s with heap := h' } := I.kept (t' := s.toks) kp
  have hn : H h'.objs.size = none := I1.hok.fresh (Nat.le_refl _)
  exact ⟨.ref h'.objs.size, upd H h'.objs.size (.frz { cls := .type "tuple", data := .seq its.toArray } (.tup ys)),
    I1.laid (t' := s.toks) (fun b o e => Heap.get?_push_of_some _ e) (Nat.le_refl _) ⟨Heap.get?_push_size _ rfl, hz, its, r', IsTup.new _ _⟩, rfl, q _ _ hn (Same.new hn) ⟨_, upd_same, rfl⟩⟩
theorem c_tupleN : DCall c (.type "tuple") (fun rs Γ res => ∃ r ds, rs = [r] ∧ RdL Γ r ds ∧ res = .nic ds) := ⟨fun X hX => ⟨_, call_tuple_nic, fun H0 H Γ σ rs vs res S o ⟨r, ds, e1, hr, e2⟩ Q q => by
  subst e1; subst e2
  obtain ⟨v, rfl, o1⟩ := ArAll.one o
  obtain ⟨t, xs, rfl, ht, hi⟩ := hr.get S o1
  exact ⟨t, xs, rfl, SqL.of ht, fun l H' hl s hn => q _ H' s ⟨l, xs, rfl, hn, IsAll.tk (Same.tk s) _ _ hi⟩⟩⟩⟩
theorem c_listT : DCall c (.type "list") (fun rs Γ res => ∃ r ds, rs = [r] ∧ (r = .dat (.tuple ds) ∨ RdL Γ r ds) ∧ res = .new ds) := ⟨fun X hX => ⟨_, call_list_of, fun H0 H Γ σ rs vs res S o ⟨r, ds, e1, hr, e2⟩ Q q => by
  subst e1; subst e2
  obtain ⟨v, rfl, o1⟩ := ArAll.one o
  rcases hr with rfl | hr
  · obtain ⟨t, xs, rfl, ht, hi⟩ := Is.tupInv o1
    exact ⟨t, xs, rfl, .inr (SqT.of ht), fun l hl => q _ _ (Same.new hl) ⟨l, xs, rfl, hl, upd_same, IsAll.tk (Same.tk (Same.new hl)) _ _ hi⟩⟩
  · obtain ⟨t, xs, rfl, ht, hi⟩ := hr.get S o1
    exact ⟨t, xs, rfl, .inl (SqL.of ht), fun l hl => q _ _ (Same.new hl) ⟨l, xs, rfl, hl, upd_same, IsAll.tk (Same.tk (Same.new hl)) _ _ hi⟩⟩⟩⟩
/-! isinstance -/
def tyName : PyData → String
  | .none => "NoneType"
  | .bool _ => "bool"
  | .int _ => "int"
  | .str _ => "str"
  | .list _ => "list"
  | .tuple _ => "tuple"
  | .dict _ => "dict"
def isTy (T : String) (d : PyData) : Bool := (kitB (tyName d) T).getD false
theorem Is.ty {K : PySem.W.Frag} {H : Hp} {v : V} {d : PyData} (h : Is H v d) : TyX K H v (.type (tyName d)) ∧ tyName d ∈ ["NoneType", "bool", "int", "str", "tuple"] := by
  cases h with
  | non => exact ⟨.base .non, by simp [tyName]⟩
  | bl b => exact ⟨.base (.bl b), by simp [tyName]⟩
  | int i => exact ⟨.base (.int i), by simp [tyName]⟩
  | str x => exact ⟨.base (.str x), by simp [tyName]⟩
  | tup h1 h2 => exact ⟨.base (.tup h1), by simp [tyName]⟩
theorem c_isi : DCall c (.builtin "isinstance") (fun rs _ res => ∃ d T, rs = [.dat d, .raw (.ty T)] ∧ (["NoneType", "bool", "int", "str", "tuple"].all fun n => (kitB n T).isSome) = true ∧ res = .dat (.bool (isTy T d))) := ⟨fun X hX => ⟨_, call_isi, fun H0 H Γ σ rs vs res S o ⟨d, T, e1, hT, e2⟩ Q q => by
  subst e1; subst e2
  obtain ⟨v, w, rfl, o1, o2⟩ := ArAll.two o
  obtain rfl : w = V.ty T := o2
  obtain ⟨ty, hm⟩ := Is.ty (K := X.K) o1
  have hs := List.all_eq_true.mp hT _ hm
  obtain ⟨b, hb⟩ := Option.isSome_iff_exists.mp hs
  refine ⟨v, .ty T, _, _, isTy T d, rfl, .ty T, ty, kit_ty ?_, q _ H (Same.refl H) (.bl _)⟩
  unfold isTy
  rw [hb] <;> rfl⟩⟩
theorem w_type {x : Str} {T : String} (G : GFree c.g x) (h : Φ (.raw (.ty T)) Γ) (hv : bootBuiltins x = some (.type T) := by decide +kernel) (hg : c.sc.names.lookup x = some .globalImplicit := by rfl) (hn : x ≠ "__name__" := by decide) (hd : (x == ("__debug__" : Str)) = false := by decide) : W c Γ (.Name x pos) Φ := fun X hX H0 σ H S Q q =>
  (pe_bltn (v := .ty T) (hX.gl hg) (by rw [hX.mg]; exact G) hv rfl hn hd).we (q H0 _ Γ (.ty T) H (Same.refl H0) h S rfl)

/-! ## calls of the program's defs -/
def AgOk (H : Hp) (v : V) : Ar → Prop
  | .dat d => Is H v d
  | .lst ds => ∃ p vs, v = .ref p ∧ H p = some (.lst vs) ∧ IsAll H vs ds
  | .nic ds => ∃ p vs, v = .ref p ∧ Nic H p vs ∧ IsAll H vs ds
  | _ => False
abbrev AgAll (H : Hp) : List V → List Ar → Prop := Paired fun v r => AgOk H v r
/-- a def that changes nothing: args i its arguments, where pre i; what comes is of post i -/
def spT {ι : Type} (args : ι → List Ar) (pre : ι → Prop) (post : ι → Ar → Prop) : Sp := fun vs H Q _ => ∃ i, pre i ∧ AgAll H vs (args i) ∧ ∀ r v H', post i r → Same H H' → RsOk H H' v r → Q v H'
/-- a def as callers have it -/
structure Fn (g : Gv) (k : Nat) (x : Str) (sp : Sp) : Prop where
  ex : ∃ (f : Addr) (fd : FuncData) (ps : List Str), FnOk g.P g.w g.K g.mg g.base CX0 k f fd ps sp ∧ g.mg x = some (.ref f) ∧ PySem.W.keepIn g.K (.ref f) = true ∧ Binds g.K fd ps []
/-- what the results of the arguments are as a def's arguments -/
def AgIs (Γ : List Sv) : List Ar → List Ar → Prop := Paired fun r a => (∃ d, r = .dat d ∧ a = .dat d) ∨ (∃ ds, r = .nic ds ∧ a = .nic ds) ∨ ∃ ds, RdL Γ r ds ∧ a = .lst ds
theorem AgIs.ok {H0 H : Hp} {σ : L2.St} (S : Kn H0 Γ σ H) : ∀ {rs as : List Ar} {vs : List V}, AgIs Γ rs as → ArAll H0 H Γ vs rs → AgAll H vs as
  | _, _, _, .nil, .nil => .nil
  | _, _, _, .cons h t, .cons o ot => .cons (by
      rcases h with ⟨d, rfl, rfl⟩ | ⟨ds, rfl, rfl⟩ | ⟨ds, hr, rfl⟩
      · exact o
      · obtain ⟨p, vs, e, _, h1, i⟩ := o
        exact ⟨p, vs, e, h1, i⟩
      · exact hr.get S o) (AgIs.ok S t ot)
theorem agis_nil : AgIs Γ [] [] := .nil
theorem agis_dat {d : PyData} {rs as : List Ar} (h : AgIs Γ rs as) : AgIs Γ (.dat d :: rs) (.dat d :: as) := .cons (.inl ⟨d, rfl, rfl⟩) h
theorem agis_lst {r : Ar} {ds : List PyData} {rs as : List Ar} (hr : RdL Γ r ds) (h : AgIs Γ rs as) : AgIs Γ (r :: rs) (.lst ds :: as) := .cons (.inr (.inr ⟨ds, hr, rfl⟩)) h
theorem agis_nic {ds : List PyData} {rs as : List Ar} (h : AgIs Γ rs as) : AgIs Γ (.nic ds :: rs) (.nic ds :: as) := .cons (.inr (.inl ⟨ds, rfl, rfl⟩)) h
theorem w_call {ι : Type} {k : Nat} {x : Str} {p : Pos} {args : ι → List Ar} {pre : ι → Prop} {post : ι → Ar → Prop} (F : Fn c.g k x (spT args pre post)) (h : WA c Γ (e :: es) fun rs Γ1 => ∃ i, AgIs Γ1 rs (args i) ∧ pre i ∧ ∀ r, post i r → Φ r Γ1)
    (hk : k ≤ c.k := by exact Nat.le_of_ble_eq_true rfl) (hg : c.sc.names.lookup x = some .globalImplicit := by rfl) (hdb : (x == ("__debug__" : Str)) = false := by decide)
    (he : ∀ env : Env, starEach (e :: es) env = (false, eval e env) :: starEach es env := by intro _; rfl) (hpl : ∀ env : Env, (backTo pos (starEach es env)).any (·.1) = false := by intro _; rfl) : W c Γ (.Call (.Name x p) (e :: es) [] pos) Φ := fun X hX H0 σ H S Q q => by
  obtain ⟨f, fd, ps, F, gm, kp, bd⟩ := F.ex
  have F' : FnOk X.prog X.w X.K X.mg X.base CX0 k f fd ps (spT args pre post) := by
    rw [hX.P, hX.w, hX.K, hX.mg, hX.base]
    exact F
  refine (pe_call (ds := []) (dvs := []) F' (hX.room.mono hk) (hX.gl hg) (by rw [hX.mg]; exact gm) (by rw [hX.K]; exact kp) (by rw [hX.K]; exact bd) .nil (pass0 (X := X)) pa_wa hdb (he X.env) (hpl X.env)).we ?_
  refine h X hX H0 σ H S _ fun H0' rs Γ' vs H' s ⟨i, ag, hp, hq⟩ S' o => ?_
  refine ⟨i, hp, by rw [List.append_nil]; exact ag.ok S' o, fun r v H'' hr s' rk => ?_⟩
  exact q H0' r Γ' v H'' s (hq r hr) (S'.same s') (rk.ar S' (S'.same s'))
end
end K83
set_option maxRecDepth 100000
set_option maxHeartbeats 4000000
namespace K83
open PySem PySem.Spec PyProof.Rows L2

/-! ## targets -/
inductive Tg where
  | one (i : Nat)
  | many (is : List Nat)
def gNames : List Nat → TGs
  | [] => gNil
  | i :: is => gCons (gName i) (gNames is)
def Tg.g (K : PySem.W.Frag) : Tg → TG
  | .one i => gName i
  | .many is => gTup K is.length (gNames is)
def putMany : List Nat → List PyData → List Sv → List Sv
  | i :: is, d :: ds, Γ => putMany is ds (Γ.set i (.dat d))
  | _, _, Γ => Γ
def Tg.put : Tg → PyData → List Sv → List Sv
  | .one i, d, Γ => Γ.set i (.dat d)
  | .many is, .tuple ds, Γ => putMany is ds Γ
  | .many _, _, Γ => Γ
def Tg.fits : Tg → PyData → Prop
  | .one _, _ => True
  | .many is, d => ∃ ds, d = .tuple ds ∧ ds.length = is.length
def Tg.ix : Tg → List Nat
  | .one i => [i]
  | .many is => is
structure TgOk (c : Ct) (tg : Expr) (t : Tg) : Prop where
  ok : ∀ X, InC c X → PG X tg (t.g X.K)
section
variable {c : Ct} {Γ : List Sv} {pos : Pos}
theorem pgN {X : Cx} (hX : InC c X) {i : Nat} {x : Str} {p : Pos} (hN : c.N[i]? = some x) (hx : Loc c.sc x) (hf : c.top = true ∨ c.sc.names.lookup x = some .local) : PG X (.Name x p) (gName i) :=
  pg_name hX.ndX (hX.at_ hN) (by rw [hX.sc]; exact hx) (by
    rcases hf with h | h
    · exact .inl (hX.fn h x)
    · exact .inr (by rw [hX.sc]; exact h))
theorem tg_one (i : Nat) {x : Str} {p : Pos} (hN : c.N[i]? = some x := by rfl) (hx : Loc c.sc x := by first | exact Or.inl rfl | exact Or.inr rfl) (hf : c.top = true ∨ c.sc.names.lookup x = some .local := by first | exact Or.inl rfl | exact Or.inr rfl) : TgOk c (.Name x p) (.one i) := ⟨fun X hX => pgN hX hN hx hf⟩
theorem tg_two (i j : Nat) {x y : Str} {p q : Pos} {k : Nat} (hN : c.N[i]? = some x := by rfl) (hx : Loc c.sc x := by first | exact Or.inl rfl | exact Or.inr rfl) (hf : c.top = true ∨ c.sc.names.lookup x = some .local := by first | exact Or.inl rfl | exact Or.inr rfl)
    (hN2 : c.N[j]? = some y := by rfl) (hx2 : Loc c.sc y := by first | exact Or.inl rfl | exact Or.inr rfl) (hf2 : c.top = true ∨ c.sc.names.lookup y = some .local := by first | exact Or.inl rfl | exact Or.inr rfl) : TgOk c (.Tuple [.Name x p, .Name y q] k pos) (.many [i, j]) :=
  ⟨fun X hX => pg_tup hX.calm (pgs_cons (pgN hX hN hx hf) (pgs_cons (pgN hX hN2 hx2 hf2) pgs_nil))⟩
theorem tg_three (i j l : Nat) {x y z : Str} {p q r : Pos} {k : Nat} (hN : c.N[i]? = some x := by rfl) (hx : Loc c.sc x := by first | exact Or.inl rfl | exact Or.inr rfl) (hf : c.top = true ∨ c.sc.names.lookup x = some .local := by first | exact Or.inl rfl | exact Or.inr rfl)
    (hN2 : c.N[j]? = some y := by rfl) (hx2 : Loc c.sc y := by first | exact Or.inl rfl | exact Or.inr rfl) (hf2 : c.top = true ∨ c.sc.names.lookup y = some .local := by first | exact Or.inl rfl | exact Or.inr rfl)
    (hN3 : c.N[l]? = some z := by rfl) (hx3 : Loc c.sc z := by first | exact Or.inl rfl | exact Or.inr rfl) (hf3 : c.top = true ∨ c.sc.names.lookup z = some .local := by first | exact Or.inl rfl | exact Or.inr rfl) : TgOk c (.Tuple [.Name x p, .Name y q, .Name z r] k pos) (.many [i, j, l]) :=
  ⟨fun X hX => pg_tup hX.calm (pgs_cons (pgN hX hN hx hf) (pgs_cons (pgN hX hN2 hx2 hf2) (pgs_cons (pgN hX hN3 hx3 hf3) pgs_nil)))⟩
theorem tg_five (i j l m n : Nat) {x y z u v : Str} {p q r s t : Pos} {k : Nat} (hN : c.N[i]? = some x := by rfl) (hx : Loc c.sc x := by first | exact Or.inl rfl | exact Or.inr rfl) (hf : c.top = true ∨ c.sc.names.lookup x = some .local := by first | exact Or.inl rfl | exact Or.inr rfl)
    (hN2 : c.N[j]? = some y := by rfl) (hx2 : Loc c.sc y := by first | exact Or.inl rfl | exact Or.inr rfl) (hf2 : c.top = true ∨ c.sc.names.lookup y = some .local := by first | exact Or.inl rfl | exact Or.inr rfl)
    (hN3 : c.N[l]? = some z := by rfl) (hx3 : Loc c.sc z := by first | exact Or.inl rfl | exact Or.inr rfl) (hf3 : c.top = true ∨ c.sc.names.lookup z = some .local := by first | exact Or.inl rfl | exact Or.inr rfl)
    (hN4 : c.N[m]? = some u := by rfl) (hx4 : Loc c.sc u := by first | exact Or.inl rfl | exact Or.inr rfl) (hf4 : c.top = true ∨ c.sc.names.lookup u = some .local := by first | exact Or.inl rfl | exact Or.inr rfl)
    (hN5 : c.N[n]? = some v := by rfl) (hx5 : Loc c.sc v := by first | exact Or.inl rfl | exact Or.inr rfl) (hf5 : c.top = true ∨ c.sc.names.lookup v = some .local := by first | exact Or.inl rfl | exact Or.inr rfl) : TgOk c (.Tuple [.Name x p, .Name y q, .Name z r, .Name u s, .Name v t] k pos) (.many [i, j, l, m, n]) :=
  ⟨fun X hX => pg_tup hX.calm (pgs_cons (pgN hX hN hx hf) (pgs_cons (pgN hX hN2 hx2 hf2) (pgs_cons (pgN hX hN3 hx3 hf3) (pgs_cons (pgN hX hN4 hx4 hf4) (pgs_cons (pgN hX hN5 hx5 hf5) pgs_nil)))))⟩
theorem wipe_set {σ : L2.St} {i : Nat} {o : Option V} : ∀ {vs : List Nat}, i ∈ vs → wipe (σ.set i o) vs = wipe σ vs
  | [], h => absurd h (by simp)
  | v :: vs, h => by
    show (wipe (σ.set i o) vs).set v none = (wipe σ vs).set v none
    by_cases e : i ∈ vs
    · rw [wipe_set e]
    · have ev : i = v := by
        rcases List.mem_cons.mp h with z | z
        · exact z
        · exact absurd z e
      subst ev
      have key : ∀ (us : List Nat), i ∉ us → wipe (σ.set i o) us = (wipe σ us).set i o := by
        intro us
        induction us with
        | nil => intro _; rfl
        | cons u us ih =>
          intro hu
          have hu' : i ≠ u ∧ i ∉ us := by simpa using hu
          show (wipe (σ.set i o) us).set u none = ((wipe σ us).set u none).set i o
          rw [ih hu'.2, List.set_comm _ _ hu'.1]
      rw [key vs e, List.set_set]
theorem put_many {H0 H : Hp} : ∀ {is : List Nat} {ds : List PyData} {xs : List V} {Γ : List Sv} {σ : L2.St} {Q : L2.St → Hp → Prop}, Kn H0 Γ σ H → IsAll H xs ds → ds.length = is.length →
    (∀ σ', Kn H0 (putMany is ds Γ) σ' H → (∀ vs : List Nat, (∀ i ∈ is, i ∈ vs) → wipe σ' vs = wipe σ vs) → Q σ' H) → gNames is xs σ H Q
  | [], ds, xs, Γ, σ, Q, S, h, hl, q => by
    have e : ds = [] := List.length_eq_zero_iff.mp hl
    subst e
    cases h
    exact ⟨rfl, q σ S fun _ _ => rfl⟩
  | i :: is, [], xs, Γ, σ, Q, S, h, hl, q => by cases hl
  | i :: is, d :: ds, xs, Γ, σ, Q, S, h, hl, q => by
    cases h with
    | cons h1 h2 =>
      refine ⟨_, _, rfl, put_many (S.store (s := .dat d) (fun _ => ⟨_, rfl, h1⟩) fun p e => nomatch e) h2 (by simpa using hl) fun σ' S' hw => ?_⟩
      refine q σ' S' fun vs hv => ?_
      rw [hw vs fun j hj => hv j (List.mem_cons_of_mem _ hj)]
      exact wipe_set (hv i List.mem_cons_self)
theorem Tg.run {K : PySem.W.Frag} {H0 H : Hp} {t : Tg} {d : PyData} {v : V} {σ : L2.St} {Q : L2.St → Hp → Prop} (S : Kn H0 Γ σ H) (h : Is H v d) (f : t.fits d)
    (q : ∀ σ', Kn H0 (t.put d Γ) σ' H → (∀ vs : List Nat, (∀ i ∈ t.ix, i ∈ vs) → wipe σ' vs = wipe σ vs) → Q σ' H) : t.g K v σ H Q := by
  cases t with
  | one i => exact q _ (S.store (s := .dat d) (fun _ => ⟨_, rfl, h⟩) fun p e => nomatch e) fun vs hv => wipe_set (hv i (List.mem_singleton.mpr rfl))
  | many is =>
    obtain ⟨ds, e, hl⟩ := f
    subst e
    obtain ⟨a, xs, ev, ha, hi⟩ := h.tupInv
    exact ⟨a, xs, ev, SqT.of ha, by rw [hi.len, hl], put_many S hi hl fun σ' S' hw => q σ' S' hw⟩

/-! ## what is walked -/
def WI (c : Ct) (Γ : List Sv) (tg iter : Expr) (Φ : List PyData → List Sv → Prop) : Prop :=
  ∀ X, InC c X → ∃ wi, PI X tg iter wi ∧ ∀ H0 σ H, Kn H0 Γ σ H → ∀ R : It → Hp → Prop,
    (∀ (H0' : Hp) (ds : List PyData) (Γ' : List Sv) (H' : Hp) (J : It) (G : Hp → Prop) (Y : Nat → Hp → V → Hp → Prop), Same H0 H0' → Φ ds Γ' → Kn H0' Γ' σ H' → Walk J ds.length G Y → (∀ H2, Same H0' H2 → G H2) →
      (∀ i H2 x H3, i < ds.length → Same H0' H2 → Y i H2 x H3 → Same H2 H3 ∧ ∃ d, ds[i]? = some d ∧ Is H3 x d) → R J H') → wi σ H R
variable {tg iter a b : Expr} {Φ : List PyData → List Sv → Prop}
/-- over a tuple, over a list -/
theorem wi_tup (h : W c Γ iter fun r Γ1 => ∃ ds, r = .dat (.tuple ds) ∧ Φ ds Γ1) : WI c Γ tg iter Φ := fun X hX => ⟨_, pi_tup pe_we, fun H0 σ H S R q => h X hX H0 σ H S _ fun H0' r Γ' v H' s ⟨ds, e1, p⟩ S' o => by
  subst e1
  obtain ⟨t, xs, et, ht, hi⟩ := Is.tupInv o
  have h0 : reb Γ' H' t = some (.tup xs) := S'.tkb t xs ht
  have hi0 : IsAll (reb Γ' H') xs ds := IsAll.tk S'.tkb _ _ hi
  refine ⟨t, et, ⟨xs, SqT.of ht⟩, q (reb Γ' H') ds Γ' H' (Itt X.K t) (fun H => SqT X.K H t xs) (YAt xs) (s.trans S'.under) p S'.rebase (by rw [← hi.len]; exact walk_tup) (fun H2 b => SqT.of (b t _ h0)) fun i H2 x H3 _ b y => ?_⟩
  obtain ⟨rfl, ex⟩ := y
  exact ⟨Same.refl _, (IsAll.tk (Same.tk b) _ _ hi0).getV ex⟩⟩
theorem wi_nic (h : W c Γ iter fun r Γ1 => ∃ ds, r = .nic ds ∧ Φ ds Γ1) : WI c Γ tg iter Φ := fun X hX => ⟨_, pi_tup pe_we, fun H0 σ H S R q => h X hX H0 σ H S _ fun H0' r Γ' v H' s ⟨ds, e1, p⟩ S' o => by
  subst e1
  obtain ⟨t, xs, et, hn, ht, hi⟩ := o
  obtain ⟨o1, h1, h2⟩ := id ht
  have h0 : Nic (reb Γ' H') t xs := ⟨o1, by rw [reb_out hn]; exact h1, h2⟩
  have hi0 : IsAll (reb Γ' H') xs ds := IsAll.tk S'.tkb _ _ hi
  refine ⟨t, et, ⟨xs, ht.sq⟩, q (reb Γ' H') ds Γ' H' (Itt X.K t) (fun H => SqT X.K H t xs) (YAt xs) (s.trans S'.under) p S'.rebase (by rw [← hi.len]; exact walk_tup) (fun H2 b => (h0.on b).sq) fun i H2 x H3 _ b y => ?_⟩
  obtain ⟨rfl, ex⟩ := y
  exact ⟨Same.refl _, (IsAll.tk (Same.tk b) _ _ hi0).getV ex⟩⟩
theorem wi_lst (h : W c Γ iter fun r Γ1 => ∃ ds, (r = .new ds ∨ r = .lst ds) ∧ Φ ds Γ1) : WI c Γ tg iter Φ := fun X hX => ⟨_, pi_list pe_we, fun H0 σ H S R q => h X hX H0 σ H S _ fun H0' r Γ' v H' s ⟨ds, e1, p⟩ S' o => by
  have o' : ArOk H0' H' Γ' v (.lst ds) := by
    rcases e1 with rfl | rfl
    · exact o.weaken
    · exact o
  obtain ⟨t, xs, et, hn, ht, hi⟩ := o'
  have h0 : reb Γ' H' t = some (.lst xs) := by rw [reb_out hn]; exact ht
  have hi0 : IsAll (reb Γ' H') xs ds := IsAll.tk S'.tkb _ _ hi
  refine ⟨t, et, ⟨xs, SqL.of ht⟩, q (reb Γ' H') ds Γ' H' (Itl X.K t) (fun H => SqL X.K H t xs) (YAt xs) (s.trans S'.under) p S'.rebase (by rw [← hi.len]; exact walk_list) (fun H2 b => SqL.of (b t _ h0)) fun i H2 x H3 _ b y => ?_⟩
  obtain ⟨rfl, ex⟩ := y
  exact ⟨Same.refl _, (IsAll.tk (Same.tk b) _ _ hi0).getV ex⟩⟩
def rangeD (n : Nat) : List PyData := (List.range n).map fun (i : Nat) => PyData.int (i : Int)
theorem wi_range {p : Pos} (G : GFree c.g "range") (h : WA c Γ [a] fun rs Γ1 => ∃ n : Nat, rs = [.dat (.int n)] ∧ n ≤ 100000 ∧ Φ (rangeD n) Γ1) (hg : c.sc.names.lookup ("range" : Str) = some .globalImplicit := by rfl)
    (hs : ∀ env : Env, starEach [a] env = [(false, eval a env)] := by intro _; rfl) : WI c Γ tg (.Call (.Name "range" p) [a] [] pos) Φ := fun X hX => ⟨_, pi_range1 (hX.gl hg) (by rw [hX.mg]; exact G) pa_wa (hs X.env), fun H0 σ H S R q => h X hX H0 σ H S _ fun H0' rs Γ' vs H' s ⟨n, e1, hn, ph⟩ S' o => by
  subst e1
  obtain ⟨v, rfl, o1⟩ := ArAll.one o
  have hl : (rangeD n).length = n := by unfold rangeD; simp
  refine ⟨n, by rw [Is.intInv o1], by omega, by omega, ?_⟩
  refine q H0' (rangeD n) Γ' H' _ (fun _ => True) (YFn fun i => .int (0 + (i : Nat))) s ph S' (by rw [hl]; exact walk_range (n := n)) (fun _ _ => trivial) fun i H2 x H3 hi b y => ?_
  obtain ⟨rfl, rfl⟩ := y
  refine ⟨Same.refl _, .int (i : Int), ?_, ?_⟩
  · unfold rangeD
    rw [List.getElem?_map, List.getElem?_range (by omega)] <;> rfl
  · show Is H3 (.int (0 + (i : Int))) (.int (i : Int))
    rw [Int.zero_add]
    exact .int _⟩
def signsD (z : Str) : List PyData := z.cps.toList.map fun n => PyData.str ⟨#[n]⟩
theorem wi_str (h : W c Γ iter fun r Γ1 => ∃ z, r = .dat (.str z) ∧ Φ (signsD z) Γ1) : WI c Γ tg iter Φ := fun X hX => ⟨_, pi_str pe_we, fun H0 σ H S R q => h X hX H0 σ H S _ fun H0' r Γ' v H' s ⟨z, e1, p⟩ S' o => by
  subst e1
  have hl : (signsD z).length = z.cps.size := by unfold signsD; simp
  refine ⟨z, Is.strInv o, q H0' (signsD z) Γ' H' (Its z) (fun _ => True) _ s p S' (by rw [hl]; exact walk_str) (fun _ _ => trivial) fun i H2 x H3 _ b y => ?_⟩
  obtain ⟨rfl, n, en, rfl⟩ := y
  refine ⟨Same.refl _, .str ⟨#[n]⟩, ?_, .str _⟩
  unfold signsD
  rw [List.getElem?_map, Array.getElem?_toList, en] <;> rfl⟩
def pairsD (xs ys : List PyData) : List PyData := (xs.zip ys).map fun p => PyData.tuple [p.1, p.2]
theorem walk_zipTup {K : PySem.W.Frag} {a b : Addr} {xs ys : List V} {n : Nat} (hn : n = min xs.length ys.length) : Walk (RZ.ItzT K a b) n (fun H => SqT K H a xs ∧ SqT K H b ys) (YPair (fun i => xs[i]?) (fun i => ys[i]?)) := by
  subst hn
  refine ⟨fun i _ hi q => ?_, fun _ q => ⟨xs, ys, q.1, q.2, by omega⟩, fun i H v H' _ q y => ?_⟩
  · have h1 : i < xs.length := by omega
    have h2 : i < ys.length := by omega
    exact ⟨xs, ys, xs[i], ys[i], q.1, q.2, by simp [h1], by simp [h2]⟩
  · obtain ⟨T, x, z, h1, h2, h3, h4, h5⟩ := y
    exact ⟨T, x, z, h1, h2, h3, h4 xs q.1, h5 ys q.2⟩
theorem pair_item {H2 H3 H0 : Hp} {xs ys : List V} {ds es : List PyData} {i : Nat} {x : V} (hx : IsAll H0 xs ds) (hy : IsAll H0 ys es) (b : Same H0 H2) (y : YPair (fun i => xs[i]?) (fun i => ys[i]?) i H2 x H3) :
    Same H2 H3 ∧ ∃ d, (pairsD ds es)[i]? = some d ∧ Is H3 x d := by
  obtain ⟨T, x1, y1, rfl, hT, rfl, e1, e2⟩ := y
  obtain ⟨d1, f1, g1⟩ := hx.getV e1
  obtain ⟨d2, f2, g2⟩ := hy.getV e2
  have k : Tk H0 (upd H2 T (.tup [x1, y1])) := Same.tk (b.trans (Same.new hT))
  refine ⟨Same.new hT, .tuple [d1, d2], ?_, .tup upd_same (.cons (Is.tk k _ _ g1) (.cons (Is.tk k _ _ g2) .nil))⟩
  unfold pairsD
  rw [List.getElem?_map, show (ds.zip es)[i]? = some (d1, d2) from List.getElem?_zip_eq_some.mpr ⟨f1, f2⟩] <;> rfl
theorem wi_zip {p : Pos} {elts : List Expr} {kk : Nat} {tpos : Pos} (G : GFree c.g "zip") (h : WA c Γ [a, b] fun rs Γ1 => ∃ r1 r2 ds es, rs = [r1, r2] ∧ ((r1 = .lst ds ∧ r2.weak = .lst es) ∨ (r1 = .dat (.tuple ds) ∧ r2 = .dat (.tuple es))) ∧ Φ (pairsD ds es) Γ1) (hg : c.sc.names.lookup ("zip" : Str) = some .globalImplicit := by rfl)
    (hs : ∀ env : Env, starEach [a, b] env = (false, eval a env) :: starEach [b] env := by intro _; rfl) (hpl : ∀ env : Env, (backTo pos (starEach [b] env)).any (·.1) = false := by intro _; rfl) : WI c Γ (.Tuple elts kk tpos) (.Call (.Name "zip" p) [a, b] [] pos) Φ := fun X hX =>
  ⟨_, RZ.pi_zipA (hX.gl hg) (by rw [hX.mg]; exact G) pa_wa (hs X.env) (hpl X.env), fun H0 σ H S R q => h X hX H0 σ H S _ fun H0' rs Γ' vs H' s ⟨r1, r2, ds, es, e1, e2, ph⟩ S' o => by
  subst e1
  obtain ⟨v, w, rfl, o1, o2⟩ := ArAll.two o
  rcases e2 with ⟨rfl, e2⟩ | ⟨rfl, rfl⟩
  · have o2' := o2.weaken
    rw [e2] at o2'
    obtain ⟨t, xs, rfl, hn, ht, hi⟩ := o1
    obtain ⟨t2, ys, rfl, hn2, ht2, hi2⟩ := o2'
    have h0 : reb Γ' H' t = some (.lst xs) := by rw [reb_out hn]; exact ht
    have h02 : reb Γ' H' t2 = some (.lst ys) := by rw [reb_out hn2]; exact ht2
    refine ⟨t, t2, xs, ys, rfl, .inl ⟨SqL.of ht, SqL.of ht2, ?_⟩⟩
    refine q (reb Γ' H') (pairsD ds es) Γ' H' (Itz X.K t t2) (fun H => SqL X.K H t xs ∧ SqL X.K H t2 ys) (YPair (fun i => xs[i]?) (fun i => ys[i]?)) (s.trans S'.under) ph S'.rebase (walk_zip (by unfold pairsD; rw [List.length_map, List.length_zip, hi.len, hi2.len])) (fun H2 b => ⟨SqL.of (b t _ h0), SqL.of (b t2 _ h02)⟩) fun i H2 x H3 _ b y => ?_
    exact pair_item (IsAll.tk S'.tkb _ _ hi) (IsAll.tk S'.tkb _ _ hi2) b y
  · obtain ⟨t, xs, rfl, ht, hi⟩ := Is.tupInv o1
    obtain ⟨t2, ys, rfl, ht2, hi2⟩ := Is.tupInv o2
    have h0 : reb Γ' H' t = some (.tup xs) := S'.tkb t xs ht
    have h02 : reb Γ' H' t2 = some (.tup ys) := S'.tkb t2 ys ht2
    refine ⟨t, t2, xs, ys, rfl, .inr ⟨SqT.of ht, SqT.of ht2, ?_⟩⟩
    refine q (reb Γ' H') (pairsD ds es) Γ' H' (RZ.ItzT X.K t t2) (fun H => SqT X.K H t xs ∧ SqT X.K H t2 ys) (YPair (fun i => xs[i]?) (fun i => ys[i]?)) (s.trans S'.under) ph S'.rebase (walk_zipTup (by unfold pairsD; rw [List.length_map, List.length_zip, hi.len, hi2.len])) (fun H2 b => ⟨SqT.of (b t _ h0), SqT.of (b t2 _ h02)⟩) fun i H2 x H3 _ b y => ?_
    exact pair_item (IsAll.tk S'.tkb _ _ hi) (IsAll.tk S'.tkb _ _ hi2) b y⟩
end
end K83
set_option maxRecDepth 100000
set_option maxHeartbeats 4000000
namespace K83
open PySem PySem.Spec PyProof.Rows L2

/-! ## comprehensions -/
def Ct.blk (c : Ct) (scope : Scope) : Ct := { c with sc := relS scope c.sc, top := false }
theorem InC.blk {c : Ct} {X : Cx} (h : InC c X) (s : Shared) (H : Hp) (scope : Scope) (C : Addr) (cl : List (Str × Addr)) (fp : List Addr) : InC (c.blk scope) (X.blk s H scope (compEnvC scope cl C X.env) fp) where
  P := h.P
  w := h.w
  K := h.K
  mg := h.mg
  base := h.base
  N := h.N
  nd := h.nd
  sc := by
    show relS scope X.env.scope = relS scope c.sc
    rw [h.sc]
  calm := h.calm
  room := h.room
  fn := fun z => nomatch z
  gd := h.gd
  xe := rfl
def WEb (X : Cx) (scope : Scope) (e : Expr) : TE := fun σ H Q => ∀ (s : Shared) (H' : Hp) (C : Addr) (cl : List (Str × Addr)) (fp : List Addr), WE (X.blk s H' scope (compEnvC scope cl C X.env) fp) e σ H Q
def WTb (X : Cx) (scope : Scope) (e : Expr) : TT := fun σ H Q => ∀ (s : Shared) (H' : Hp) (C : Addr) (cl : List (Str × Addr)) (fp : List Addr), WT0 (X.blk s H' scope (compEnvC scope cl C X.env) fp) e σ H Q
theorem pe_web {X : Cx} {scope : Scope} {e : Expr} {s : Shared} {H' : Hp} {C : Addr} {cl : List (Str × Addr)} {fp : List Addr} : PE (X.blk s H' scope (compEnvC scope cl C X.env) fp) e (WEb X scope e) := ⟨fun pins s1 σ H Q I h => h s H' C cl fp pins s1 I⟩
theorem pt_wtb {X : Cx} {scope : Scope} {e : Expr} {s : Shared} {H' : Hp} {C : Addr} {cl : List (Str × Addr)} {fp : List Addr} : PT (X.blk s H' scope (compEnvC scope cl C X.env) fp) e (WTb X scope e) := ⟨fun pins s1 σ H Q I h => h s H' C cl fp pins s1 I⟩
/-- a clause's tests, none or one -/
def ifsT (X : Cx) (scope : Scope) : List Expr → TT
  | [] => tYes
  | e :: _ => WTb X scope e
def WIfs (c : Ct) (Γ : List Sv) (ifs : List Expr) (Φ : Bool → List Sv → Prop) : Prop := match ifs with
  | [] => Φ true Γ
  | e :: _ => WT c Γ e Φ
theorem pts_of {X : Cx} {scope : Scope} {ifs : List Expr} (hl : ifs.length ≤ 1) {s : Shared} {H' : Hp} {C : Addr} {cl : List (Str × Addr)} {fp : List Addr} : PTs (X.blk s H' scope (compEnvC scope cl C X.env) fp) ifs (ifsT X scope ifs) := by
  cases ifs with
  | nil => exact pts_nil
  | cons e r =>
    cases r with
    | nil => exact pts_one pt_wtb
    | cons e2 r => exact absurd hl (by simp)
theorem WIfs.run {c : Ct} {scope : Scope} {Γ : List Sv} {ifs : List Expr} {Φ : Bool → List Sv → Prop} (h : WIfs (c.blk scope) Γ ifs Φ) {X : Cx} (hX : InC c X) {H0 : Hp} {σ : L2.St} {H : Hp} (S : Kn H0 Γ σ H) {Q : Bool → Hp → Prop}
    (q : ∀ H0' b Γ' H', Same H0 H0' → Φ b Γ' → Kn H0' Γ' σ H' → Q b H') : ifsT X scope ifs σ H Q := by
  cases ifs with
  | nil => exact q H0 true Γ H (Same.refl H0) h S
  | cons e r => exact fun s H' C cl fp => h _ (hX.blk s H' scope C cl fp) H0 σ H S Q q
def wipeG (Γ : List Sv) : List Nat → List Sv
  | [] => Γ
  | v :: vs => (wipeG Γ vs).set v .no
theorem Kn.wipe {H0 H : Hp} {Γ : List Sv} {σ : L2.St} (S : Kn H0 Γ σ H) : ∀ vs : List Nat, Kn H0 (wipeG Γ vs) (L2.wipe σ vs) H
  | [] => S
  | v :: vs => (Kn.wipe S vs).drop
theorem wipeG_at {Γ : List Sv} {i : Nat} : ∀ {vs : List Nat}, i ∈ vs → (wipeG Γ vs)[i]? = some .no ∨ (wipeG Γ vs)[i]? = none
  | [], h => absurd h (by simp)
  | v :: vs, h => by
    show ((wipeG Γ vs).set v .no)[i]? = _ ∨ ((wipeG Γ vs).set v .no)[i]? = _
    by_cases e : v = i
    · subst e
      by_cases hl : v < (wipeG Γ vs).length
      · exact .inl (List.getElem?_set_self hl)
      · exact .inr (List.getElem?_eq_none (by rw [List.length_set]; omega))
    · rw [List.getElem?_set_ne e]
      refine wipeG_at (vs := vs) ?_
      rcases List.mem_cons.mp h with z | z
      · exact absurd z.symm e
      · exact z
theorem Kn.unwipe {H0 H : Hp} {Γ : List Sv} {σ : L2.St} {vs : List Nat} (S : Kn H0 (wipeG Γ vs) (L2.wipe σ vs) H) : Kn H0 (wipeG Γ vs) σ H where
  len := by rw [← S.len, wipe_length]
  base := S.base
  slots := fun i s hi => by
    by_cases e : i ∈ vs
    · rcases wipeG_at (Γ := Γ) e with z | z
      · rw [hi] at z
        cases z
        trivial
      · rw [hi] at z
        cases z
    · have q := S.slots i s hi
      rw [wipe_out e] at q
      exact q
  apart := S.apart
theorem wipe_fix {τ : L2.St} : ∀ {vs : List Nat}, (∀ v ∈ vs, τ.set v none = τ) → L2.wipe τ vs = τ
  | [], _ => rfl
  | v :: vs, h => by
    show (L2.wipe τ vs).set v none = τ
    rw [wipe_fix fun u hu => h u (List.mem_cons_of_mem _ hu)]
    exact h v List.mem_cons_self
theorem wipe_none {σ : L2.St} {v : Nat} : ∀ {vs : List Nat}, v ∈ vs → (L2.wipe σ vs).set v none = L2.wipe σ vs
  | [], h => absurd h (by simp)
  | u :: us, h => by
    show ((L2.wipe σ us).set u none).set v none = (L2.wipe σ us).set u none
    by_cases e : v = u
    · subst e
      rw [List.set_set]
    · have hv : v ∈ us := by
        rcases List.mem_cons.mp h with z | z
        · exact absurd z e
        · exact z
      rw [List.set_comm _ _ (Ne.symm e), wipe_none hv]
theorem wipe_twice {σ : L2.St} {vs : List Nat} : L2.wipe (L2.wipe σ vs) vs = L2.wipe σ vs := wipe_fix fun _ hv => wipe_none hv
def keys (Γ : List Sv) : List (Option Sv) := Γ.map Sv.key
theorem keys_at {Γ Γ' : List Sv} (h : keys Γ' = keys Γ) {i : Nat} {s' : Sv} (hs : Γ'[i]? = some s') : ∃ s, Γ[i]? = some s ∧ s.key = s'.key := by
  have e : (keys Γ')[i]? = (keys Γ)[i]? := by rw [h]
  unfold keys at e
  rw [List.getElem?_map, List.getElem?_map, hs] at e
  cases q : Γ[i]? with
  | none => rw [q] at e; cases e
  | some s =>
    rw [q] at e
    exact ⟨s, rfl, (Option.some.inj e).symm⟩
section
variable {c : Ct} {Γ : List Sv} {pos : Pos} {tg iter elt e : Expr} {ifs : List Expr} {scope : Scope} {own : List (Str × Nat)} {t : Tg} {Φw : List PyData → List Sv → Prop} {Φ : Ar → List Sv → Prop}
/-- what a comprehension's turns keep: J by the turn, what is made so far, what the slots hold -/
def LcJ (c : Ct) (scope : Scope) (t : Tg) (vs : List Nat) (ifs : List Expr) (elt : Expr) (ds : List PyData) (Γ : List Sv) (Φ : Ar → List Sv → Prop) : Prop :=
  ∃ J : Nat → List PyData → List Sv → Prop, ds.length ≤ 100000 ∧ J 0 [] Γ ∧ (∀ k acc Γ', J k acc Γ' → keys (wipeG Γ' vs) = keys (wipeG Γ vs)) ∧
    (∀ k d acc Γk, ds[k]? = some d → J k acc Γk → t.fits d ∧ WIfs (c.blk scope) (t.put d (wipeG Γk vs)) ifs fun b Γ' => if b = true then W (c.blk scope) Γ' elt fun r Γ'' => ∃ e, r = .dat e ∧ J (k + 1) (acc ++ [e]) Γ'' else J (k + 1) acc Γ') ∧
    ∀ acc Γ', J ds.length acc Γ' → Φ (.new acc) (wipeG Γ' vs)
theorem lcJ_run {X : Cx} (hX : InC c X) (tgo : ∀ i ∈ t.ix, i ∈ own.map (·.2)) {J0 : It} {G : Hp → Prop} {Y : Nat → Hp → V → Hp → Prop} {H0 : Hp} {σ : L2.St} {H1 : Hp} {ds : List PyData} (S : Kn H0 Γ σ H1) (w : Walk J0 ds.length G Y) (hG : ∀ H2, Same H0 H2 → G H2)
    (hY : ∀ i H2 x H3, i < ds.length → Same H0 H2 → Y i H2 x H3 → Same H2 H3 ∧ ∃ d, ds[i]? = some d ∧ Is H3 x d) (h : LcJ c scope t (own.map (·.2)) ifs elt ds Γ Φ) {Q : VK} (q : ∀ H0' r Γ' v H', Same H0 H0' → Φ r Γ' → Kn H0' Γ' σ H' → ArOk H0' H' Γ' v r → Q v H') :
    ∀ D, H1 D = none → ∃ W : Nat → Nat → Hp → Prop, (∃ m, W 0 m (upd H1 D (.lst []))) ∧ ∀ i m H, W i m H →
      (J0.stop i H ∧ Q (.ref D) H) ∨ (J0.go i H ∧ ∃ Nx : Hp → Prop, (∀ H', Nx H' → ∃ m', m' < m ∧ W (i + 1) m' H') ∧ ∀ x H', J0.yld i H x H' → (t.g X.K) x (L2.wipe σ (own.map (·.2))) H' fun σ2 H2 => L2.wipe σ2 (own.map (·.2)) = L2.wipe σ (own.map (·.2)) ∧ ifsT X scope ifs σ2 H2 fun b H3 =>
        if b = true then WEb X scope elt σ2 H3 fun y H4 => ∃ acc, H4 D = some (.lst acc) ∧ acc.length < sizeLine ∧ Nx (upd H4 D (.lst (acc ++ [y]))) else Nx H3) := by
  intro D hD
  obtain ⟨J, hlen, j0, hk0, hs, hd⟩ := h
  have hD0 : H0 D = none := Same.free S.base hD
  have S0 : Kn H0 (wipeG Γ (own.map (·.2))) (L2.wipe σ (own.map (·.2))) H1 := S.wipe _
  refine lc_it w (Qd := fun H => Q (.ref D) H) (fun k H => ∃ (H0k : Hp) (acc : List PyData) (Γk : List Sv) (vs : List V), Same H0 H0k ∧ J k acc Γk ∧ Kn H0k (wipeG Γk (own.map (·.2))) (L2.wipe σ (own.map (·.2))) H ∧ H0k D = none ∧ D ∉ ptrs (wipeG Γk (own.map (·.2))) ∧ H D = some (.lst vs) ∧ IsAll H vs acc ∧ acc.length ≤ k)
    ⟨H0, [], Γ, [], Same.refl H0, j0, S0.same (Same.new hD), hD0, S0.not_own hD, upd_same, .nil, Nat.le_refl _⟩ (fun i H _ ⟨H0k, _, _, _, s, _, S', _⟩ => hG H (s.trans S'.base)) (fun i x H H' hi ⟨H0k, acc, Γk, vs, s, j, S', d0, dp, hv, ia, hl⟩ y => ?_) (fun H ⟨H0k, acc, Γk, vs, s, j, S', d0, dp, hv, ia, hl⟩ => ?_)
  · obtain ⟨sy, d, ed, id⟩ := hY i H x H' hi (s.trans S'.base) y
    obtain ⟨fit, hk⟩ := hs i d acc Γk ed j
    have Sy := S'.same sy
    have S2 := Sy.rebase
    have hv' : H' D = some (.lst vs) := sy D _ hv
    have bD : reb (wipeG Γk (own.map (·.2))) H' D = some (.lst vs) := by rw [reb_out dp]; exact hv'
    have ia' : IsAll (reb (wipeG Γk (own.map (·.2))) H') vs acc := IsAll.tk Sy.tkb _ _ (IsAll.tk (Same.tk sy) _ _ ia)
    have zlen : ∀ {H4 : Hp} {ws : List V}, IsAll H4 ws acc → ws.length < sizeLine := fun {H4 ws} ia4 => by
      rw [ia4.len]
      exact Nat.lt_of_le_of_lt (Nat.le_trans hl (Nat.le_trans (Nat.le_of_lt hi) hlen)) (by decide)
    -- the next turn's word, from what stands behind a turn
    have next : ∀ {H0e : Hp} {Γe : List Sv} {σ2 : L2.St} {H4 : Hp} {acc' : List PyData} {ws' : List V}, Same (reb (wipeG Γk (own.map (·.2))) H') H0e → Kn H0e Γe σ2 H4 → L2.wipe σ2 (own.map (·.2)) = L2.wipe σ (own.map (·.2)) → J (i + 1) acc' Γe → IsAll H4 ws' acc' → acc'.length ≤ i + 1 →
        ∃ (H0k : Hp) (acc : List PyData) (Γk : List Sv) (vs : List V), Same H0 H0k ∧ J (i + 1) acc Γk ∧ Kn H0k (wipeG Γk (own.map (·.2))) (L2.wipe σ (own.map (·.2))) (upd H4 D (.lst ws')) ∧ H0k D = none ∧ D ∉ ptrs (wipeG Γk (own.map (·.2))) ∧ upd H4 D (.lst ws') D = some (.lst vs) ∧ IsAll (upd H4 D (.lst ws')) vs acc ∧ acc.length ≤ i + 1 := by
      intro H0e Γe σ2 H4 acc' ws' sb S4 hw je ia4 hl4
      have eD : H0e D = some (.lst vs) := sb D _ bD
      have S5 : Kn H0e (wipeG Γe (own.map (·.2))) (L2.wipe σ (own.map (·.2))) H4 := by rw [← hw]; exact S4.wipe _
      have kk := hk0 (i + 1) acc' Γe je
      have h4D : H4 D = some (.lst vs) := S4.base D _ eD
      have sb0 : Same H0 H0e := fun a u e => sb a u (Sy.under a u (s a u e))
      refine ⟨fun b => if b = D then none else H0e b, acc', Γe, ws', fun a u e => ?_, je, S5.unbase eD (fun n s1 hn => ?_), if_pos rfl, S5.not_own0 eD, upd_same, IsAll.tk (fun a xs e => ?_) _ _ ia4, hl4⟩
      · show (if a = D then none else H0e a) = some u
        rw [if_neg (fun z => by rw [z, hD0] at e; cases e)]
        exact sb0 a u e
      · obtain ⟨s0, e0, k0⟩ := keys_at kk hn
        exact Off.of (S0.slots n s0 e0) hD0 sb0 k0
      · rw [upd_ne fun z => by rw [z, h4D] at e; cases e]
        exact e
    refine t.run S2 id fit fun σ2 S3 hw => ?_
    have hw' : L2.wipe σ2 (own.map (·.2)) = L2.wipe σ (own.map (·.2)) := by rw [hw _ tgo]; exact wipe_twice
    refine ⟨hw', hk.run hX S3 fun H0b b Γ' H3 sb hb S4 => ?_⟩
    cases b with
    | true =>
      rw [if_pos rfl] at hb ⊢
      intro s' H'' C cl fp
      refine hb _ (hX.blk s' H'' scope C cl fp) H0b σ2 H3 S4 _ fun H0e r Γ'' y H4 se ⟨e, er, je⟩ S5 o => ?_
      subst er
      have sbe := sb.trans se
      have ia4 : IsAll H4 vs acc := IsAll.tk (Same.tk (sbe.trans S5.base)) _ _ ia'
      refine ⟨vs, S5.base D _ (sbe D _ bD), zlen ia4, ?_⟩
      exact next sbe S5 hw' je (ia4.app (IsAll.one o)) (by rw [List.length_append]; exact Nat.succ_le_succ hl)
    | false =>
      rw [if_neg Bool.false_ne_true] at hb ⊢
      have ia4 : IsAll H3 vs acc := IsAll.tk (Same.tk (sb.trans S4.base)) _ _ ia'
      have h3D : H3 D = some (.lst vs) := S4.base D _ (sb D _ bD)
      have e : upd H3 D (.lst vs) = H3 := by
        funext z
        by_cases hz : z = D
        · rw [hz, upd_same, h3D]
        · rw [upd_ne hz]
      have nx := next sb S4 hw' hb ia4 (Nat.le_succ_of_le hl)
      rw [e] at nx
      exact nx
  · have e : Kn H0k (wipeG Γk (own.map (·.2))) σ H := S'.unwipe
    exact q H0k _ _ _ H s (hd acc Γk j) e ⟨D, vs, rfl, d0, dp, hv, ia⟩
/-- [elt for tg in iter if ..] -/
theorem w_lc (t : Tg) (own : List (Str × Nat)) (hi : WI c Γ tg iter fun ds Γ1 => LcJ c scope t (own.map (·.2)) ifs elt ds Γ1 Φ) (tgo : TgOk (c.blk scope) tg t) (ok : BlkOk c.N c.sc scope own) (hin : ∀ i ∈ t.ix, i ∈ own.map (·.2) := by decide) (hl : ifs.length ≤ 1 := by decide)
    (hs : ∀ (env : Env) x, foldedSetIterable iter env x = pure x := by intro _ _; rfl) : W c Γ (.ListComp elt [⟨tg, iter, ifs, 0⟩] scope pos) Φ := fun X hX H0 σ H S Q q => by
  obtain ⟨wi, hpi, hw⟩ := hi X hX
  refine (pe_lc (g := t.g X.K) hX.calm hX.ndX hpi (by rw [hX.N, hX.sc]; exact ok) (fun s H C cl fp => tgo.ok _ (hX.blk s H scope C cl fp)) (fun s H C cl fp => pts_of hl) (fun s H C cl fp => pe_web) (hs X.env)).we ?_
  exact hw H0 σ H S _ fun H0' ds Γ' H' J G Y s ph S' wk hG hY => lcJ_run hX hin S' wk hG hY ph fun H0'' r Γ'' v H'' s' p => q H0'' r Γ'' v H'' (s.trans s') p
end
end K83
set_option maxRecDepth 100000
set_option maxHeartbeats 4000000
namespace K83
open PySem PySem.Spec PyProof.Rows L2

/-! ## statements -/
structure Po where
  ret : Ar → List Sv → Prop := fun _ _ => False
  nx : List Sv → Prop := fun _ => False
  bk : List Sv → Prop := fun _ => False
  ct : List Sv → Prop := fun _ => False
structure Fits (H0 : Hp) (po : Po) (D : Ends) : Prop where
  ret : ∀ H0' r v Γ σ H, Same H0 H0' → po.ret r Γ → Kn H0' Γ σ H → ArOk H0' H Γ v r → D.rt v H
  nx : ∀ H0' Γ σ H, Same H0 H0' → po.nx Γ → Kn H0' Γ σ H → D.nx σ H
  bk : ∀ H0' Γ σ H, Same H0 H0' → po.bk Γ → Kn H0' Γ σ H → D.bk σ H
  ct : ∀ H0' Γ σ H, Same H0 H0' → po.ct Γ → Kn H0' Γ σ H → D.ct σ H
theorem Fits.up {H0 H0' : Hp} {po : Po} {D : Ends} (h : Fits H0 po D) (b : Same H0 H0') : Fits H0' po D :=
  ⟨fun H r v Γ σ H' s => h.ret H r v Γ σ H' (b.trans s), fun H Γ σ H' s => h.nx H Γ σ H' (b.trans s), fun H Γ σ H' s => h.bk H Γ σ H' (b.trans s), fun H Γ σ H' s => h.ct H Γ σ H' (b.trans s)⟩
def Sd (c : Ct) (Γ : List Sv) (sts : List Stmt) (po : Po) : Prop :=
  ∀ X, InC c X → ∀ H0 σ H, Kn H0 Γ σ H → ∀ D, Fits H0 po D → WSs X sts D σ H
section
variable {c : Ct} {Γ : List Sv} {pos pos' : Pos} {e a b : Expr} {st : Stmt} {rest body els : List Stmt} {po : Po}
theorem sd_nil (h : po.nx Γ) : Sd c Γ [] po := fun X hX H0 σ H S D F => pss_nil.wss (F.nx H0 Γ σ H (Same.refl H0) h S)
/-- x = e -/
theorem sd_dat (i : Nat) {x : Str} (h : W c Γ e fun r Γ1 => ∃ d, r = .dat d ∧ Sd c (Γ1.set i (.dat d)) rest po) (hs : ∀ env : Env, env.scope = c.sc → swapsWith e (some (.Name x pos')) pos.line env = pure false := by intro _ _; rfl)
    (hN : c.N[i]? = some x := by rfl) (hx : Loc c.sc x := by first | exact Or.inl rfl | exact Or.inr rfl) (ht : c.top = true := by rfl) : Sd c Γ (.Assign [.Name x pos'] e pos :: rest) po := fun X hX H0 σ H S D F =>
  (pss_cons (ps_set hX.ndX (hX.at_ hN) (by rw [hX.sc]; exact hx) pe_we (hs X.env hX.sc) (.inl (hX.fn ht x))) pss_ws).wss (h X hX H0 σ H S _ fun H0' r Γ' v H' s ⟨d, e1, p⟩ S' o => by
    subst e1
    exact p X hX H0' _ H' (S'.store (s := .dat d) (fun _ => ⟨_, rfl, o⟩) fun p e => nomatch e) D (F.up s))
theorem sd_val (i : Nat) {x : Str} (h : W c Γ e fun r Γ1 => ∃ v, r = .raw v ∧ Sd c (Γ1.set i (.val v)) rest po) (hs : ∀ env : Env, env.scope = c.sc → swapsWith e (some (.Name x pos')) pos.line env = pure false := by intro _ _; rfl)
    (hN : c.N[i]? = some x := by rfl) (hx : Loc c.sc x := by first | exact Or.inl rfl | exact Or.inr rfl) (ht : c.top = true := by rfl) : Sd c Γ (.Assign [.Name x pos'] e pos :: rest) po := fun X hX H0 σ H S D F =>
  (pss_cons (ps_set hX.ndX (hX.at_ hN) (by rw [hX.sc]; exact hx) pe_we (hs X.env hX.sc) (.inl (hX.fn ht x))) pss_ws).wss (h X hX H0 σ H S _ fun H0' r Γ' v H' s ⟨d, e1, p⟩ S' o => by
    subst e1
    have e2 : v = d := o
    subst e2
    exact p X hX H0' _ H' (S'.store (s := .val v) (fun _ => rfl) fun p e => nomatch e) D (F.up s))
theorem sd_own (i : Nat) {x : Str} (h : W c Γ e fun r Γ1 => ∃ ds, r = .new ds ∧ ∀ p, Sd c (Γ1.set i (.own p ds)) rest po) (hs : ∀ env : Env, env.scope = c.sc → swapsWith e (some (.Name x pos')) pos.line env = pure false := by intro _ _; rfl)
    (hN : c.N[i]? = some x := by rfl) (hx : Loc c.sc x := by first | exact Or.inl rfl | exact Or.inr rfl) (ht : c.top = true := by rfl) : Sd c Γ (.Assign [.Name x pos'] e pos :: rest) po := fun X hX H0 σ H S D F =>
  (pss_cons (ps_set hX.ndX (hX.at_ hN) (by rw [hX.sc]; exact hx) pe_we (hs X.env hX.sc) (.inl (hX.fn ht x))) pss_ws).wss (h X hX H0 σ H S _ fun H0' r Γ' v H' s ⟨ds, e1, p⟩ S' o => by
    subst e1
    obtain ⟨q, vs, rfl, h0, hn, hq, hi⟩ := o
    exact p q X hX H0' _ H' (S'.store (s := .own q ds) (fun _ => ⟨rfl, h0, vs, hq, hi⟩) fun p e => by cases e; exact hn) D (F.up s))
theorem shr_of {H0 H : Hp} {σ : L2.St} {v : V} {ds : List PyData} (S : Kn H0 Γ σ H) (o : ArOk H0 H Γ v (.lst ds)) (i : Nat) : Same H0 (reb Γ H) ∧ Kn (reb Γ H) (Γ.set i (.shr ds)) (σ.set i (some v)) H := by
  obtain ⟨q, vs, rfl, hn, hq, hi⟩ := o
  exact ⟨S.under, S.rebase.store (s := .shr ds) (fun _ => ⟨q, vs, rfl, by rw [reb_out hn]; exact hq, hi⟩) fun p e => nomatch e⟩
theorem sd_shr (i : Nat) {x : Str} (h : W c Γ e fun r Γ1 => ∃ ds, (r = .new ds ∨ r = .lst ds) ∧ Sd c (Γ1.set i (.shr ds)) rest po) (hs : ∀ env : Env, env.scope = c.sc → swapsWith e (some (.Name x pos')) pos.line env = pure false := by intro _ _; rfl)
    (hN : c.N[i]? = some x := by rfl) (hx : Loc c.sc x := by first | exact Or.inl rfl | exact Or.inr rfl) (ht : c.top = true := by rfl) : Sd c Γ (.Assign [.Name x pos'] e pos :: rest) po := fun X hX H0 σ H S D F =>
  (pss_cons (ps_set hX.ndX (hX.at_ hN) (by rw [hX.sc]; exact hx) pe_we (hs X.env hX.sc) (.inl (hX.fn ht x))) pss_ws).wss (h X hX H0 σ H S _ fun H0' r Γ' v H' s ⟨ds, e1, p⟩ S' o => by
    have o' : ArOk H0' H' Γ' v (.lst ds) := by
      rcases e1 with rfl | rfl
      · exact o.weaken
      · exact o
    obtain ⟨s2, S2⟩ := shr_of S' o' i
    exact p X hX _ _ H' S2 D (F.up (s.trans s2)))
/-- return e -/
theorem sd_ret (h : W c Γ e po.ret) : Sd c Γ (.Return (some e) pos :: rest) po := fun X hX H0 σ H S D F =>
  (pss_cons (ps_ret pe_we) pss_ws).wss (h X hX H0 σ H S _ fun H0' r Γ' v H' s p S' o => F.ret H0' r v Γ' σ H' s p S' o)
/-- if -/
theorem sd_if {t : Expr} (M : List Sv → Prop) (h : WT c Γ t fun k Γ1 => if k = true then Sd c Γ1 body { po with nx := M } else Sd c Γ1 els { po with nx := M }) (hr : ∀ Γ', M Γ' → Sd c Γ' rest po) : Sd c Γ (.If t body els pos :: rest) po := fun X hX H0 σ H S D F =>
  (pss_cons (ps_if pt_wt pss_ws pss_ws) pss_ws).wss (h X hX H0 σ H S _ fun H0' k Γ' H' s p S' => by
    have F' : Fits H0' { po with nx := M } { D with nx := WSs X rest D } := ⟨(F.up s).ret, fun H0'' Γ σ H s' m S => hr Γ m X hX H0'' σ H S D (F.up (s.trans s')), (F.up s).bk, (F.up s).ct⟩
    cases k with
    | true =>
      rw [if_pos rfl] at p ⊢
      exact p X hX H0' σ H' S' _ F'
    | false =>
      rw [if_neg Bool.false_ne_true] at p ⊢
      exact p X hX H0' σ H' S' _ F')
/-- if t: .. that never comes to its end; the rest -/
theorem sd_ifx {t : Expr} (h : WT c Γ t fun k Γ1 => if k = true then Sd c Γ1 body { po with nx := fun _ => False } else Sd c Γ1 rest po) : Sd c Γ (.If t body [] pos :: rest) po := fun X hX H0 σ H S D F =>
  (pss_cons (ps_if pt_wt pss_ws pss_ws) pss_ws).wss (h X hX H0 σ H S _ fun H0' k Γ' H' s p S' => by
    cases k with
    | true =>
      rw [if_pos rfl] at p ⊢
      exact p X hX H0' σ H' S' _ ⟨(F.up s).ret, fun H0'' Γ σ H s' m S => m.elim, (F.up s).bk, (F.up s).ct⟩
    | false =>
      rw [if_neg Bool.false_ne_true] at p ⊢
      exact pss_nil.wss (p X hX H0' σ H' S' D (F.up s)))
/-- for -/
theorem sd_for {tg iter : Expr} (t : Tg) (M : List Sv → Prop) (hi : WI c Γ tg iter fun ds Γ1 => ∃ G : Nat → List Sv → Prop, G 0 Γ1 ∧
      (∀ k d Γk, ds[k]? = some d → G k Γk → t.fits d ∧ Sd c (t.put d Γk) body { po with nx := G (k + 1), ct := G (k + 1), bk := M }) ∧ ∀ Γ', G ds.length Γ' → M Γ') (hr : ∀ Γ', M Γ' → Sd c Γ' rest po) (tgo : TgOk c tg t)
    (hs : ∀ (env : Env) x, foldedSetIterable iter env x = pure x := by intro _ _; rfl) : Sd c Γ (.For tg iter body [] pos :: rest) po := fun X hX H0 σ H S D F => by
  obtain ⟨wi, hpi, hw⟩ := hi X hX
  refine (pss_cons (ps_for hX.pass hX.calm hpi (tgo.ok X hX) pss_ws (hs X.env)) pss_ws).wss ?_
  refine hw H0 σ H S _ fun H0' ds Γ' H' J G Y s ⟨I, i0, ih, ie⟩ S' wk hG hY => ?_
  refine for_it wk (D := { D with nx := WSs X rest D }) (fun k σ H => ∃ (H0k : Hp) (Γk : List Sv), Same H0' H0k ∧ I k Γk ∧ Kn H0k Γk σ H) ⟨H0', Γ', Same.refl _, i0, S'⟩ (fun k σ H _ ⟨H0k, Γk, s1, _, S1⟩ => hG H (s1.trans S1.base)) (fun k x σ H H'' hk ⟨H0k, Γk, s1, g1, S1⟩ y => ?_) fun σ H ⟨H0k, Γk, s1, g1, S1⟩ => ?_
  · obtain ⟨sy, d, ed, id⟩ := hY k H x H'' hk (s1.trans S1.base) y
    obtain ⟨fit, hb⟩ := ih k d Γk ed g1
    refine t.run (S1.same sy) id fit fun σ2 S2 _ => ?_
    refine hb X hX H0k σ2 H'' S2 _ ⟨fun H r v Γ σ H' s2 => F.ret H r v Γ σ H' ((s.trans s1).trans s2), fun H Γ σ H' s2 g S => ⟨H, Γ, s1.trans s2, g, S⟩, fun H Γ σ H' s2 m S => hr Γ m X hX H σ H' S D (F.up ((s.trans s1).trans s2)), fun H Γ σ H' s2 g S => ⟨H, Γ, s1.trans s2, g, S⟩⟩
  · exact hr Γk (ie Γk g1) X hX H0k σ H S1 D (F.up (s.trans s1))
/-- x.append(e), x one's own -/
theorem sd_append (i : Nat) {x : Str} {p1 ap : Pos} {cp : Pos} {p : Addr} {ds0 : List PyData} (h0 : Γ[i]? = some (.own p ds0)) (h : WA c Γ [e] fun rs Γ1 => ∃ d ds, rs = [.dat d] ∧ Γ1[i]? = some (.own p ds) ∧ ds.length ≤ 1000000 ∧ Sd c (Γ1.set i (.own p (ds ++ [d]))) rest po)
    (hN : c.N[i]? = some x := by rfl) (hv : Vis c.sc x := by first | exact Or.inl rfl | exact Or.inr (Or.inl rfl) | exact Or.inr (Or.inr rfl)) (hd : (x == ("__debug__" : Str)) = false := by decide) (hcd : (x == ("__classdict__" : Str)) = false := by decide)
    (hbase : ∀ env : Env, attributeBase (.Name x p1) "append" env (eval (.Name x p1) env) = eval (.Name x p1) env := by intro _; rfl)
    (hfew : ∀ env : Env, ((backTo cp (starEach [e] env)).all (fun x => !x.1) && (backToKw cp (keywordEach [] env)).all (fun x => x.1.isSome)
      && decide ([e].length + ([] : List Keyword).length + (if ([] : List Keyword).isEmpty then 0 else 1) < 30)) = true := by intro _; rfl)
    (hline : (ap.endLine == cp.line) = true := by rfl) (hst : ∀ env : Env, starEach [e] env = (false, eval e env) :: starEach [] env := by intro _; rfl) (hsw : ∀ env : Env, swapsWith (.Call (.Attribute (.Name x p1) "append" ap) [e] [] cp) none pos.line env = pure false := by intro _; rfl) :
    Sd c Γ (.Expr (.Call (.Attribute (.Name x p1) "append" ap) [e] [] cp) pos :: rest) po := fun X hX H0 σ H S D F => by
  refine (pss_cons (ps_expr (pe_bm PySem.F.plainAttrs_list PySem.F.slot_list_append PySem.F.type_list_append mt_append (pe_var (hX.at_ hN) (hX.vis hv) hd hcd) pa_wa (hbase X.env) (hfew X.env) hline (hst X.env) (by rfl)) (hsw X.env)) pss_ws).wss ?_
  obtain ⟨es, _, vs, hp, hi⟩ := S.slots i _ h0
  refine ⟨_, es, .inl ⟨rfl, _, SqL.of hp⟩, ?_⟩
  refine h X hX H0 σ H S _ fun H0' rs Γ' us H' s ⟨d, ds, e1, e2, hl, k⟩ S' o => ?_
  subst e1
  obtain ⟨v, rfl, o1⟩ := ArAll.one o
  obtain ⟨es', e0', vs', hp', hi'⟩ := S'.slots i _ e2
  refine ⟨p, vs', v, rfl, rfl, hp', Nat.lt_of_le_of_lt (by rw [hi'.len]; exact hl) (by decide), ?_⟩
  have tk : Tk H' (upd H' p (.lst (vs' ++ [v]))) := fun a xs q => by
    rw [upd_ne fun z => by rw [z, hp'] at q; cases q]
    exact q
  exact k X hX H0' σ _ (S'.change e2 rfl rfl ⟨es', e0', _, upd_same, (IsAll.tk tk _ _ hi').app (IsAll.one (Is.tk tk _ _ o1))⟩) D (F.up s)
end

/-! ## defs -/
def Ar.sv : Ar → Sv
  | .dat d => .dat d
  | .lst ds => .shr ds
  | .nic ds => .nic ds
  | _ => .no
def startG (n : Nat) (as : List Ar) : List Sv := as.map Ar.sv ++ List.replicate (n - as.length) .no
/-- a def's result, from what its return gives -/
def RetIs (Γ : List Sv) (r r' : Ar) : Prop := (∃ d, r = .dat d ∧ r' = .dat d) ∨ (∃ ds, r = .nic ds ∧ r' = .nic ds) ∨ (∃ ds, r = .new ds ∧ r' = .new ds) ∨ ∃ (p : Addr) (j : Nat) (ds : List PyData), r = .raw (.ref p) ∧ Γ[j]? = some (.own p ds) ∧ r' = .new ds
theorem RetIs.ok {H H0' H' : Hp} {Γ : List Sv} {σ : L2.St} {v : V} {r r' : Ar} (h : RetIs Γ r r') (s : Same H H0') (S : Kn H0' Γ σ H') (o : ArOk H0' H' Γ v r) : RsOk H H' v r' := by
  rcases h with ⟨d, rfl, rfl⟩ | ⟨ds, rfl, rfl⟩ | ⟨ds, rfl, rfl⟩ | ⟨p, j, ds, rfl, e, rfl⟩
  · exact o
  · obtain ⟨p, vs, e, _, h1, i⟩ := o
    exact ⟨p, vs, e, h1, i⟩
  · obtain ⟨p, vs, e, h0, _, h1, i⟩ := o
    exact ⟨p, vs, e, Same.free s h0, h1, i⟩
  · obtain ⟨_, h0, vs, h1, i⟩ := S.slots j _ e
    exact ⟨p, vs, o, Same.free s h0, h1, i⟩
theorem start_kn {H : Hp} {N : List Str} {vs : List V} {as : List Ar} (h : AgAll H vs as) (hl : as.length ≤ N.length) : Kn H (startG N.length as) (L2.start N vs) H where
  len := by
    unfold L2.start startG
    have e := Paired.length h
    rw [List.length_append, List.length_append, List.length_map, List.length_map, List.length_replicate, List.length_replicate, e]
  base := Same.refl H
  slots := fun i s hi => by
    unfold startG at hi
    by_cases hlt : i < as.length
    · rw [List.getElem?_append_left (by simpa using hlt), List.getElem?_map, List.getElem?_eq_getElem hlt] at hi
      have key : ∀ {vs : List V} {as : List Ar} {i : Nat} {r : Ar}, AgAll H vs as → as[i]? = some r → ∃ v, vs[i]? = some v ∧ AgOk H v r := by
        intro vs as i r h
        induction h generalizing i with
        | nil => intro e; simp at e
        | cons h1 _ ih =>
          intro e
          cases i with
          | zero => cases e; exact ⟨_, rfl, h1⟩
          | succ i => exact ih e
      obtain ⟨v, hv, o⟩ := key h (List.getElem?_eq_getElem hlt)
      have hs : (L2.start N vs)[i]? = some (some v) := by
        unfold L2.start
        have hiv : i < vs.length := (List.getElem?_eq_some_iff.mp hv).1
        rw [List.getElem?_append_left (by simpa using hiv), List.getElem?_map, hv] <;> rfl
      have e : s = as[i].sv := (Option.some.inj hi).symm
      subst e
      rw [hs]
      generalize as[i] = r at o
      cases r with
      | dat d => exact ⟨v, rfl, o⟩
      | lst ds =>
        obtain ⟨p, us, rfl, hp, hi⟩ := o
        exact ⟨p, us, rfl, hp, hi⟩
      | raw _ => exact o.elim
      | new _ => exact o.elim
      | fz _ => exact o.elim
      | nic ds =>
        obtain ⟨p, us, rfl, hp, hi⟩ := o
        exact ⟨p, us, rfl, hp, hi⟩
    · rw [List.getElem?_append_right (by simpa using hlt), List.getElem?_replicate] at hi
      split at hi
      · cases hi; trivial
      · cases hi
  apart := fun i j si sj p hi hj pi pj => by
    have no : ∀ (m : Nat) (t : Sv), (startG N.length as)[m]? = some t → t.ptr = none := fun m t hm => by
      unfold startG at hm
      rcases List.mem_append.mp (List.mem_of_getElem? hm) with z | z
      · obtain ⟨r, _, e⟩ := List.mem_map.mp z
        subst e
        cases r <;> rfl
      · rw [(List.mem_replicate.mp z).2] <;> rfl
    rw [no i si hi] at pi
    cases pi
/-- a def of the text keeps its promise -/
theorem fn_ok {g : Gv} {x qual : Str} {st : Stmt} {f : Addr} {fd : FuncData} {N ps : List Str} {k : Nat} {ι : Type} {args : ι → List Ar} {pre : ι → Prop} {post : ι → Ar → Prop} (F : FunD g.K x qual (defArgs st) (defBody st) (defScope st) [] [] f fd) (Sc : FnScope N ps (defScope st))
    (hlen : ∀ i, (args i).length = ps.length) (hb : ∀ i, pre i → Sd ⟨g, N, defScope st, k, true, false⟩ (startG N.length (args i)) (defBody st) { ret := fun r Γ' => ∃ r', post i r' ∧ RetIs Γ' r r', nx := fun _ => post i (.dat .none) }) :
    FnOk g.P g.w g.K g.mg g.base CX0 (k + 1) f fd ps (spT args pre post) := by
  refine F.ok Sc (fun vs H Q E ⟨i, _, ag, _⟩ => by rw [Paired.length ag]; exact hlen i) fun cdv A outer s H vs Q E hr ⟨i, hp, ag, q⟩ => ?_
  have hle : (args i).length ≤ N.length := by
    have e := congrArg List.length Sc.pre
    rw [List.length_take] at e
    rw [hlen i]
    omega
  let X : Cx := (cxOf CX0 g.P g.w g.K g.mg g.base N qual (defScope st) f cdv A outer s H E).nox
  have hX : InC ⟨g, N, defScope st, k, true, false⟩ X := ⟨rfl, rfl, rfl, rfl, rfl, rfl, Sc.nd, rfl, rfl, hr, fun _ _ => rfl, (fun z => nomatch z), rfl⟩
  refine ⟨WSs X (defBody st), PSs.nox pss_ws, ?_⟩
  refine hb i hp X hX H (L2.start N vs) H (start_kn ag hle) _ ⟨fun H0' r v Γ σ H' s ⟨r', pr, ri⟩ S o => q r' v H' pr (s.trans S.base) (ri.ok s S o), fun H0' Γ σ H' s p S => q _ _ H' p (s.trans S.base) (.non), fun _ _ _ _ _ z => z.elim, fun _ _ _ _ _ z => z.elim⟩
end K83
set_option maxRecDepth 100000
set_option maxHeartbeats 4000000
namespace K83
open PySem PySem.Spec PyProof.Rows L2

/-! ## the things, as plain Lean -/
/-- a text of at most eight signs -/
abbrev Tx := {s : Str // s.length ≤ 8 ∧ PyData.strOk s = true}
def tNone : Tx := ⟨"none", by decide +kernel⟩
structure Nm where
  d : Int
  n : Int
  h : Tx
  deriving DecidableEq
structure Run where
  s : Tx
  a : Int
  b : Int
  deriving DecidableEq
inductive Deed where
  | move (f t : Tx) (rs : List Run)
  | bag (f t : Tx) (m : Int)
  | read (o : Nm) (rs : List Run)
  | count (p : Tx) (m : Int)
  | void (o : Nm)
  deriving DecidableEq
structure Page where
  nm : Nm
  deed : Deed
  deriving DecidableEq
structure Note where
  s : Tx
  k : Int
  deriving DecidableEq
structure Office where
  ws : List (Tx × Int)
  rds : List (Tx × Tx)
def nmK (n : Nm) : List Key := [.inl n.d, .inl n.n, .inr n.h.1]
def nmD (n : Nm) : PyData := .tuple [.int n.d, .int n.n, .str n.h.1]
def runD (r : Run) : PyData := .tuple [.str r.s.1, .int r.a, .int r.b]
def runsD (rs : List Run) : PyData := .tuple (rs.map runD)
def deedL : Deed → List PyData
  | .move f t rs => [.str "move", .str f.1, .str t.1, runsD rs]
  | .bag f t m => [.str "bag", .str f.1, .str t.1, .int m]
  | .read o rs => [.str "read", nmD o, runsD rs]
  | .count p m => [.str "count", .str p.1, .int m]
  | .void o => [.str "void", nmD o]
def word : Deed → Str
  | .move _ _ _ => "move"
  | .bag _ _ _ => "bag"
  | .read _ _ => "read"
  | .count _ _ => "count"
  | .void _ => "void"
def deedD (d : Deed) : PyData := .tuple (deedL d)
def pageD (p : Page) : PyData := .tuple [nmD p.nm, deedD p.deed]
def bookD (b : List Page) : PyData := .tuple (b.map pageD)
def noteD (n : Note) : PyData := .tuple [.str n.s.1, .int n.k]
def worthD (w : Tx × Int) : PyData := .tuple [.str w.1.1, .int w.2]
def roadD (w : Tx × Tx) : PyData := .tuple [.str w.1.1, .str w.2.1]
def officeD (o : Office) : PyData := .tuple [.tuple (o.ws.map worthD), .tuple (o.rds.map roadD)]
def namesD (l : List Nm) : PyData := .tuple (l.map nmD)
theorem deedL_word (d : Deed) : (deedL d)[0]? = some (.str (word d)) := by cases d <;> rfl

/-! ## == of them -/
theorem eqv_str (x y : Str) : PyData.eqv (.str x) (.str y) = decide (x = y) := by
  simp only [PyData.eqv]
  by_cases h : x = y
  · simp [h]
  · rw [decide_eq_false h]
    exact beq_eq_false_iff_ne.mpr h
theorem eqv_tx (x y : Tx) : PyData.eqv (.str x.1) (.str y.1) = decide (x = y) := by
  rw [eqv_str, Bool.eq_iff_iff, decide_eq_true_eq, decide_eq_true_eq]
  exact Subtype.ext_iff.symm
theorem eqv_int (x y : Int) : PyData.eqv (.int x) (.int y) = decide (x = y) := by
  simp only [PyData.eqv]
  by_cases h : x = y
  · simp [h]
  · rw [decide_eq_false h]
    exact beq_eq_false_iff_ne.mpr h
theorem eqv_nm (x y : Nm) : PyData.eqv (nmD x) (nmD y) = decide (x = y) := by
  obtain ⟨a, b, c⟩ := x
  obtain ⟨a', b', c'⟩ := y
  show PyData.eqvAll [.int a, .int b, .str c.1] [.int a', .int b', .str c'.1] = _
  simp only [PyData.eqvAll, eqv_int, eqv_tx, Bool.and_true]
  rw [Bool.eq_iff_iff]
  simp
theorem eqv_run (x y : Run) : PyData.eqv (runD x) (runD y) = decide (x = y) := by
  obtain ⟨a, b, c⟩ := x
  obtain ⟨a', b', c'⟩ := y
  show PyData.eqvAll [.str a.1, .int b, .int c] [.str a'.1, .int b', .int c'] = _
  simp only [PyData.eqvAll, eqv_int, eqv_tx, Bool.and_true]
  rw [Bool.eq_iff_iff]
  simp
theorem eqvAll_map {α : Type} [DecidableEq α] {f : α → PyData} (h : ∀ x y, PyData.eqv (f x) (f y) = decide (x = y)) : ∀ xs ys : List α, PyData.eqvAll (xs.map f) (ys.map f) = decide (xs = ys)
  | [], [] => by simp [PyData.eqvAll]
  | [], y :: ys => by simp [PyData.eqvAll]
  | x :: xs, [] => by simp [PyData.eqvAll]
  | x :: xs, y :: ys => by
    rw [List.map_cons, List.map_cons]
    simp only [PyData.eqvAll, h, eqvAll_map h xs ys]
    rw [Bool.eq_iff_iff]
    simp
theorem eqv_runs (x y : List Run) : PyData.eqv (runsD x) (runsD y) = decide (x = y) := by
  show PyData.eqvAll _ _ = _
  exact eqvAll_map eqv_run x y
theorem eqv_road (x y : Tx × Tx) : PyData.eqv (roadD x) (roadD y) = decide (x = y) := by
  obtain ⟨a, b⟩ := x
  obtain ⟨a', b'⟩ := y
  show PyData.eqvAll [.str a.1, .str b.1] [.str a'.1, .str b'.1] = _
  simp only [PyData.eqvAll, eqv_tx, Bool.and_true]
  rw [Bool.eq_iff_iff]
  simp
theorem word_ne (x y : Deed) (h : word x ≠ word y) : PyData.eqv (deedD x) (deedD y) = decide (x = y) := by
  have e1 : PyData.eqv (deedD x) (deedD y) = (PyData.eqv (.str (word x)) (.str (word y)) && PyData.eqvAll (deedL x).tail (deedL y).tail) := by
    show PyData.eqvAll (deedL x) (deedL y) = _
    cases x <;> cases y <;> rfl
  rw [e1, eqv_str, decide_eq_false h, Bool.false_and, decide_eq_false]
  intro z
  rw [z] at h
  exact h rfl
theorem eqv_deed (x y : Deed) : PyData.eqv (deedD x) (deedD y) = decide (x = y) := by
  by_cases h : word x = word y
  · have e1 : PyData.eqv (deedD x) (deedD y) = (PyData.eqv (.str (word x)) (.str (word y)) && PyData.eqvAll (deedL x).tail (deedL y).tail) := by
      show PyData.eqvAll (deedL x) (deedL y) = _
      cases x <;> cases y <;> rfl
    rw [e1, eqv_str, decide_eq_true h, Bool.true_and]
    cases x <;> cases y <;> first
      | (simp only [word] at h; exact absurd h (by decide +kernel))
      | (simp only [deedL, List.tail_cons, PyData.eqvAll, eqv_tx, eqv_int, eqv_nm, eqv_runs, Bool.and_true]
         rw [Bool.eq_iff_iff]
         simp)
  · exact word_ne x y h
theorem eqv_page (x y : Page) : PyData.eqv (pageD x) (pageD y) = decide (x = y) := by
  obtain ⟨a, b⟩ := x
  obtain ⟨a', b'⟩ := y
  show PyData.eqvAll [nmD a, deedD b] [nmD a', deedD b'] = _
  simp only [PyData.eqvAll, eqv_nm, eqv_deed, Bool.and_true]
  rw [Bool.eq_iff_iff]
  simp

/-! ## they may be compared -/
theorem lay_map {α : Type} {f : α → PyData} (h : ∀ x, (f x).canLay0 = true) : ∀ xs : List α, PyData.canLayAll0 (xs.map f) = true
  | [] => by simp [PyData.canLayAll0]
  | x :: xs => by simp [PyData.canLayAll0, h x, lay_map h xs]
theorem depth_map {α : Type} {f : α → PyData} {n : Nat} (h : ∀ x, (f x).depth ≤ n) : ∀ xs : List α, PyData.depthAll (xs.map f) ≤ n
  | [] => by simp [PyData.depthAll]
  | x :: xs => by
    have h1 := h x
    have h2 := depth_map h xs
    simp only [List.map_cons, PyData.depthAll]
    omega
/-- laid, and no deeper than n -/
def Lay (n : Nat) (d : PyData) : Prop := d.canLay0 = true ∧ d.depth ≤ n
theorem Lay.shaped {n : Nat} {d : PyData} (h : Lay n d) (hn : n ≤ 64 := by decide) : SeqAt.shaped d = true := by
  show (d.canLay0 && decide (d.depth ≤ 64)) = true
  rw [h.1, decide_eq_true (Nat.le_trans h.2 hn)] <;> rfl
theorem lay_tuple {n : Nat} {ds : List PyData} (h : PyData.canLayAll0 ds = true) (h2 : PyData.depthAll ds ≤ n) : Lay (n + 1) (.tuple ds) := by
  refine ⟨by simp only [PyData.canLay0]; exact h, ?_⟩
  simp only [PyData.depth]
  omega
theorem lay_tuple_map {α : Type} {f : α → PyData} {n : Nat} (h : ∀ x, Lay n (f x)) (xs : List α) : Lay (n + 1) (.tuple (xs.map f)) := lay_tuple (lay_map (fun x => (h x).1) xs) (depth_map (fun x => (h x).2) xs)
theorem lay_nm (x : Nm) : Lay 1 (nmD x) := by simp [Lay, nmD, PyData.canLay0, PyData.canLayAll0, PyData.depth, PyData.depthAll, x.h.2.2]
theorem lay_run (x : Run) : Lay 1 (runD x) := by simp [Lay, runD, PyData.canLay0, PyData.canLayAll0, PyData.depth, PyData.depthAll, x.s.2.2]
theorem lay_runs (x : List Run) : Lay 2 (runsD x) := lay_tuple_map lay_run x
theorem lay_road (x : Tx × Tx) : Lay 1 (roadD x) := by simp [Lay, roadD, PyData.canLay0, PyData.canLayAll0, PyData.depth, PyData.depthAll, x.1.2.2, x.2.2.2]
theorem lay_roads (x : List (Tx × Tx)) : Lay 2 (.tuple (x.map roadD)) := lay_tuple_map lay_road x
theorem lay_note (x : Note) : Lay 1 (noteD x) := by simp [Lay, noteD, PyData.canLay0, PyData.canLayAll0, PyData.depth, PyData.depthAll, x.s.2.2]
theorem ok_words : PyData.strOk "move" = true ∧ PyData.strOk "bag" = true ∧ PyData.strOk "read" = true ∧ PyData.strOk "count" = true ∧ PyData.strOk "void" = true := by decide +kernel
theorem lay_deed (x : Deed) : Lay 3 (deedD x) := by
  obtain ⟨w1, w2, w3, w4, w5⟩ := ok_words
  cases x with
  | move f t rs =>
    obtain ⟨h1, h2⟩ := lay_runs rs
    refine lay_tuple ?_ ?_
    · simp [deedL, PyData.canLayAll0, PyData.canLay0, h1, w1, f.2.2, t.2.2]
    · simp only [deedL, PyData.depthAll, PyData.depth]; omega
  | bag f t m => exact lay_tuple (by simp [deedL, PyData.canLayAll0, PyData.canLay0, w2, f.2.2, t.2.2]) (by simp [deedL, PyData.depthAll, PyData.depth])
  | read o rs =>
    obtain ⟨h1, h2⟩ := lay_runs rs
    obtain ⟨h3, h4⟩ := lay_nm o
    refine lay_tuple ?_ ?_
    · simp [deedL, PyData.canLayAll0, PyData.canLay0, h1, h3, w3]
    · simp only [deedL, PyData.depthAll, PyData.depth]; omega
  | count p m => exact lay_tuple (by simp [deedL, PyData.canLayAll0, PyData.canLay0, w4, p.2.2]) (by simp [deedL, PyData.depthAll, PyData.depth])
  | void o =>
    obtain ⟨h3, h4⟩ := lay_nm o
    refine lay_tuple ?_ ?_
    · simp [deedL, PyData.canLayAll0, PyData.canLay0, h3, w5]
    · simp only [deedL, PyData.depthAll, PyData.depth]; omega
theorem lay_page (x : Page) : Lay 4 (pageD x) := by
  obtain ⟨h1, h2⟩ := lay_nm x.nm
  obtain ⟨h3, h4⟩ := lay_deed x.deed
  refine lay_tuple ?_ ?_
  · simp [PyData.canLayAll0, h1, h3]
  · simp only [PyData.depthAll]; omega
theorem lay_names (x : List Nm) : Lay 2 (namesD x) := lay_tuple_map lay_nm x
theorem lay_strs (x : List Tx) : Lay 1 (.tuple (x.map fun y => PyData.str y.1)) := lay_tuple_map (n := 0) (fun y => by simp [Lay, PyData.canLay0, PyData.depth, y.2.2]) x
/-- x in them -/
theorem any_map {α : Type} [DecidableEq α] {f : α → PyData} (h : ∀ x y, PyData.eqv (f x) (f y) = decide (x = y)) (xs : List α) (y : α) : (xs.map f).any (fun z => PyData.eqv z (f y)) = decide (y ∈ xs) := by
  rw [List.any_map, Bool.eq_iff_iff]
  simp only [List.any_eq_true, Function.comp, decide_eq_true_eq, h]
  constructor
  · rintro ⟨x, hx, rfl⟩; exact hx
  · intro hy; exact ⟨y, hy, rfl⟩

/-! ## what holds of what is asked -/
def smallL : List Nat := ("abcdefghijklmnopqrstuvwxyz" : Str).cps.toList
def Word (s : Tx) : Prop := 1 ≤ s.1.length ∧ ∀ n ∈ s.1.cps.toList, n ∈ smallL
def NmOk (n : Nm) : Prop := 0 ≤ n.d ∧ n.d ≤ 99999 ∧ 0 ≤ n.n ∧ n.n ≤ 999 ∧ Word n.h
def RunOk (r : Run) : Prop := Word r.s ∧ 0 ≤ r.a ∧ r.a ≤ 999999999 ∧ 1 ≤ r.b ∧ r.b ≤ 1000000000 ∧ r.a < r.b
def Ahead (r q : Run) : Prop := r.s.1.cps.toList < q.s.1.cps.toList ∨ (r.s = q.s ∧ r.b < q.a)
def RunsOk (rs : List Run) : Prop := rs ≠ [] ∧ rs.length ≤ 64 ∧ (∀ r ∈ rs, RunOk r) ∧ ∀ (i : Nat) (r q : Run), rs[i]? = some r → rs[i + 1]? = some q → Ahead r q
def worthOf : List (Tx × Int) → Tx → Int
  | [], _ => 0
  | w :: ws, s => if w.1 = s then w.2 else worthOf ws s
def Named (o : Office) (rs : List Run) : Prop := RunsOk rs ∧ ∀ r ∈ rs, 0 < worthOf o.ws r.s
def DeedOk (o : Office) : Deed → Prop
  | .move f t rs => (f, t) ∈ o.rds ∧ Named o rs
  | .bag f t m => (f, t) ∈ o.rds ∧ f ≠ tNone ∧ 1 ≤ m ∧ m ≤ 1000000000
  | .read n rs => NmOk n ∧ Named o rs
  | .count p m => (∃ f, (f, p) ∈ o.rds) ∧ p ≠ tNone ∧ 0 ≤ m ∧ m ≤ 1000000000000
  | .void n => NmOk n
def PageOk (o : Office) (p : Page) : Prop := NmOk p.nm ∧ DeedOk o p.deed
def OffOk (o : Office) : Prop := o.ws.length ≤ 100 ∧ o.rds.length ≤ 30
/-- small enough -/
def DeedSm : Deed → Prop
  | .move _ _ rs => rs.length ≤ 1000
  | .read _ rs => rs.length ≤ 1000
  | _ => True
def BookSm (b : List Page) : Prop := b.length ≤ 1000 ∧ ∀ p ∈ b, DeedSm p.deed
end K83
set_option maxRecDepth 100000
set_option maxHeartbeats 4000000
namespace K83
open PySem PySem.Spec PyProof.Rows L2
def topS (i : Nat) : Stmt := PySem.Challenge.pw_pressnotes_k83_whole_elder_views.main.body.getD i (.Pass ⟨0, 0, 0, 0⟩)
/-- a def of the text, as it stands behind the top -/
def DefAt (g : Gv) (x : Str) (st : Stmt) (ps : List Str) : Prop := ∃ f fd, FunD g.K x x (defArgs st) (defBody st) (defScope st) [] [] f fd ∧ g.mg x = some (.ref f) ∧ Binds g.K fd ps []
/-- a def that changes nothing, its one result told -/
abbrev spD {ι : Type} (args : ι → List Ar) (pre : ι → Prop) (out : ι → Ar) : Sp := spT args pre fun i r => r = out i
theorem fn_def {g : Gv} {x : Str} {st : Stmt} {N ps : List Str} {k : Nat} {ι : Type} {args : ι → List Ar} {pre : ι → Prop} {post : ι → Ar → Prop} (D : DefAt g x st ps) (Sc : FnScope N ps (defScope st))
    (hlen : ∀ i, (args i).length = ps.length) (hb : ∀ i, pre i → Sd ⟨g, N, defScope st, k, true, false⟩ (startG N.length (args i)) (defBody st) { ret := fun r Γ' => ∃ r', post i r' ∧ RetIs Γ' r r', nx := fun _ => post i (.dat .none) }) :
    Fn g (k + 1) x (spT args pre post) := by
  obtain ⟨f, fd, F, gm, bd⟩ := D
  exact ⟨f, fd, ps, fn_ok F Sc hlen hb, gm, F.kp, bd⟩
theorem w_callD {c : Ct} {Γ : List Sv} {e : Expr} {es : List Expr} {pos : Pos} {Φ : Ar → List Sv → Prop} {ι : Type} {k : Nat} {x : Str} {p : Pos} {args : ι → List Ar} {pre : ι → Prop} {out : ι → Ar} (F : Fn c.g k x (spD args pre out)) (h : WA c Γ (e :: es) fun rs Γ1 => ∃ i, AgIs Γ1 rs (args i) ∧ pre i ∧ Φ (out i) Γ1)
    (hk : k ≤ c.k := by exact Nat.le_of_ble_eq_true rfl) (hg : c.sc.names.lookup x = some .globalImplicit := by rfl) (hdb : (x == ("__debug__" : Str)) = false := by decide)
    (he : ∀ env : Env, starEach (e :: es) env = (false, eval e env) :: starEach es env := by intro _; rfl) (hpl : ∀ env : Env, (backTo pos (starEach es env)).any (·.1) = false := by intro _; rfl) : W c Γ (.Call (.Name x p) (e :: es) [] pos) Φ :=
  w_call F (fun X hX H0 σ H S Q q => h X hX H0 σ H S Q fun H0' rs Γ' vs H' s ⟨i, a, p, f⟩ => q H0' rs Γ' vs H' s ⟨i, a, p, fun r e => e ▸ f⟩) hk hg hdb he hpl
/-- what the top leaves -/
structure GF (g : Gv) : Prop where
  c_SMALL : GStr g "SMALL" "abcdefghijklmnopqrstuvwxyz"
  c_LETTERS : GStr g "LETTERS" "abcdefghijklmnopqrstuvwxyz"
  c_NOWHERE : GStr g "NOWHERE" "none"
  c_MOST_LETTERS_offices : GInt g "MOST_LETTERS_offices" 8
  c_MOST_LETTERS_runs : GInt g "MOST_LETTERS_runs" 8
  c_MOST_NUMBER_runs : GInt g "MOST_NUMBER_runs" 999999999
  c_MOST_DAY : GInt g "MOST_DAY" 99999
  c_MOST_NUMBER_pages : GInt g "MOST_NUMBER_pages" 999
  c_MOST_IN_BAG : GInt g "MOST_IN_BAG" 1000000000
  c_MOST_COUNTED : GInt g "MOST_COUNTED" 1000000000000
  b_len : GFree g "len"
  b_isinstance : GFree g "isinstance"
  b_all : GFree g "all"
  b_zip : GFree g "zip"
  b_sum : GFree g "sum"
  b_sorted : GFree g "sorted"
  b_tuple : GFree g "tuple"
  b_dict : GFree g "dict"
  b_set : GFree g "set"
  b_range : GFree g "range"
  b_list : GFree g "list"
  b_int : GFree g "int"
  b_repr : GFree g "repr"
  b_bool : GFree g "bool"
  b_str : GFree g "str"
  d_is_word : DefAt g "is_word" (topS 10) ["thing"]
  d_is_at_least : DefAt g "is_at_least" (topS 11) ["thing", "least"]
  d_is_bounded : DefAt g "is_bounded" (topS 12) ["thing", "least", "most"]
  d_is_pair : DefAt g "is_pair" (topS 13) ["thing"]
  d_places_of : DefAt g "places_of" (topS 14) ["office"]
  d_worth_of : DefAt g "worth_of" (topS 15) ["office", "series"]
  d_is_number : DefAt g "is_number" (topS 20) ["thing", "least", "most"]
  d_is_series : DefAt g "is_series" (topS 21) ["thing"]
  d_is_run : DefAt g "is_run" (topS 22) ["thing"]
  d_goes_ahead : DefAt g "goes_ahead" (topS 23) ["one", "other"]
  d_is_runs : DefAt g "is_runs" (topS 24) ["thing"]
  d_many_in : DefAt g "many_in" (topS 25) ["runs"]
  d_holds : DefAt g "holds" (topS 26) ["runs", "note"]
  d_place_of : DefAt g "place_of" (topS 27) ["runs", "note"]
  d_is_name : DefAt g "is_name" (topS 33) ["thing"]
  d_are_named : DefAt g "are_named" (topS 34) ["office", "thing"]
  d_is_move : DefAt g "is_move" (topS 35) ["office", "deed"]
  d_is_bag : DefAt g "is_bag" (topS 36) ["office", "deed"]
  d_is_read : DefAt g "is_read" (topS 37) ["office", "deed"]
  d_is_count : DefAt g "is_count" (topS 38) ["office", "deed"]
  d_is_void : DefAt g "is_void" (topS 39) ["office", "deed"]
  d_is_page : DefAt g "is_page" (topS 41) ["office", "thing"]
  d_book_of : DefAt g "book_of" (topS 43) ["pages"]
  d_voided : DefAt g "voided" (topS 44) ["book"]
  d_bags_in : DefAt g "bags_in" (topS 45) ["book"]
  d_counted : DefAt g "counted" (topS 46) ["book"]
  d_waiting : DefAt g "waiting" (topS 47) ["book"]
  d_until : DefAt g "until" (topS 48) ["book", "day"]
  d_roads_taken : DefAt g "roads_taken" (topS 52) ["book"]
  d_sign_at : DefAt g "sign_at" (topS 53) ["deed", "place"]
  d_balance : DefAt g "balance" (topS 54) ["book", "place"]
  d_counted_pages : DefAt g "counted_pages" (topS 56) ["book"]
  d_brings : DefAt g "brings" (topS 57) ["deed", "place"]
  d_offs : DefAt g "offs" (topS 58) ["book", "place"]
  d_told_moves : DefAt g "told_moves" (topS 60) ["book"]
  d_steps : DefAt g "steps" (topS 61) ["book", "note"]
  d_told_place : DefAt g "told_place" (topS 62) ["book", "note"]
end K83
set_option maxRecDepth 100000
set_option maxHeartbeats 4000000
namespace K83
open PySem PySem.Spec PyProof.Rows L2

/-! ## the same rules where the answer is told -/
section
variable {c : Ct} {Γ : List Sv} {a b e t : Expr} {rest : List Expr} {sts body els : List Stmt} {pos : Pos} {Φ : Ar → List Sv → Prop} {ΦT : Bool → List Sv → Prop} {po : Po}
theorem ite_t {k : Bool} {A B : Prop} (e : k = true) (h : A) : if k = true then A else B := by rw [if_pos e]; exact h
theorem ite_f {k : Bool} {A B : Prop} (e : k = false) (h : B) : if k = true then A else B := by rw [if_neg (by rw [e]; decide)]; exact h
theorem ite_b {k : Bool} {A B : Prop} (h1 : k = true → A) (h2 : k = false → B) : if k = true then A else B := by
  cases k with
  | true => exact ite_t rfl (h1 rfl)
  | false => exact ite_f rfl (h2 rfl)
theorem ww_orF (h : WT c Γ a fun k Γ1 => k = false ∧ WW c Γ1 (.BoolOp .Or (b :: rest) pos) ΦT) : WW c Γ (.BoolOp .Or (a :: b :: rest) pos) ΦT := ww_or (WT.imp h fun k Γ1 h => ite_f h.1 h.2)
theorem ww_orT (h : WT c Γ a fun k Γ1 => k = true ∧ ΦT true Γ1) : WW c Γ (.BoolOp .Or (a :: b :: rest) pos) ΦT := ww_or (WT.imp h fun k Γ1 h => ite_t h.1 h.2)
theorem ww_andF (h : WT c Γ a fun k Γ1 => k = false ∧ ΦT false Γ1) : WW c Γ (.BoolOp .And (a :: b :: rest) pos) ΦT := ww_and (WT.imp h fun k Γ1 h => ite_f h.1 h.2)
theorem ww_andT (h : WT c Γ a fun k Γ1 => k = true ∧ WW c Γ1 (.BoolOp .And (b :: rest) pos) ΦT) : WW c Γ (.BoolOp .And (a :: b :: rest) pos) ΦT := ww_and (WT.imp h fun k Γ1 h => ite_t h.1 h.2)
theorem ww_orB (h : WT c Γ a fun k Γ1 => (k = true → ΦT true Γ1) ∧ (k = false → WW c Γ1 (.BoolOp .Or (b :: rest) pos) ΦT)) : WW c Γ (.BoolOp .Or (a :: b :: rest) pos) ΦT := ww_or (WT.imp h fun k Γ1 h => ite_b h.1 h.2)
theorem ww_andB (h : WT c Γ a fun k Γ1 => (k = true → WW c Γ1 (.BoolOp .And (b :: rest) pos) ΦT) ∧ (k = false → ΦT false Γ1)) : WW c Γ (.BoolOp .And (a :: b :: rest) pos) ΦT := ww_and (WT.imp h fun k Γ1 h => ite_b h.1 h.2)
theorem w_ifT (h : WT c Γ t fun k Γ1 => k = true ∧ W c Γ1 a Φ) : W c Γ (.IfExp t a b pos) Φ := w_if (WT.imp h fun k Γ1 h => ite_t h.1 h.2)
theorem w_ifF (h : WT c Γ t fun k Γ1 => k = false ∧ W c Γ1 b Φ) : W c Γ (.IfExp t a b pos) Φ := w_if (WT.imp h fun k Γ1 h => ite_f h.1 h.2)
theorem w_ifB (h : WT c Γ t fun k Γ1 => (k = true → W c Γ1 a Φ) ∧ (k = false → W c Γ1 b Φ)) : W c Γ (.IfExp t a b pos) Φ := w_if (WT.imp h fun k Γ1 h => ite_b h.1 h.2)
/-- if, its test false: the rest -/
theorem sd_ifF (h : WT c Γ t fun k Γ1 => k = false ∧ Sd c Γ1 sts po) : Sd c Γ (.If t body [] pos :: sts) po := sd_ifx (WT.imp h fun k Γ1 h => ite_f h.1 h.2)
/-- if, its test true, a block that never comes to its end -/
theorem sd_ifT (h : WT c Γ t fun k Γ1 => k = true ∧ Sd c Γ1 body { po with nx := fun _ => False }) : Sd c Γ (.If t body [] pos :: sts) po := sd_ifx (WT.imp h fun k Γ1 h => ite_t h.1 h.2)
theorem sd_ifB (h : WT c Γ t fun k Γ1 => (k = true → Sd c Γ1 body { po with nx := fun _ => False }) ∧ (k = false → Sd c Γ1 sts po)) : Sd c Γ (.If t body [] pos :: sts) po := sd_ifx (WT.imp h fun k Γ1 h => ite_b h.1 h.2)
theorem sd_ifM (M : List Sv → Prop) (h : WT c Γ t fun k Γ1 => (k = true → Sd c Γ1 body { po with nx := M }) ∧ (k = false → Sd c Γ1 els { po with nx := M })) (hr : ∀ Γ', M Γ' → Sd c Γ' sts po) : Sd c Γ (.If t body els pos :: sts) po := sd_if M (WT.imp h fun k Γ1 h => ite_b h.1 h.2) hr
/-- and, or as values -/
theorem w_andT (h1 : Pu c Γ a (.bool true)) (h2 : W c Γ (.BoolOp .And (b :: rest) pos) Φ) : W c Γ (.BoolOp .And (a :: b :: rest) pos) Φ := fun X hX H0 σ H S Q q =>
  (pe_and pe_we pe_we).we (h1 X hX H0 σ H S _ fun H0' r Γ' v H' s ⟨e1, e2⟩ S' o => by
    subst e1; subst e2
    refine ⟨true, Is.blInv o, ?_⟩
    rw [if_pos rfl]
    exact h2 X hX H0' σ H' S' Q fun H0'' r Γ'' v H'' s' => q H0'' r Γ'' v H'' (s.trans s'))
theorem w_andF (h1 : Pu c Γ a (.bool false)) (h2 : Φ (.dat (.bool false)) Γ) : W c Γ (.BoolOp .And (a :: b :: rest) pos) Φ := fun X hX H0 σ H S Q q =>
  (pe_and pe_we pe_we).we (h1 X hX H0 σ H S _ fun H0' r Γ' v H' s ⟨e1, e2⟩ S' o => by
    subst e1; subst e2
    refine ⟨false, Is.blInv o, ?_⟩
    rw [if_neg Bool.false_ne_true]
    exact q H0' _ _ (.bl false) H' s h2 S' (.bl _))
theorem w_orT (h1 : Pu c Γ a (.bool true)) (h2 : Φ (.dat (.bool true)) Γ) : W c Γ (.BoolOp .Or (a :: b :: rest) pos) Φ := fun X hX H0 σ H S Q q =>
  (pe_or pe_we pe_we).we (h1 X hX H0 σ H S _ fun H0' r Γ' v H' s ⟨e1, e2⟩ S' o => by
    subst e1; subst e2
    refine ⟨true, Is.blInv o, ?_⟩
    rw [if_pos rfl]
    exact q H0' _ _ (.bl true) H' s h2 S' (.bl _))
theorem w_orF (h1 : Pu c Γ a (.bool false)) (h2 : W c Γ (.BoolOp .Or (b :: rest) pos) Φ) : W c Γ (.BoolOp .Or (a :: b :: rest) pos) Φ := fun X hX H0 σ H S Q q =>
  (pe_or pe_we pe_we).we (h1 X hX H0 σ H S _ fun H0' r Γ' v H' s ⟨e1, e2⟩ S' o => by
    subst e1; subst e2
    refine ⟨false, Is.blInv o, ?_⟩
    rw [if_neg Bool.false_ne_true]
    exact h2 X hX H0' σ H' S' Q fun H0'' r Γ'' v H'' s' => q H0'' r Γ'' v H'' (s.trans s'))
end

/-! ## comprehensions that change nothing -/
theorem wipeG_set {Γ : List Sv} {i : Nat} {o : Sv} : ∀ {vs : List Nat}, i ∈ vs → wipeG (Γ.set i o) vs = wipeG Γ vs
  | [], h => absurd h (by simp)
  | v :: vs, h => by
    show (wipeG (Γ.set i o) vs).set v .no = (wipeG Γ vs).set v .no
    by_cases e : i ∈ vs
    · rw [wipeG_set e]
    · have ev : i = v := by
        rcases List.mem_cons.mp h with z | z
        · exact z
        · exact absurd z e
      subst ev
      have key : ∀ (us : List Nat), i ∉ us → wipeG (Γ.set i o) us = (wipeG Γ us).set i o := by
        intro us
        induction us with
        | nil => intro _; rfl
        | cons u us ih =>
          intro hu
          have hu' : i ≠ u ∧ i ∉ us := by simpa using hu
          show (wipeG (Γ.set i o) us).set u .no = ((wipeG Γ us).set u .no).set i o
          rw [ih hu'.2, List.set_comm _ _ hu'.1]
      rw [key vs e, List.set_set]
theorem wipeG_many {vs : List Nat} : ∀ {is : List Nat} {ds : List PyData} {Γ : List Sv}, (∀ i ∈ is, i ∈ vs) → wipeG (putMany is ds Γ) vs = wipeG Γ vs
  | [], _, _, _ => rfl
  | _ :: _, [], _, _ => rfl
  | i :: is, d :: ds, Γ, h => by
    show wipeG (putMany is ds (Γ.set i (.dat d))) vs = _
    rw [wipeG_many fun j hj => h j (List.mem_cons_of_mem _ hj)]
    exact wipeG_set (h i List.mem_cons_self)
theorem wipeG_put {vs : List Nat} {t : Tg} {d : PyData} {Γ : List Sv} (h : ∀ i ∈ t.ix, i ∈ vs) : wipeG (t.put d Γ) vs = wipeG Γ vs := by
  cases t with
  | one i => exact wipeG_set (h i (List.mem_singleton.mpr rfl))
  | many is =>
    cases d with
    | tuple ds => exact wipeG_many h
    | _ => rfl
theorem wipeG_none {Γ : List Sv} {v : Nat} : ∀ {vs : List Nat}, v ∈ vs → (wipeG Γ vs).set v .no = wipeG Γ vs
  | [], h => absurd h (by simp)
  | u :: us, h => by
    show ((wipeG Γ us).set u .no).set v .no = (wipeG Γ us).set u .no
    by_cases e : v = u
    · subst e
      rw [List.set_set]
    · have hv : v ∈ us := by
        rcases List.mem_cons.mp h with z | z
        · exact absurd z e
        · exact z
      rw [List.set_comm _ _ (Ne.symm e), wipeG_none hv]
theorem wipeG_twice {Γ : List Sv} {vs : List Nat} : wipeG (wipeG Γ vs) vs = wipeG Γ vs := by
  have fix : ∀ {τ : List Sv} {us : List Nat}, (∀ v ∈ us, τ.set v .no = τ) → wipeG τ us = τ := by
    intro τ us
    induction us with
    | nil => intro _; rfl
    | cons v us ih =>
      intro h
      show (wipeG τ us).set v .no = τ
      rw [ih fun u hu => h u (List.mem_cons_of_mem _ hu)]
      exact h v List.mem_cons_self
  exact fix fun _ hv => wipeG_none hv
theorem filter_snoc {β : Type} (p : β → Bool) {bs : List β} {k : Nat} {b : β} (h : bs[k]? = some b) : (bs.take (k + 1)).filter p = (bs.take k).filter p ++ (if p b = true then [b] else []) := by
  rw [List.take_succ, h, List.filter_append]
  show _ ++ List.filter p [b] = _
  by_cases e : p b = true
  · rw [if_pos e, List.filter_cons_of_pos e] <;> rfl
  · rw [if_neg e, List.filter_cons_of_neg e] <;> rfl
section
variable {c : Ct} {Γ : List Sv} {pos : Pos} {tg iter elt e : Expr} {ifs : List Expr} {scope : Scope} {own : List (Str × Nat)} {t : Tg} {Φ : Ar → List Sv → Prop}
/-- what a comprehension owes that changes nothing: the items f b, the tests p b, the made g b -/
theorem lcP {β : Type} {bs : List β} {f g : β → PyData} {p : β → Bool} (hlen : bs.length ≤ 100000)
    (hb : ∀ b ∈ bs, t.fits (f b) ∧ WIfs (c.blk scope) (t.put (f b) (wipeG Γ (own.map (·.2)))) ifs fun k Γ' => k = p b ∧ (p b = true → W (c.blk scope) Γ' elt fun r Γ'' => r = .dat (g b) ∧ wipeG Γ'' (own.map (·.2)) = wipeG Γ (own.map (·.2))) ∧ wipeG Γ' (own.map (·.2)) = wipeG Γ (own.map (·.2)))
    (h : Φ (.new ((bs.filter p).map g)) (wipeG Γ (own.map (·.2)))) : LcJ c scope t (own.map (·.2)) ifs elt (bs.map f) Γ Φ := by
  refine ⟨fun k acc Γ' => acc = ((bs.take k).filter p).map g ∧ wipeG Γ' (own.map (·.2)) = wipeG Γ (own.map (·.2)), by rw [List.length_map]; exact hlen, ⟨rfl, rfl⟩, fun k acc Γ' h => by rw [h.2], fun k d acc Γk hk hj => ?_, fun acc Γ' hj => ?_⟩
  · rw [List.getElem?_map] at hk
    obtain ⟨b, eb, ed⟩ := Option.map_eq_some_iff.mp hk
    subst ed
    obtain ⟨h1, h2⟩ := hb b (List.mem_of_getElem? eb)
    obtain ⟨e1, e2⟩ := hj
    rw [e2]
    refine ⟨h1, ?_⟩
    have key : ∀ k' Γ', (k' = p b ∧ (p b = true → W (c.blk scope) Γ' elt fun r Γ'' => r = .dat (g b) ∧ wipeG Γ'' (own.map (·.2)) = wipeG Γ (own.map (·.2))) ∧ wipeG Γ' (own.map (·.2)) = wipeG Γ (own.map (·.2))) →
        (if k' = true then W (c.blk scope) Γ' elt fun r Γ'' => ∃ e, r = .dat e ∧ (acc ++ [e] = ((bs.take (k + 1)).filter p).map g ∧ wipeG Γ'' (own.map (·.2)) = wipeG Γ (own.map (·.2))) else (acc = ((bs.take (k + 1)).filter p).map g ∧ wipeG Γ' (own.map (·.2)) = wipeG Γ (own.map (·.2)))) := by
      intro k' Γ' ⟨z1, z2, z3⟩
      subst z1
      refine ite_b (fun hp => W.imp (z2 hp) fun r Γ'' ⟨r1, r2⟩ => ⟨_, r1, ?_, r2⟩) fun hp => ⟨?_, z3⟩
      · rw [filter_snoc p eb, if_pos hp, e1, List.map_append] <;> rfl
      · rw [filter_snoc p eb, if_neg (by rw [hp]; decide), e1, List.append_nil]
    revert h2
    unfold WIfs
    cases ifs with
    | nil => exact fun h2 => key _ _ h2
    | cons e1 es => exact fun h2 => WT.imp h2 key
  · obtain ⟨e1, e2⟩ := hj
    rw [e2, e1, List.length_map, List.take_length]
    exact h
/-- none of the tests -/
theorem lcM {β : Type} {bs : List β} {f g : β → PyData} (hlen : bs.length ≤ 100000)
    (hb : ∀ b ∈ bs, t.fits (f b) ∧ W (c.blk scope) (t.put (f b) (wipeG Γ (own.map (·.2)))) elt fun r Γ'' => r = .dat (g b) ∧ wipeG Γ'' (own.map (·.2)) = wipeG Γ (own.map (·.2)))
    (hin : ∀ i ∈ t.ix, i ∈ own.map (·.2)) (h : Φ (.new (bs.map g)) (wipeG Γ (own.map (·.2)))) : LcJ c scope t (own.map (·.2)) [] elt (bs.map f) Γ Φ :=
  lcP (p := fun _ => true) hlen (fun b hm => ⟨(hb b hm).1, rfl, fun _ => (hb b hm).2, by rw [wipeG_put hin]; exact wipeG_twice⟩) (by rw [List.filter_eq_self.mpr fun _ _ => rfl]; exact h)
/-- all, sum over what a comprehension made -/
theorem c_allM {α : Type} : DCall c (.builtin "all") (fun rs Γ res => ∃ (r : Ar) (l : List α) (p : α → Bool), rs = [r] ∧ RdL Γ r (l.map fun b => PyData.bool (p b)) ∧ res = .dat (.bool (l.all p))) := ⟨fun X hX => by
  obtain ⟨r, hr, k⟩ := c_all.ok X hX
  refine ⟨r, hr, fun H0 H Γ σ rs vs res S o ⟨r, l, p, e1, h, e2⟩ Q q => k H0 H Γ σ rs vs res S o ⟨r, l.map p, e1, ?_, ?_⟩ Q q⟩
  · rw [List.map_map]; exact h
  · rw [e2, List.all_map] <;> rfl⟩
theorem c_sumM {α : Type} : DCall c (.builtin "sum") (fun rs Γ res => ∃ (r : Ar) (l : List α) (p : α → Int), rs = [r] ∧ RdL Γ r (l.map fun b => PyData.int (p b)) ∧ res = .dat (.int (l.map p).sum)) := ⟨fun X hX => by
  obtain ⟨r, hr, k⟩ := c_sum.ok X hX
  refine ⟨r, hr, fun H0 H Γ σ rs vs res S o ⟨r, l, p, e1, h, e2⟩ Q q => k H0 H Γ σ rs vs res S o ⟨r, l.map p, e1, ?_, e2⟩ Q q⟩
  rw [List.map_map]; exact h⟩
end
end K83
set_option maxRecDepth 100000
set_option maxHeartbeats 4000000
namespace K83
open PySem PySem.Spec PyProof.Rows L2

/-! ## slices -/
def cutD (ds : List PyData) (lo hi : Option Int) : List PyData := (ds.drop (HT.sIx ds.length 0 lo)).take (HT.sIx ds.length ds.length hi - HT.sIx ds.length 0 lo)
theorem IsAll.cut {H : Hp} {vs : List V} {ds : List PyData} (lo hi : Option Int) (h : IsAll H vs ds) : IsAll H (cutV vs lo hi) (cutD ds lo hi) := by
  unfold cutV cutD
  rw [h.len]
  exact (h.drop _).take _
theorem cutD_hi (ds : List PyData) (n : Nat) : cutD ds none (some (n : Int)) = ds.take n := by
  unfold cutD
  rw [HT.sIx_none, HT.sIx_nat, List.drop_zero, Nat.sub_zero]
  by_cases h : n ≤ ds.length
  · rw [Nat.min_eq_left h]
  · rw [Nat.min_eq_right (by omega), List.take_length, List.take_of_length_le (by omega)]
theorem cutD_lo (ds : List PyData) (n : Nat) : cutD ds (some (n : Int)) none = ds.drop n := by
  unfold cutD
  rw [HT.sIx_none, HT.sIx_nat]
  by_cases h : n ≤ ds.length
  · rw [Nat.min_eq_left h]
    exact List.take_of_length_le (by rw [List.length_drop]; exact Nat.le_refl _)
  · rw [Nat.min_eq_right (by omega), List.drop_length, List.drop_of_length_le (by omega), List.take_nil]
theorem cutD_whole {ds : List PyData} {lo hi : Option Int} (h : HT.sIx ds.length 0 lo = 0 ∧ HT.sIx ds.length ds.length hi = ds.length) : cutD ds lo hi = ds := by
  unfold cutD
  rw [h.1, h.2, List.drop_zero, Nat.sub_zero, List.take_length]
section
variable {c : Ct} {Γ : List Sv} {a b e : Expr} {es : List Expr} {pos p2 : Pos} {Φ : Ar → List Sv → Prop}
theorem slice_fin {X : Cx} {H0 H : Hp} {σ : L2.St} {r : Ar} {v : V} {lo hi : Option Int} {ds : List PyData} {Q : VK} (S : Kn H0 Γ σ H) (o : ArOk H0 H Γ v r)
    (h : (r = .dat (.tuple ds) ∧ Φ (.dat (.tuple (cutD ds lo hi))) Γ) ∨ (RdL Γ r ds ∧ Φ (.new (cutD ds lo hi)) Γ)) (q : ∀ H0' r Γ' v H', Same H0 H0' → Φ r Γ' → Kn H0' Γ' σ H' → ArOk H0' H' Γ' v r → Q v H') : rSlL X.K v lo hi H Q ∨ rSlA X.K v lo hi H Q := by
  rcases h with ⟨rfl, p⟩ | ⟨hr, p⟩
  · obtain ⟨t, xs, rfl, ht, hi'⟩ := Is.tupInv o
    refine .inr ⟨t, xs, rfl, SqT.of ht, fun w => ?_, fun _ l hl => ?_⟩
    · rw [hi'.len] at w
      rw [cutD_whole w] at p
      exact q H0 _ Γ _ H (Same.refl H0) p S (.tup ht hi')
    · exact q H0 _ Γ _ _ (Same.refl H0) p (S.same (Same.new hl)) (.tup upd_same (IsAll.tk (Same.tk (Same.new hl)) _ _ (hi'.cut lo hi)))
  · obtain ⟨t, xs, rfl, ht, hi'⟩ := hr.get S o
    refine .inl ⟨t, xs, rfl, SqL.of ht, fun l hl => ?_⟩
    exact q H0 _ Γ _ _ (Same.refl H0) p (S.same (Same.new hl)) ⟨l, _, rfl, Same.free S.base hl, S.not_own hl, upd_same, IsAll.tk (Same.tk (Same.new hl)) _ _ (hi'.cut lo hi)⟩
/-- x[:b] -/
theorem w_slHi (h : W c Γ a fun r1 Γ1 => W c Γ1 b fun r2 Γ2 => ∃ (n : Nat) (ds : List PyData), r2 = .dat (.int n) ∧ ((r1.weak = .dat (.tuple ds) ∧ Φ (.dat (.tuple (ds.take n))) Γ2) ∨ (RdL Γ2 r1.weak ds ∧ Φ (.new (ds.take n)) Γ2))) : W c Γ (.Subscript a (.Slice none (some b) none p2) pos) Φ := fun X hX H0 σ H S Q q =>
  (pe_slice (sl_list.or sl_tupA) pe_we po_none (po_some pe_we)).we (seq2 (R := fun v1 v2 H2 => ∃ i, v2 = V.int i ∧ (rSlL X.K v1 none (some i) H2 Q ∨ rSlA X.K v1 none (some i) H2 Q)) hX S h fun H0' r1 r2 Γ2 v1 v2 H2 s ⟨n, ds, e1, k⟩ S2 o1 o2 => by
    subst e1
    refine ⟨n, Is.intInv o2, slice_fin (Φ := Φ) (ds := ds) S2 o1 ?_ fun H0'' r Γ' v H' s' => q H0'' r Γ' v H' (s.trans s')⟩
    rw [cutD_hi]
    exact k)
/-- x[b:] -/
theorem w_slLo (h : W c Γ a fun r1 Γ1 => W c Γ1 b fun r2 Γ2 => ∃ (n : Nat) (ds : List PyData), r2 = .dat (.int n) ∧ ((r1.weak = .dat (.tuple ds) ∧ Φ (.dat (.tuple (ds.drop n))) Γ2) ∨ (RdL Γ2 r1.weak ds ∧ Φ (.new (ds.drop n)) Γ2))) : W c Γ (.Subscript a (.Slice (some b) none none p2) pos) Φ := fun X hX H0 σ H S Q q =>
  (pe_slice (sl_list.or sl_tupA) pe_we (po_some pe_we) po_none).we (seq2 (R := fun v1 v2 H2 => ∃ i, v2 = V.int i ∧ (rSlL X.K v1 (some i) none H2 Q ∨ rSlA X.K v1 (some i) none H2 Q)) hX S h fun H0' r1 r2 Γ2 v1 v2 H2 s ⟨n, ds, e1, k⟩ S2 o1 o2 => by
    subst e1
    refine ⟨n, Is.intInv o2, slice_fin (Φ := Φ) (ds := ds) S2 o1 ?_ fun H0'' r Γ' v H' s' => q H0'' r Γ' v H' (s.trans s')⟩
    rw [cutD_lo]
    exact k)
/-- x[i:j], both written -/
theorem w_slLH {i j : Int} {k1 k2 : Nat} {q1 q2 : Pos} (h : W c Γ a fun r1 Γ1 => ∃ ds, (r1 = .dat (.tuple ds) ∧ Φ (.dat (.tuple (cutD ds (some i) (some j)))) Γ1) ∨ (RdL Γ1 r1 ds ∧ Φ (.new (cutD ds (some i) (some j))) Γ1)) :
    W c Γ (.Subscript a (.Slice (some (.Constant (.int i) k1 q1)) (some (.Constant (.int j) k2 q2)) none p2) pos) Φ := fun X hX H0 σ H S Q q =>
  (pe_slice (sl_list.or sl_tupA) pe_we (po_some pe_int) (po_some pe_int)).we (h X hX H0 σ H S _ fun H0' r Γ' v H' s ⟨ds, k⟩ S' o => ⟨i, rfl, j, rfl, slice_fin (Φ := Φ) (ds := ds) S' o k fun H0'' r Γ' v H' s' => q H0'' r Γ' v H' (s.trans s')⟩)

/-! ## sorted of a list of data -/
theorem each_is {X : Cx} {pins : List (Addr × Obj)} {σ : L2.St} {H : Hp} {s : Shared} (I : Inv X pins σ H s) : ∀ {ds : List PyData} {vs : List V} {us : List Value}, IsAll H vs ds → Vals vs us →
    PySem.W.EachIs (fun (u : Value) (b : V × PyData) => (RelV b.1 u ∧ Is H b.1 b.2) ∧ ∃ as, Reads s.heap u b.2 as) us (vs.zip ds)
  | [], _, _, h, r => by
    cases h
    cases r
    exact .nil
  | d :: ds, _, _, h, r => by
    cases h with
    | cons h1 h2 =>
      cases r with
      | cons r1 r2 => exact .cons ⟨⟨r1, h1⟩, Dp.reads I _ _ _ (Is.dp (K := X.K) _ _ h1) r1⟩ (each_is I h2 r2)
theorem each_vals {H : Hp} : ∀ {L : List (V × PyData)} {us : List Value}, PySem.W.EachIs (fun (u : Value) (b : V × PyData) => RelV b.1 u ∧ Is H b.1 b.2) us L → Vals (L.map (·.1)) us ∧ IsAll H (L.map (·.1)) (L.map (·.2))
  | [], _, h => by
    cases h
    exact ⟨.nil, .nil⟩
  | b :: L, _, h => by
    cases h with
    | cons h1 h2 =>
      obtain ⟨i1, i2⟩ := each_vals h2
      exact ⟨.cons h1.1 i1, .cons h1.2 i2⟩
theorem each_and {α β : Type} {R T : α → β → Prop} {xs : List α} {ys : List β} (h : PySem.W.EachIs (fun a b => R a b ∧ T a b) xs ys) : PySem.W.EachIs R xs ys ∧ PySem.W.EachIs T xs ys := ⟨h.mono fun _ _ z => z.1, h.mono fun _ _ z => z.2⟩
theorem zip_snd {ds : List PyData} {vs : List V} (h : vs.length = ds.length) : (vs.zip ds).map (·.2) = ds := List.map_snd_zip (Nat.le_of_eq h.symm)
def sortD (ds : List PyData) : List PyData := ds.mergeSort (PySem.W.dataLe false id)
theorem sort_zip {ds : List PyData} {vs : List V} (h : vs.length = ds.length) : ((vs.zip ds).mergeSort (PySem.W.dataLe false Prod.snd)).map (·.2) = sortD ds := by
  unfold sortD
  have e := List.map_mergeSort (r := PySem.W.dataLe false Prod.snd) (s := PySem.W.dataLe false id) (f := fun b : V × PyData => b.2) (l := vs.zip ds) (fun a _ b _ => rfl)
  rw [e, zip_snd h]
theorem c_sorted : DCall c (.builtin "sorted") (fun rs Γ res => ∃ r ds, rs = [r] ∧ RdL Γ r ds ∧ PySem.W.AllAlike ds ∧ PySem.W.Sortable ds ∧ (∀ d ∈ ds, d.depth ≤ 64) ∧ res = .new (sortD ds)) := ⟨fun X hX => ⟨fun vs H Q => ∃ (a : Addr) (xs : List V) (ds : List PyData), vs = [V.ref a] ∧ SqL X.K H a xs ∧ IsAll H xs ds ∧ PySem.W.AllAlike ds ∧ PySem.W.Sortable ds ∧ (∀ d ∈ ds, d.depth ≤ 64) ∧
    ∀ ys p, IsAll H ys (sortD ds) → H p = none → Q (.ref p) (upd H p (.lst ys)), by
  intro pins s σ H vs us Q I r h
  obtain ⟨a, xs, ds, rfl, hs, hi, hal, hso, hd, q⟩ := h
  obtain ⟨its, rv, hl, hz⟩ := I.list hs
  rw [Vals.ref1 r]
  have hlen := hi.len
  have ez := zip_snd hlen
  obtain ⟨e1, e2⟩ := each_and (each_is I hi rv)
  have hun := hX.room.un
  refine PySem.W.sorted_data (enc := Prod.snd) hl.isList e1 e2 (by rw [ez]; exact hal) (by rw [ez]; exact hso) (by rw [List.length_zip, hlen, Nat.min_self, ← hlen]; exact hz) (fun b hb => ?_) fun out hol ho => ?_
  · have hm : b.2 ∈ ds := by rw [← ez]; exact List.mem_map.mpr ⟨b, hb, rfl⟩
    have := hd _ hm
    omega
  · obtain ⟨rv2, hi2⟩ := each_vals ho
    rw [sort_zip hlen] at hi2
    obtain ⟨ep, he⟩ := PyProof.Rows.sortedAll_at s.heap its out.toArray
    have hl2 : (((xs.zip ds).mergeSort (PySem.W.dataLe false Prod.snd)).map (·.1)).length ≤ sizeLine := by
      rw [List.length_map, List.length_mergeSort, List.length_zip, hlen, Nat.min_self, ← hlen]
      exact hz
    exact ⟨.ref _, upd H (s.heap.objs.size + 1) (.lst _), I.laid (t' := s.toks) (fun _ _ => PyProof.Rows.sortedAll_old) (Nat.le_succ _) ⟨hl2, out, ep, rv2, he⟩, rfl, q _ _ hi2 (I.hok.fresh (Nat.le_succ _))⟩, fun H0 H Γ σ rs vs res S o ⟨r, ds, e1, hr, hal, hso, hd, e2⟩ Q q => by
  subst e1; subst e2
  obtain ⟨v, rfl, o1⟩ := ArAll.one o
  obtain ⟨t, xs, rfl, ht, hi⟩ := hr.get S o1
  exact ⟨t, xs, ds, rfl, SqL.of ht, hi, hal, hso, hd, fun ys p iy hp => q _ _ (Same.new hp) ⟨p, ys, rfl, hp, upd_same, IsAll.tk (Same.tk (Same.new hp)) _ _ iy⟩⟩⟩⟩

/-! ## xs + ys -/
theorem d_cat : DOp c (binaryOp .Add) (fun _ _ _ _ => False) := ⟨fun X hX => ⟨_, op_add, fun H0 H Γ σ r1 r2 v1 v2 d _ o1 o2 h Q q => h.elim⟩⟩
end
end K83
set_option maxRecDepth 100000
set_option maxHeartbeats 4000000
namespace K83
open PySem PySem.Spec PyProof.Rows L2

/-! ## dict(xs), the keys tuples -/
/-- a pair of the argument: its tuple, the key's tuple, the key, the value -/
abbrev Pr := Addr × Addr × List Key × V
theorem stored_new {ps : List (List Key × Addr × Value)} : ∀ {acc : List (List Key × Addr × Value)}, ((acc ++ ps).map (·.1)).Nodup → storedAllH acc ps = acc ++ ps := by
  induction ps with
  | nil => intro acc _; rw [List.append_nil] <;> rfl
  | cons p ps ih =>
    intro acc h
    have hn : atKey acc p.1 = none := by
      unfold atKey
      cases q : acc.find? fun kv => decide (kv.1 = p.1) with
      | none => rfl
      | some y =>
        exfalso
        have h1 := List.find?_some q
        have h2 := List.mem_of_find?_eq_some q
        rw [List.map_append, List.map_cons] at h
        have h3 := (List.nodup_append.mp h).2.2
        exact h3 y.1 (List.mem_map.mpr ⟨y, h2, rfl⟩) p.1 List.mem_cons_self (of_decide_eq_true h1)
    have e : storedH acc p.1 p.2.1 p.2.2 = acc ++ [p] := by
      unfold storedH
      rw [hn]
      rfl
    show storedAllH (storedH acc p.1 p.2.1 p.2.2) ps = acc ++ p :: ps
    rw [e, ih (by rw [List.append_assoc]; exact h), List.append_assoc] <;> rfl
section
variable {X : Cx} {pins : List (Addr × Obj)} {σ : L2.St} {H : Hp} {s : Shared}
theorem prs_at (I : Inv X pins σ H s) : ∀ {L : List Pr}, (∀ q ∈ L, H q.1 = some (.tup [.ref q.2.1, q.2.2.2])) → ∃ us : List Value, us.length = L.length ∧ ∀ (j : Nat) (q : Pr) (u : Value), L[j]? = some q → us[j]? = some u → RelV q.2.2.2 u ∧ s.heap.IsTuple q.1 #[.ref q.2.1, u]
  | [], _ => ⟨[], rfl, fun j q u h => by simp at h⟩
  | q :: L, h => by
    obtain ⟨us, h1, h2⟩ := prs_at I (L := L) fun q' hq => h q' (List.mem_cons_of_mem _ hq)
    obtain ⟨_, its, rv, p⟩ := I.hok _ _ (h q List.mem_cons_self)
    obtain ⟨u1, u2, rfl, r1, r2⟩ := vals2 rv
    cases (show u1 = Value.ref q.2.1 from r1)
    refine ⟨u2 :: us, by rw [List.length_cons, List.length_cons, h1], fun j q' u e1 e2 => ?_⟩
    cases j with
    | zero =>
      cases e1
      cases e2
      exact ⟨r2, p⟩
    | succ j => exact h2 j q' u e1 e2
def rDictT (K : PySem.W.Frag) : List V → Hp → VK → Prop := fun xs H Q => ∃ (a : Addr) (L : List Pr), xs = [V.ref a] ∧ (Nic H a (L.map fun q => V.ref q.1) ∨ SqL K H a (L.map fun q => V.ref q.1)) ∧ (∀ q ∈ L, H q.1 = some (.tup [.ref q.2.1, q.2.2.2]) ∧ H q.2.1 = some (.tup (q.2.2.1.map kV))) ∧
  (L.map fun q => q.2.2.1).Nodup ∧ ∀ p, H p = none → Q (.ref p) (upd H p (.dT (L.map fun q => (q.2.2.1, q.2.2.2))))
theorem refs_fst : ∀ {L : List Pr} {us : List Value}, Vals (L.map fun q => V.ref q.1) us → us = L.map fun q => Value.ref q.1
  | [], _, .nil => rfl
  | q :: L, _, .cons r t => by
    cases r
    rw [refs_fst t] <;> rfl
theorem cr_dictT (hc : X.calm = true) (hu : X.A.units + 65 < cLine) : CallR X (.type "dict") (rDictT X.K) := by
  intro pins s σ H xs us Q I r h
  obtain ⟨a, L, rfl, hq, hL, nd, q⟩ := h
  obtain ⟨u, rfl, rx⟩ := vals1 r
  cases rx
  obtain ⟨ws, hwl, hws⟩ := prs_at I (L := L) fun q hq => (hL q hq).1
  have key : ∀ (T : String) (items : Array Value), items = (L.map fun q => Value.ref q.1).toArray → L.length ≤ sizeLine → PlainSeq T s.heap a items → (T = "list" ∨ T = "tuple") → wpAny (model X.prog X.w) X.A (call (.type "dict") [.ref a]) (EP X pins σ Q) X.xe s := by
    intro T items hi hz pl hT
    subst hi
    have hps : ∀ (j : Nat) (k v : Value), (List.zipWith (fun (q : Pr) u => (Value.ref q.2.1, u)) L ws)[j]? = some (k, v) → ∃ q, L[j]? = some q ∧ ws[j]? = some v ∧ k = .ref q.2.1 := fun j k v e => by
      rw [List.getElem?_zipWith] at e
      cases e1 : L[j]? with
      | none => rw [e1] at e; cases e
      | some q =>
        cases e2 : ws[j]? with
        | none => rw [e1, e2] at e; cases e
        | some u =>
          rw [e1, e2] at e
          cases e
          exact ⟨q, rfl, rfl, rfl⟩
    have hpl : (List.zipWith (fun (q : Pr) u => (Value.ref q.2.1, u)) L ws).length = L.length := by rw [List.length_zipWith, hwl, Nat.min_self]
    have pi : PairItems s.heap (L.map fun q => Value.ref q.1).toArray (fun j => ((L[j]?).map (·.1)).getD 0) (List.zipWith (fun (q : Pr) u => (Value.ref q.2.1, u)) L ws) := by
      refine ⟨by rw [hpl]; simp, fun j k v e => ?_⟩
      obtain ⟨q, e1, e2, e3⟩ := hps j k v e
      subst e3
      refine ⟨by simp [e1], ?_⟩
      show PairAt s.heap (((L[j]?).map (·.1)).getD 0) _ _
      rw [e1]
      exact .inl (hws j q v e1 e2).2
    have hpH : PairsHaveH (tupleKind (mixKind X.prog X.w)) (List.zipWith (fun (q : Pr) u => (Value.ref q.2.1, u)) L ws).length (PairRel (List.zipWith (fun (q : Pr) u => (Value.ref q.2.1, u)) L ws)) (List.zipWith (fun (q : Pr) u => (q.2.2.1, q.2.1, u)) L ws) := by
      refine ⟨by rw [hpl, List.length_zipWith, hwl, Nat.min_self], fun i k v e => ?_⟩
      obtain ⟨q, e1, e2, e3⟩ := hps i k v e
      exact ⟨q.2.2.1, q.2.1, by rw [List.getElem?_zipWith, e1, e2], e3⟩
    have hmem : ∀ x ∈ List.zipWith (fun (q : Pr) u => (q.2.2.1, q.2.1, u)) L ws, ∃ q ∈ L, x.1 = q.2.2.1 ∧ x.2.1 = q.2.1 := fun x hx => by
      obtain ⟨j, hj, e⟩ := List.getElem_of_mem hx
      rw [List.getElem_zipWith] at e
      exact ⟨_, List.getElem_mem _, by rw [← e], by rw [← e]⟩
    have hst : KeysStay (tupleKind (mixKind X.prog X.w)) s.heap s.heap.objs.size [] (List.zipWith (fun (q : Pr) u => (q.2.2.1, q.2.1, u)) L ws) := fun h' hk x hx => by
      obtain ⟨q, hq, e1, e2⟩ := hmem x hx
      rw [e1, e2]
      exact tupleKind_stays.stays (fun b o vs n e _ => hk b o (Nat.ne_of_lt (Heap.lt_size e)) (fun z => nomatch z) e) (key_of I.hok (hL q hq).2)
    have hro : (tupleKind (mixKind X.prog X.w)).room X.A.in1.in1 := by
      show X.A.units + 1 + 1 < cLine
      omega
    have fin : ∀ (h' : Heap) (tk : Nat), h'.DictOfH (tupleKind (mixKind X.prog X.w)) s.heap.objs.size (storedAllH [] (List.zipWith (fun (q : Pr) u => (q.2.2.1, q.2.1, u)) L ws)) → (∀ b o, b ∉ ([] : List Addr) → s.heap.get? b = some o → h'.get? b = some o) → EP X pins σ Q (.ref s.heap.objs.size) { s with heap := h', toks := tk } := by
      intro h' tk hd hk
      have e : storedAllH [] (List.zipWith (fun (q : Pr) u => (q.2.2.1, q.2.1, u)) L ws) = List.zipWith (fun (q : Pr) u => (q.2.2.1, q.2.1, u)) L ws := by
        rw [stored_new, List.nil_append]
        rw [List.nil_append, List.map_zipWith]
        have e2 : List.zipWith (fun (q : Pr) (u : Value) => q.2.2.1) L ws = L.map fun q => q.2.2.1 := by
          have key2 : ∀ (L : List Pr) (ws : List Value), ws.length = L.length → List.zipWith (fun (q : Pr) (u : Value) => q.2.2.1) L ws = L.map fun q => q.2.2.1 := by
            intro L
            induction L with
            | nil => intro ws h; cases ws <;> rfl
            | cons q L ih =>
              intro ws h
              cases ws with
              | nil => cases h
              | cons u ws =>
                show q.2.2.1 :: _ = q.2.2.1 :: _
                rw [ih ws (by simpa using h)]
          exact key2 L ws hwl
        rw [e2]
        exact nd
      rw [e] at hd
      have hn : H s.heap.objs.size = none := I.hok.fresh (Nat.le_refl _)
      have hm : (s.heap.objs.size == sysModules) = false := beq_eq_false_iff_ne.mpr (Nat.ne_of_gt I.big)
      obtain ⟨o, es, ep, g1, g2, g3, g4, _, g5⟩ := hd
      refine ⟨.ref s.heap.objs.size, upd H s.heap.objs.size (.dT (L.map fun q => (q.2.2.1, q.2.2.2))), I.laid (t' := tk) (fun b o e => hk b o (fun z => nomatch z) e) (Nat.le_refl _) ?_, rfl, q _ hn⟩
      refine ⟨by rw [List.length_map]; exact hz, hm, _, ?_, o, es, ep, g1, g2, g3, g4, g5⟩
      have key3 : ∀ (L : List Pr) (ws : List Value), ws.length = L.length → (∀ q ∈ L, H q.2.1 = some (.tup (q.2.2.1.map kV))) → (∀ (j : Nat) (q : Pr) (u : Value), L[j]? = some q → ws[j]? = some u → RelV q.2.2.2 u) →
          Paired (fun (p : List Key × V) (q : List Key × Addr × Value) => p.1 = q.1 ∧ upd H s.heap.objs.size (.dT (L.map fun q => (q.2.2.1, q.2.2.2))) q.2.1 = some (.tup (p.1.map kV)) ∧ RelV p.2 q.2.2) (L.map fun q => (q.2.2.1, q.2.2.2)) (List.zipWith (fun (q : Pr) u => (q.2.2.1, q.2.1, u)) L ws) := by
        intro L0 ws
        generalize HO.dT (L0.map fun q => (q.2.2.1, q.2.2.2)) = O
        revert ws
        induction L0 with
        | nil => intro ws h _ _; cases ws <;> exact .nil
        | cons q L ih =>
          intro ws h h1 h2
          cases ws with
          | nil => cases h
          | cons u ws =>
            refine .cons ⟨rfl, ?_, h2 0 q u rfl rfl⟩ (ih ws (by simpa using h) (fun q' hq => h1 q' (List.mem_cons_of_mem _ hq)) fun j q' u' e1 e2 => h2 (j + 1) q' u' e1 e2)
            have e := h1 q List.mem_cons_self
            show upd H s.heap.objs.size O q.2.1 = _
            rw [upd_ne fun z => by rw [z, hn] at e; cases e]
            exact e
      exact key3 L ws hwl (fun q hq => (hL q hq).2) fun j q u e1 e2 => (hws j q u e1 e2).1
    rcases hT with rfl | rfl
    · exact PySem.call_dict_pairsH (PairArg.list a _ _ _) (I.ok.hd hc) hro ⟨pl, pi⟩ hpH hst (by rw [hpl]; exact hz) fin
    · exact PySem.call_dict_pairsH (PairArg.tuple a _ _ _) (I.ok.hd hc) hro ⟨pl, pi⟩ hpH hst (by rw [hpl]; exact hz) fin
  rcases hq with ⟨o, ho, hd⟩ | hq
  · obtain ⟨hg, hz, its, rv, o', ho', hcl, n, hdat⟩ := I.hok _ _ ho
    rw [hg] at ho'
    cases ho'
    have e := refs_fst rv
    subst e
    exact key "tuple" _ rfl (by rw [List.length_map] at hz; exact hz) ⟨o, n, hg, hcl, hd, hdat⟩ (.inr rfl)
  · obtain ⟨its, rv, pl, hz⟩ := I.list hq
    have e := refs_fst rv
    subst e
    obtain ⟨o, n, ho, hcl, hd, hdat⟩ := pl
    exact key "list" _ rfl (by rw [List.length_map] at hz; exact hz) ⟨o, n, ho, hcl, hd, hdat⟩ (.inl rfl)
end
end K83
set_option maxRecDepth 100000
set_option maxHeartbeats 4000000
namespace K83
open PySem PySem.Spec PyProof.Rows L2

/-! ## keys as data -/
def keyT (k : List Key) : PyData := .tuple (k.map keyD)
def prD (q : List Key × PyData) : PyData := .tuple [keyT q.1, q.2]
theorem isAll_keys {H : Hp} : ∀ {k : List Key} {vs : List V}, IsAll H vs (k.map keyD) → vs = k.map kV
  | [], _, h => by cases h; rfl
  | .inl i :: k, _, h => by
    cases h with
    | cons h1 h2 => rw [Is.intInv h1, isAll_keys h2] <;> rfl
  | .inr x :: k, _, h => by
    cases h with
    | cons h1 h2 => rw [Is.strInv h1, isAll_keys h2] <;> rfl
theorem all_keys (H : Hp) : ∀ k : List Key, IsAll H (k.map kV) (k.map keyD)
  | [] => .nil
  | .inl i :: k => .cons (.int i) (all_keys H k)
  | .inr x :: k => .cons (.str x) (all_keys H k)
theorem Is.keyInv {H : Hp} {v : V} {k : List Key} (h : Is H v (keyT k)) : ∃ b, v = .ref b ∧ H b = some (.tup (k.map kV)) := by
  obtain ⟨a, xs, e, ha, hi⟩ := h.tupInv
  rw [isAll_keys hi] at ha
  exact ⟨a, e, ha⟩
theorem prs_of {H : Hp} : ∀ {kvs : List (List Key × PyData)} {xs : List V}, IsAll H xs (kvs.map prD) → ∃ L : List Pr, xs = L.map (fun q => V.ref q.1) ∧ (∀ q ∈ L, H q.1 = some (.tup [.ref q.2.1, q.2.2.2]) ∧ H q.2.1 = some (.tup (q.2.2.1.map kV))) ∧ KvIs H (L.map fun q => (q.2.2.1, q.2.2.2)) kvs
  | [], _, h => by
    cases h
    exact ⟨[], rfl, (fun q hq => by cases hq), .nil⟩
  | p :: kvs, _, h => by
    cases h with
    | cons h1 h2 =>
      obtain ⟨L, e1, e2, e3⟩ := prs_of h2
      obtain ⟨a, zs, rfl, ha, hz⟩ := Is.tupInv h1
      cases hz with
      | cons z1 zt =>
        cases zt with
        | cons z2 z0 =>
          cases z0
          obtain ⟨b, rfl, hb⟩ := z1.keyInv
          refine ⟨(a, b, p.1, _) :: L, by rw [e1] <;> rfl, fun q hq => ?_, .cons ⟨rfl, z2⟩ e3⟩
          rcases List.mem_cons.mp hq with e | hq
          · subst e
            exact ⟨ha, hb⟩
          · exact e2 q hq
theorem KvIs.keys {κ : Type} {H : Hp} {l : List (κ × V)} {m : List (κ × PyData)} (h : KvIs H l m) : l.map (·.1) = m.map (·.1) := by
  induction h with
  | nil => rfl
  | cons h t ih => rw [List.map_cons, List.map_cons, ih, h.1]
def lk {κ : Type} [DecidableEq κ] (kvs : List (κ × PyData)) (k : κ) : Option PyData := (kvs.find? fun kv => decide (kv.1 = k)).map (·.2)
theorem KvIs.val {κ : Type} [DecidableEq κ] {H : Hp} {l : List (κ × V)} {m : List (κ × PyData)} (h : KvIs H l m) (k : κ) : (lk m k = none ∧ valV l k = none) ∨ ∃ d v, lk m k = some d ∧ valV l k = some v ∧ Is H v d := by
  induction h with
  | nil => exact .inl ⟨rfl, rfl⟩
  | @cons p q ps qs h t ih =>
    by_cases e : q.1 = k
    · exact .inr ⟨q.2, p.2, by simp [lk, List.find?_cons, e], valV_pos (h.1.trans e), h.2⟩
    · rw [valV_neg fun z => e (h.1.symm.trans z)]
      have e2 : lk (q :: qs) k = lk qs k := by simp [lk, List.find?_cons, e]
      rw [e2]
      exact ih
theorem Paired.snoc' {α β : Type} {R : α → β → Prop} {xs : List α} {ys : List β} {x : α} {y : β} (h : Paired R xs ys) (r : R x y) : Paired R (xs ++ [x]) (ys ++ [y]) := by
  induction h with
  | nil => exact .cons r .nil
  | cons h t ih => exact .cons h ih

section
variable {c : Ct} {Γ : List Sv} {a b e f : Expr} {es : List Expr} {pos pos' : Pos} {Φ : Ar → List Sv → Prop} {ΦT : Bool → List Sv → Prop} {po : Po} {rest : List Stmt}
/-- x = dict(e) -/
theorem sd_dict (i : Nat) {x : Str} {p : Pos} (G : GFree c.g "dict") (h : WA c Γ [e] fun rs Γ1 => ∃ r kvs, rs = [r] ∧ (r = .nic (kvs.map prD) ∨ RdL Γ1 r (kvs.map prD)) ∧ (kvs.map (·.1)).Nodup ∧ ∀ p, Sd c (Γ1.set i (.dic p kvs)) rest po)
    (hN : c.N[i]? = some x := by rfl) (hx : Loc c.sc x := by first | exact Or.inl rfl | exact Or.inr rfl) (ht : c.top = true := by rfl)
    (hg : c.sc.names.lookup ("dict" : Str) = some .globalImplicit := by rfl)
    (he : ∀ env : Env, starEach [e] env = (false, eval e env) :: starEach [] env := by intro _; rfl) {spos : Pos} (hs2 : ∀ env : Env, env.scope = c.sc → swapsWith (.Call (.Name "dict" p) [e] [] pos) (some (.Name x pos')) spos.line env = pure false := by intro _ _; rfl) :
    Sd c Γ (.Assign [.Name x pos'] (.Call (.Name "dict" p) [e] [] pos) spos :: rest) po := fun X hX H0 σ H S D F =>
  (pss_cons (ps_set hX.ndX (hX.at_ hN) (by rw [hX.sc]; exact hx) (pe_callTy (cr_dictT hX.calm hX.hu) (hX.gl hg) (by rw [hX.mg]; exact G) (by decide +kernel) pa_wa (by decide) (by decide) (he X.env) (by rfl)) (hs2 X.env hX.sc) (.inl (hX.fn ht x))) pss_ws).wss
    (h X hX H0 σ H S _ fun H0' rs Γ' vs H' s ⟨r, kvs, e1, e2, nd, k⟩ S' o => by
      subst e1
      obtain ⟨v, rfl, o1⟩ := ArAll.one o
      have src : ∃ t xs, v = .ref t ∧ (Nic H' t xs ∨ SqL X.K H' t xs) ∧ IsAll H' xs (kvs.map prD) := by
        rcases e2 with rfl | e2
        · obtain ⟨t, xs, rfl, _, h1, i1⟩ := o1
          exact ⟨t, xs, rfl, .inl h1, i1⟩
        · obtain ⟨t, xs, rfl, h1, i1⟩ := e2.get S' o1
          exact ⟨t, xs, rfl, .inr (SqL.of h1), i1⟩
      obtain ⟨t, xs, rfl, h1, i1⟩ := src
      obtain ⟨L, rfl, hL, kv⟩ := prs_of i1
      have ek := kv.keys
      rw [List.map_map] at ek
      have ek' : (L.map fun q => q.2.2.1) = kvs.map (·.1) := ek
      refine ⟨t, L, rfl, h1, hL, by rw [ek']; exact nd, fun p hp => ?_⟩
      have tk := Same.tk (Same.new (o := HO.dT (L.map fun q => (q.2.2.1, q.2.2.2))) hp)
      exact k p X hX H0' _ _ ((S'.same (Same.new hp)).store (s := .dic p kvs) (fun _ => ⟨rfl, Same.free S'.base hp, _, upd_same, KvIs.tk tk kv⟩) fun q e => by cases e; exact S'.not_own hp) D (F.up s))
/-- x = {} -/
theorem sd_dnew (i : Nat) {x : Str} {spos : Pos} (h : ∀ p, Sd c (Γ.set i (.dic p [])) rest po) (hs : ∀ env : Env, env.scope = c.sc → swapsWith (.Dict [] [] pos) (some (.Name x pos')) spos.line env = pure false := by intro _ _; rfl)
    (hN : c.N[i]? = some x := by rfl) (hx : Loc c.sc x := by first | exact Or.inl rfl | exact Or.inr rfl) (ht : c.top = true := by rfl) : Sd c Γ (.Assign [.Name x pos'] (.Dict [] [] pos) spos :: rest) po := fun X hX H0 σ H S D F =>
  (pss_cons (ps_set hX.ndX (hX.at_ hN) (by rw [hX.sc]; exact hx) pe_dnewT (hs X.env hX.sc) (.inl (hX.fn ht x))) pss_ws).wss fun p hp =>
    h p X hX H0 _ _ ((S.same (Same.new hp)).store (s := .dic p []) (fun _ => ⟨rfl, Same.free S.base hp, [], upd_same, .nil⟩) fun q e => by cases e; exact S.not_own hp) D F
theorem Kn.dic {H0 H : Hp} {σ : L2.St} (S : Kn H0 Γ σ H) {j : Nat} {p : Addr} {kvs : List (List Key × PyData)} (h : Γ[j]? = some (.dic p kvs)) : ∃ kv, H p = some (.dT kv) ∧ KvIs H kv kvs := by
  obtain ⟨_, _, kv, h1, h2⟩ := S.slots j _ h
  exact ⟨kv, h1, h2⟩
theorem InC.hu1 {X : Cx} (hX : InC c X) : X.A.units + 1 < cLine := by have := hX.hu; omega
/-- d[k] -/
theorem w_dget (h : W c Γ a fun r1 Γ1 => W c Γ1 b fun r2 Γ2 => ∃ (p : Addr) (j : Nat) (kvs : List (List Key × PyData)) (k : List Key) (d : PyData), r1 = .raw (.ref p) ∧ Γ2[j]? = some (.dic p kvs) ∧ r2 = .dat (keyT k) ∧ lk kvs k = some d ∧ Φ (.dat d) Γ2) (hs : NoSl b := by exact fun _ _ => rfl) : W c Γ (.Subscript a b pos) Φ := fun X hX H0 σ H S Q q =>
  (pe_dget hX.hu1 pe_we pe_we hs).we (seq2 (R := fun v1 v2 H2 => ∃ a v, v1 = V.ref a ∧ DGet H2 a v2 (some v) ∧ Q v H2) hX S h fun H0' r1 r2 Γ2 v1 v2 H2 s ⟨p, j, kvs, k, d, e1, e2, e3, e4, ph⟩ S2 o1 o2 => by
    subst e1; subst e3
    obtain ⟨kv, hp, hk⟩ := S2.dic e2
    obtain ⟨b, rfl, hb⟩ := Is.keyInv o2
    rcases hk.val k with ⟨z, _⟩ | ⟨d', v, z1, z2, z3⟩
    · rw [e4] at z; cases z
    · rw [e4] at z1
      cases z1
      refine ⟨p, v, o1, ?_, q H0' _ Γ2 v H2 s ph S2 z3⟩
      rw [← z2]
      exact DGet.t hp hb)
/-- k in d -/
theorem wt_din (h : W c Γ a fun r1 Γ1 => W c Γ1 b fun r2 Γ2 => ∃ (p : Addr) (j : Nat) (kvs : List (List Key × PyData)) (k : List Key), r1.weak = .dat (keyT k) ∧ r2 = .raw (.ref p) ∧ Γ2[j]? = some (.dic p kvs) ∧ ΦT (lk kvs k).isSome Γ2) (hm : behindInMarks .In b = false := by first | rfl | exact nomark _) : WT c Γ (.Compare a [.In] [b] pos) ΦT := fun X hX H0 σ H S Q q =>
  (pt_cmp (pc_din hX.hu1 pe_we pe_we) hm).wt (seq2 (R := fun v1 v2 H2 => ∃ a o, v2 = V.ref a ∧ DGet H2 a v1 o ∧ ∃ b, V.bl o.isSome = V.bl b ∧ Q b H2) hX S h fun H0' r1 r2 Γ2 v1 v2 H2 s ⟨p, j, kvs, k, e1, e2, e3, ph⟩ S2 o1 o2 => by
    rw [e1] at o1
    subst e2
    obtain ⟨kv, hp, hk⟩ := S2.dic e3
    obtain ⟨b, rfl, hb⟩ := Is.keyInv o1
    have e : (valV kv k).isSome = (lk kvs k).isSome := by
      rcases hk.val k with ⟨z1, z2⟩ | ⟨d', v, z1, z2, z3⟩
      · rw [z1, z2] <;> rfl
      · rw [z1, z2] <;> rfl
    exact ⟨p, _, o2, DGet.t hp hb, _, rfl, by rw [e]; exact q H0' _ Γ2 H2 s ph S2⟩)
/-- d.setdefault(k, v) -/
def rSetdT (a : Addr) (kvs : List (List Key × V)) (y z : V) (H : Hp) (Q : VK) : Prop := ∃ (k : List Key) (b : Addr), H a = some (.dT kvs) ∧ y = .ref b ∧ H b = some (.tup (k.map kV)) ∧ kvs.length < sizeLine ∧
  (∀ v, valV kvs k = some v → Q v H) ∧ (valV kvs k = none → Q z (upd H a (.dT (putK kvs k z))))
def tSetdT (td ty tx : TE) : TE := fun σ H Q => td σ H fun x H1 => ∃ a, x = .ref a ∧ IsD H1 a ∧ ty σ H1 fun y H2 => tx σ H2 fun z H3 => ∃ kvs, rSetdT a kvs y z H3 Q
theorem pe_setdT {X : Cx} {o e f : Expr} {td ty tx : TE} {apos cpos : Pos} (hu : X.A.units + 65 < cLine) (ho : PE X o td) (he : PE X e ty) (hf : PE X f tx) (m : M2 X o "setdefault" apos e f cpos) : PE X (.Call (.Attribute o "setdefault" apos) [e, f] [] cpos) (tSetdT td ty tx) := by
  refine ⟨fun pins s σ H Q I h => ?_⟩
  refine wpAny_Call_method m.base m.few m.line PySem.F.plainAttrs_dict PySem.F.slot_dict_setdefault PySem.F.type_dict_setdefault (thn (ho.run pins s σ H _ I h) fun u s1 ⟨x, H1, I1, rx, a, ex, d, q1⟩ => ?_)
  subst ex
  cases rx
  refine ⟨(isD_at I1 d).1, (isD_at I1 d).2.1, ?_⟩
  rw [m.trees]
  refine Calls.callWith_builtin rfl (Calls.evalArgs_plain (Calls.spliced_cons (thn (he.run pins s1 σ H1 _ I1 q1) fun iv s2 ⟨y, H2, I2, ry, q2⟩ =>
    Calls.spliced_cons (thn (hf.run pins s2 σ H2 _ I2 q2) fun fv s3 ⟨z, H3, I3, rz, kvs, k, b, ea, ey, eb, hl, q3, q4⟩ => Calls.spliced_nil ?_))))
  subst ey
  cases ry
  obtain ⟨hz, hd, xs, rel, dd⟩ := dt_of I3.hok ea
  have hxl : xs.length = kvs.length := (Paired.length rel).symm
  have hro : (tupleKind (mixKind X.prog X.w)).room X.A.in1 := by
    show X.A.units + 1 < cLine
    omega
  have rv := rel.val k
  refine call_setdefault_heap (hsz := by rw [hxl]; exact hz) hro (key_of I3.hok eb) hd dd (fun p hp => ?_) fun hn h' dd' hs => ?_
  · rw [hp] at rv
    cases q0 : valV kvs k with
    | none => rw [q0] at rv; exact (show False from rv).elim
    | some v0 =>
      rw [q0] at rv
      exact ⟨v0, H3, I3.tok _, rv, q3 v0 q0⟩
  · rw [hn] at rv
    cases q0 : valV kvs k with
    | some v0 => rw [q0] at rv; exact (show False from rv).elim
    | none =>
      have hl2 : (putK kvs k z).length ≤ sizeLine := by
        have := length_putK kvs k z
        omega
      have hkt : KT (upd H3 a (.dT (putK kvs k z))) (putK kvs k z) (storedH xs k b fv) := (rel.put k eb rz).keeps fun c ys hc => by
        rw [upd_ne fun w => by rw [w, ea] at hc; cases hc]
        exact hc
      obtain ⟨ob, es, ep, g1, g2, g3, g4, _, g5⟩ := dd'
      exact ⟨z, _, d_write (ob := .dT (putK kvs k z)) I3 (by rw [ea]; exact True.intro) hs ⟨ob, g1⟩ ⟨hl2, hd, _, hkt, ob, es, ep, g1, g2, g3, g4, g5⟩, rz, q4 q0⟩
end
end K83
set_option maxRecDepth 100000
set_option maxHeartbeats 4000000
namespace K83
open PySem PySem.Spec PyProof.Rows L2

section
variable {c : Ct} {Γ : List Sv} {a b e f : Expr} {es : List Expr} {pos pos' : Pos} {Φ : Ar → List Sv → Prop} {ΦT : Bool → List Sv → Prop} {po : Po} {rest : List Stmt}
/-- x.setdefault(k, v), x a dict of one's own -/
theorem w_setd (i : Nat) {x : Str} {p1 ap cp : Pos} {p : Addr} {kvs0 : List (List Key × PyData)} (h0 : Γ[i]? = some (.dic p kvs0))
    (h : W c Γ e fun r1 Γ1 => W c Γ1 f fun r2 Γ2 => ∃ (k : List Key) (d : PyData) (kvs : List (List Key × PyData)), r1.weak = .dat (keyT k) ∧ r2 = .dat d ∧ Γ2[i]? = some (.dic p kvs) ∧ kvs.length ≤ 100000 ∧ (∀ d', lk kvs k = some d' → Φ (.dat d') Γ2) ∧ (lk kvs k = none → Φ (.dat d) (Γ2.set i (.dic p (kvs ++ [(k, d)])))))
    (hN : c.N[i]? = some x := by rfl) (hv : Vis c.sc x := by first | exact Or.inl rfl | exact Or.inr (Or.inl rfl) | exact Or.inr (Or.inr rfl)) (hd : (x == ("__debug__" : Str)) = false := by decide) (hcd : (x == ("__classdict__" : Str)) = false := by decide)
    (hbase : ∀ env : Env, attributeBase (.Name x p1) "setdefault" env (eval (.Name x p1) env) = eval (.Name x p1) env := by intro _; rfl)
    (hfew : ∀ env : Env, ((backTo cp (starEach [e, f] env)).all (fun x => !x.1) && (backToKw cp (keywordEach [] env)).all (fun x => x.1.isSome)
      && decide (([e, f] : List Expr).length + ([] : List Keyword).length + (if ([] : List Keyword).isEmpty then 0 else 1) < 30)) = true := by intro _; rfl)
    (hline : (ap.endLine == cp.line) = true := by rfl) (htr : ∀ env : Env, backTo cp (starEach [e, f] env) = [(false, eval e env), (false, eval f env)] := by intro _; rfl) :
    W c Γ (.Call (.Attribute (.Name x p1) "setdefault" ap) [e, f] [] cp) Φ := fun X hX H0 σ H S Q q => by
  refine (pe_setdT hX.hu (pe_var (hX.at_ hN) (hX.vis hv) hd hcd) pe_we pe_we ⟨hbase X.env, hfew X.env, hline, htr X.env⟩).we ?_
  obtain ⟨es, _, kv, hp, hk⟩ := S.slots i _ h0
  refine ⟨_, es, p, rfl, .inr ⟨kv, .inl hp⟩, ?_⟩
  refine seq2 (R := fun y z H3 => ∃ kvs, rSetdT p kvs y z H3 Q) hX S h fun H0' r1 r2 Γ2 v1 v2 H2 s ⟨k, d, kvs, e1, e2, e3, hl, k1, k2⟩ S2 o1 o2 => ?_
  rw [e1] at o1
  subst e2
  obtain ⟨es', h0', kv2, hp2, hk2⟩ := S2.slots i _ e3
  obtain ⟨b, rfl, hb⟩ := Is.keyInv o1
  have hlen : kv2.length = kvs.length := Paired.length hk2
  refine ⟨kv2, k, b, hp2, rfl, hb, by rw [hlen]; exact Nat.lt_of_le_of_lt hl (by decide), fun v hv => ?_, fun hn => ?_⟩
  · rcases hk2.val k with ⟨z1, z2⟩ | ⟨d', v', z1, z2, z3⟩
    · rw [hv] at z2; cases z2
    · rw [hv] at z2
      cases z2
      exact q H0' _ Γ2 v H2 s (k1 d' z1) S2 z3
  · rcases hk2.val k with ⟨z1, z2⟩ | ⟨d', v', z1, z2, z3⟩
    · rw [putK_new v2 hn]
      have tk : Tk H2 (upd H2 p (.dT (kv2 ++ [(k, v2)]))) := fun a xs z => by
        rw [upd_ne fun w => by rw [w, hp2] at z; cases z]
        exact z
      exact q H0' _ _ v2 _ s (k2 z1) (S2.change (s' := .dic p (kvs ++ [(k, d)])) e3 rfl rfl ⟨es', h0', _, upd_same, Paired.snoc' (KvIs.tk tk hk2) ⟨rfl, Is.tk tk _ _ o2⟩⟩) (Is.tk tk _ _ o2)
    · rw [hn] at z2; cases z2

/-! ## sorted of what is collected -/
theorem sorted_by {P : Program} {w : World} {A : Around} {E : Value → Shared → Prop} {s : Shared} {a : Addr} {Q : Value → Shared → Prop}
    (h : ∀ (R : List Value → Shared → Prop) (E' : Value → Shared → Prop), (∀ vs s1, (∃ bs : List (V × PyData), PySem.W.EachIs (fun (u : Value) (b : V × PyData) => RelV b.1 u ∧ ∃ as, Reads s1.heap u b.2 as) vs bs ∧ PySem.W.AllAlike (bs.map (·.2)) ∧ PySem.W.Sortable (bs.map (·.2)) ∧ bs.length ≤ sizeLine ∧
        (∀ b ∈ bs, A.units + 3 + b.2.depth < cLine) ∧ ∀ (h' : Heap) (p : Addr) (out : List Value) (c : Nat), (∀ b o, s1.heap.get? b = some o → h'.get? b = some o) → s1.heap.objs.size ≤ p → h'.get? p = some (seqObj "list" out.toArray c) →
          PySem.W.EachIs (fun (u : Value) (b : V × PyData) => RelV b.1 u) out (bs.mergeSort (PySem.W.dataLe false Prod.snd)) → Q (.ref p) { s1 with heap := h' }) → R vs s1) → wpAny (model P w) A.in1 (collect (.ref a)) R E' s) :
    wpAny (model P w) A (call (.builtin "sorted") [.ref a]) Q E s := by
  refine Calls.call_function_entry PyProof.Rows.kind_sorted PyProof.Rows.plain_sorted PyProof.Rows.entry_sorted (PyProof.Rows.args_sorted1 _) ?_
  unfold Builtin.«sorted»
  refine wpAny_bind (m := checkCount "sorted" 1 1 _) (wpAny_pure ?_)
  refine wpAny_bind (h _ _ fun vs s1 ⟨bs, e, hal, hso, hl, hu, q⟩ => ?_)
  have hvl : vs.length ≤ sizeLine := by rw [e.length]; exact hl
  refine wpAny_bind (wpAny_newList ?_ hvl)
  have hoL : (s1.heap.push (seqObj "list" vs.toArray 0)).get? s1.heap.objs.size = some (seqObj "list" vs.toArray 0) := Heap.get?_push_size _ rfl
  have hold : ∀ {b : Addr} {o : Obj}, s1.heap.get? b = some o → (s1.heap.push (seqObj "list" vs.toArray 0)).get? b = some o := fun z => Heap.get?_push_of_some _ z
  obtain ⟨er1, er2⟩ := each_and e
  have er : PySem.W.EachIs (fun (v : Value) (b : V × PyData) => ∃ as, Reads (PySem.W.sortingHeap (s1.heap.push (seqObj "list" vs.toArray 0)) s1.heap.objs.size vs) v b.2 as) vs bs :=
    er2.mono fun v b ⟨as, r⟩ => ⟨as, PyProof.Rows.Reads.keeps (fun c o z => PySem.W.sortingHeap_old (Nat.ne_of_lt (Heap.lt_size z)) (hold z)) r⟩
  refine wpAny_bind (wpAny_holding (wpAny_call_entry (s := { s1 with heap := s1.heap.push (seqObj "list" vs.toArray 0) }) PyProof.Rows.slot_list_sort ⟨_, hoL, rfl⟩ PyProof.Rows.entry_list_sort
    (PySem.W.list_sort_vals (s := { s1 with heap := s1.heap.push (seqObj "list" vs.toArray 0) }) (κ := PySem.W.dataKind (PySem.W.sortingHeap (s1.heap.push (seqObj "list" vs.toArray 0)) s1.heap.objs.size vs) (bs.map (·.2))) hoL
      (PySem.W.SortsAt.data (s := { s1 with heap := PySem.W.sortingHeap (s1.heap.push (seqObj "list" vs.toArray 0)) s1.heap.objs.size vs }) (PySem.W.each_map (R := fun (v : Value) (d : PyData) => ∃ as, Reads (PySem.W.sortingHeap (s1.heap.push (seqObj "list" vs.toArray 0)) s1.heap.objs.size vs) v d as) (Prod.snd : V × PyData → PyData) er) hal hso fun d hd => ?_) hvl ⟨.none, rfl, ?_⟩) (PyProof.Rows.args_list_sort _)))
  · obtain ⟨b, hb, rfl⟩ := List.mem_map.mp hd
    have := hu b hb
    show A.units + 1 + 1 + b.2.depth < cLine
    omega
  · obtain ⟨c, hc⟩ := PyProof.Rows.sortedHeap_at (vs := vs) (out := (PySem.W.sortVals (PySem.W.dataKind (PySem.W.sortingHeap (s1.heap.push (seqObj "list" vs.toArray 0)) s1.heap.objs.size vs) (bs.map (·.2))) false vs vs).toArray) hoL
    refine wpAny_pure ⟨_, rfl, q _ s1.heap.objs.size _ c (fun b u z => ?_) (Nat.le_refl _) hc (PySem.W.sortVals_data (enc := Prod.snd) false er1 er hal)⟩
    have hlt := Heap.lt_size z
    rw [PyProof.Rows.sortedHeap_old (Nat.ne_of_lt hlt) (by rw [size_push']; exact Nat.lt_succ_of_lt hlt)]
    exact hold z
end
end K83
set_option maxRecDepth 100000
set_option maxHeartbeats 4000000
namespace K83
open PySem PySem.Spec PyProof.Rows L2

/-! ## sorted(d), d a dict whose keys are tuples -/
theorem kdlH {P : Program} {w : World} {d : Addr} {es : Array DictEntry} {ep : Nat} (lo : (d == sysModules) = false) {xs : List (List Key × Addr × Value)} (hx : ∀ i (hi : i < es.size), ∃ y, xs[i]? = some y ∧ es[i].key = .ref y.2.1 ∧ es[i].val = y.2.2) :
    PySem.W.KdlSrc P w "dict" d d es.size (fun i v => ∃ y, xs[i]? = some y ∧ v = .ref y.2.1) (fun h => h.DictRaw d es ep) where
  type := fun _ hm => hm.typeIs
  there := fun _ hm => ⟨Heap.lt_size hm.choose_spec.1, Heap.lt_size hm.choose_spec.1⟩
  keep := fun _ _ hm hk => hm.at fun o e => hk d (.inl rfl) o e
  notList := by decide
  notTuple := by decide
  hint := fun _ _ _ _ hm hq => PySem.W.kdl_hint_dict hm.typeIs hq
  iter := fun _ _ hh hm => ⟨_, _, (fun _ _ hq => wpAny_pyIter_dict_raw lo hm hq), Walks.keysH hh _ d (Nat.ne_of_lt (Heap.lt_size hm.choose_spec.1)) es ep hx, ⟨⟨_, Heap.get?_push_size _ rfl, rfl, rfl⟩, hm.at fun o e => Heap.get?_push_of_some _ e⟩⟩
theorem each_list {α β : Type} {R : α → β → Prop} : ∀ {us : List α} {bs : List β}, us.length = bs.length → (∀ (j : Nat) (u : α) (b : β), us[j]? = some u → bs[j]? = some b → R u b) → PySem.W.EachIs R us bs
  | [], [], _, _ => .nil
  | u :: us, b :: bs, hl, h => .cons (h 0 u b rfl rfl) (each_list (by simpa using hl) fun j u b e1 e2 => h (j + 1) u b e1 e2)
  | [], _ :: _, hl, _ => by simp at hl
  | _ :: _, [], hl, _ => by simp at hl
theorem vals_each {xs : List V} : ∀ {L : List (V × PyData)} {us : List Value}, PySem.W.EachIs (fun (u : Value) (b : V × PyData) => RelV b.1 u) us L → Vals (L.map (·.1)) us
  | [], _, .nil => .nil
  | _ :: _, _, .cons h t => .cons h (vals_each (xs := xs) t)
theorem is_all_of {H : Hp} : ∀ {L : List (V × PyData)}, (∀ b ∈ L, Is H b.1 b.2) → IsAll H (L.map (·.1)) (L.map (·.2))
  | [], _ => .nil
  | b :: L, h => .cons (h b List.mem_cons_self) (is_all_of fun b' hb => h b' (List.mem_cons_of_mem _ hb))
theorem sort_snd (L : List (V × PyData)) : (L.mergeSort (PySem.W.dataLe false Prod.snd)).map (·.2) = sortD (L.map (·.2)) := by
  unfold sortD
  exact List.map_mergeSort (r := PySem.W.dataLe false Prod.snd) (s := PySem.W.dataLe false id) (f := fun b : V × PyData => b.2) (l := L) (fun a _ b _ => rfl)
/-- what sorted leaves, as the layer sees it -/
theorem sort_fin {X : Cx} {pins : List (Addr × Obj)} {σ : L2.St} {H : Hp} {s1 : Shared} (I : Inv X pins σ H s1) {bs : List (V × PyData)} (hbs : ∀ b ∈ bs, Is H b.1 b.2) (hl : bs.length ≤ sizeLine) {Q : VK} (q : ∀ ys p, IsAll H ys (sortD (bs.map (·.2))) → H p = none → Q (.ref p) (upd H p (.lst ys)))
    {h' : Heap} {p : Addr} {out : List Value} {c : Nat} (hk : ∀ b o, s1.heap.get? b = some o → h'.get? b = some o) (hp : s1.heap.objs.size ≤ p) (hg : h'.get? p = some (seqObj "list" out.toArray c)) (he : PySem.W.EachIs (fun (u : Value) (b : V × PyData) => RelV b.1 u) out (bs.mergeSort (PySem.W.dataLe false Prod.snd))) :
    EP X pins σ Q (.ref p) { s1 with heap := h' } := by
  have hn : H p = none := I.hok.fresh hp
  have hi : IsAll H ((bs.mergeSort (PySem.W.dataLe false Prod.snd)).map (·.1)) (sortD (bs.map (·.2))) := by
    rw [← sort_snd]
    exact is_all_of fun b hb => hbs b ((List.mergeSort_perm bs _).mem_iff.mp hb)
  have hl2 : ((bs.mergeSort (PySem.W.dataLe false Prod.snd)).map (·.1)).length ≤ sizeLine := by
    rw [List.length_map, List.length_mergeSort]
    exact hl
  exact ⟨.ref p, upd H p (.lst _), I.laid (t' := s1.toks) hk hp ⟨hl2, out, c, vals_each (xs := []) he, hg⟩, rfl, q _ p hi hn⟩
def rSortDT (K : PySem.W.Frag) : List V → Hp → VK → Prop := fun vs H Q => ∃ (a : Addr) (kvs : List (List Key × V)), vs = [V.ref a] ∧ H a = some (.dT kvs) ∧ PySem.W.AllAlike (kvs.map fun q => keyT q.1) ∧ PySem.W.Sortable (kvs.map fun q => keyT q.1) ∧ (∀ q ∈ kvs, (keyT q.1).depth ≤ 64) ∧
  ∀ ys p, IsAll H ys (sortD (kvs.map fun q => keyT q.1)) → H p = none → Q (.ref p) (upd H p (.lst ys))
theorem cr_sortDT {X : Cx} (hc : X.calm = true) (hu : X.A.units + 200 < cLine) : CallR X (.builtin "sorted") (rSortDT X.K) := by
  intro pins s σ H vs us Q I r h
  obtain ⟨a, kvs, rfl, ha, hal, hso, hd, q⟩ := h
  rw [Vals.ref1 r]
  obtain ⟨z, lo, xs, rel, dd⟩ := dt_of I.hok ha
  obtain ⟨es, ep, hraw, hsz, hx⟩ := dd.raw
  have hlen : xs.length = kvs.length := (Paired.length rel).symm
  have hx' : ∀ i (hi : i < es.size), ∃ y, xs[i]? = some y ∧ es[i].key = .ref y.2.1 ∧ es[i].val = y.2.2 := fun i hi => by
    obtain ⟨y, h1, h2, h3⟩ := hx i hi
    exact ⟨y, h1, h2, h3.1⟩
  have relAt : ∀ {kvs : List (List Key × V)} {xs : List (List Key × Addr × Value)}, KT H kvs xs → (∀ y ∈ xs, H y.2.1 = some (.tup (y.1.map kV))) ∧ (xs.map fun y => keyT y.1) = kvs.map fun q => keyT q.1 := by
    intro kvs xs rel
    induction rel with
    | nil => exact ⟨(fun y hy => by cases hy), rfl⟩
    | @cons p q ps qs h t ih =>
      refine ⟨fun y hy => ?_, by rw [List.map_cons, List.map_cons, ih.2, h.1]⟩
      rcases List.mem_cons.mp hy with e | hy
      · subst e
        rw [← h.1]
        exact h.2.1
      · exact ih.1 y hy
  obtain ⟨rel1, rel2⟩ := relAt rel
  refine sorted_by fun R E' hR => ?_
  refine PySem.W.kdu_collect (kdlH (ep := ep) lo hx') (I.ok.hd hc) hraw (by rw [hsz, hlen]; exact z) fun h' tk acc hk hacc => hR _ _ ?_
  have I1 : Inv X pins σ H { s with heap := h', toks := tk } := I.kept hk
  have hbs : ∀ b ∈ xs.map (fun y => ((V.ref y.2.1, keyT y.1) : V × PyData)), Is H b.1 b.2 := fun b hb => by
    obtain ⟨y, hy, rfl⟩ := List.mem_map.mp hb
    exact .tup (rel1 y hy) (all_keys H _)
  have esnd : (xs.map (fun y => ((V.ref y.2.1, keyT y.1) : V × PyData))).map (·.2) = kvs.map fun q => keyT q.1 := by rw [List.map_map]; exact rel2
  refine ⟨xs.map fun y => (V.ref y.2.1, keyT y.1), each_list (by rw [Array.length_toList, hacc.1, List.length_map, hsz]) fun j u b e1 e2 => ?_, by rw [esnd]; exact hal, by rw [esnd]; exact hso, by rw [List.length_map, hlen]; exact z, fun b hb => ?_, fun h2 p out c k2 hp hg he => sort_fin I1 hbs (by rw [List.length_map, hlen]; exact z) (by rw [esnd]; exact q) k2 hp hg he⟩
  · obtain ⟨y, h1, h2⟩ := hacc.2 j u (by rw [← Array.getElem?_toList]; exact e1)
    rw [List.getElem?_map, h1] at e2
    cases e2
    subst h2
    exact ⟨rfl, Dp.reads I1 _ _ _ (Is.dp (K := X.K) _ _ (hbs _ (List.mem_map.mpr ⟨y, List.mem_of_getElem? h1, rfl⟩))) rfl⟩
  · have hm : b.2 ∈ kvs.map fun q => keyT q.1 := by rw [← esnd]; exact List.mem_map.mpr ⟨b, hb, rfl⟩
    obtain ⟨q0, hq0, e0⟩ := List.mem_map.mp hm
    have := hd q0 hq0
    rw [← e0]
    omega
section
variable {c : Ct} {Γ : List Sv}
theorem c_sortDT : DCall c (.builtin "sorted") (fun rs Γ res => ∃ (p : Addr) (j : Nat) (kvs : List (List Key × PyData)), rs = [.raw (.ref p)] ∧ Γ[j]? = some (.dic p kvs) ∧ PySem.W.AllAlike (kvs.map fun q => keyT q.1) ∧ PySem.W.Sortable (kvs.map fun q => keyT q.1) ∧ (∀ q ∈ kvs, (keyT q.1).depth ≤ 64) ∧
    res = .new (sortD (kvs.map fun q => keyT q.1))) := ⟨fun X hX => ⟨_, cr_sortDT hX.calm (by have := hX.room.un; omega), fun H0 H Γ σ rs vs res S o ⟨p, j, kvs, e1, e2, hal, hso, hd, e3⟩ Q q => by
  subst e1; subst e3
  obtain ⟨v, rfl, o1⟩ := ArAll.one o
  cases (show v = V.ref p from o1)
  obtain ⟨kv, hp, hk⟩ := S.dic e2
  have ek : (kv.map fun q => keyT q.1) = kvs.map fun q => keyT q.1 := by
    have e := congrArg (List.map keyT) hk.keys
    rw [List.map_map, List.map_map] at e
    exact e
  refine ⟨p, kv, rfl, hp, by rw [ek]; exact hal, by rw [ek]; exact hso, fun q hq => ?_, fun ys t iy ht => q _ _ (Same.new ht) ⟨t, ys, rfl, ht, upd_same, IsAll.tk (Same.tk (Same.new ht)) _ _ (by rw [← ek]; exact iy)⟩⟩
  have hm : keyT q.1 ∈ kvs.map fun q => keyT q.1 := by rw [← ek]; exact List.mem_map.mpr ⟨q, hq, rfl⟩
  obtain ⟨q0, hq0, e0⟩ := List.mem_map.mp hm
  rw [← e0]
  exact hd q0 hq0⟩⟩
end
end K83
set_option maxRecDepth 100000
set_option maxHeartbeats 4000000
namespace K83
open PySem PySem.Spec PyProof.Rows L2

/-! ## a table of rows, each a key with its value: nothing asked of what the table says of its own plainness -/
section
variable {P : Program} {w : World} {A : Around} {E : Value → Shared → Prop} {s : Shared}
/-- v is a tuple whose items are k -/
def Tv (P : Program) (w : World) (h : Heap) (k : List Key) (v : Value) : Prop := ∃ b, v = .ref b ∧ IsTupleKey (mixKind P w) h k b
def hT (P : Program) (w : World) (k : List Key) : Int := tupleKeyHash (mixKind P w) k
theorem Tv.keep {h h' : Heap} {k : List Key} {v : Value} (e : ∀ b o, h.get? b = some o → h'.get? b = some o) (x : Tv P w h k v) : Tv P w h' k v := by
  obtain ⟨b, rfl, o, its, n, ho, r⟩ := x
  exact ⟨b, rfl, o, its, n, e b o ho, r⟩
theorem Tv.but {h h' : Heap} {k : List Key} {v : Value} {a : Addr} {o : Obj} {es : Array (Int × Value)} {ep : Nat} {t : SetTable} (x : Tv P w h k v) (ho : h.get? a = some o) (hd : o.data = .set es ep t) (sb : Heap.SameBut a h h') : Tv P w h' k v := by
  obtain ⟨b, rfl, o', its, n, ho', hc, hd', hi⟩ := x
  have hne : b ≠ a := fun z => by
    subst z
    rw [ho] at ho'
    cases ho'
    rw [hd] at hd'
    cases hd'
  exact ⟨b, rfl, o', its, n, (sb.2 b hne).trans ho', hc, hd', hi⟩
theorem mix_items {k : List Key} {vs : List Value} (h : ItemsAre (mixKind P w) k vs) : ∀ v ∈ vs, ofAClassStatement 7 v = pure false ∧ (hashByValue 7 v = pure true ∨ hashByValue 7 v = pure false) := by
  induction h with
  | nil => intro v hv; cases hv
  | cons h1 _ ih =>
    intro v hv
    rcases List.mem_cons.mp hv with e | hv
    · subst e
      rcases keyIs_shape h1 with ⟨i, t, _, e⟩ | ⟨x, t, _, e⟩
      · subst e
        exact ⟨rfl, .inl rfl⟩
      · subst e
        exact ⟨rfl, .inr rfl⟩
    · exact ih v hv
/-- a loop over items that asks each and may stop: whatever it says -/
theorem tup_class {k : List Key} {b : Addr} {Q : Bool → Shared → Prop} (hk : IsTupleKey (mixKind P w) s.heap k b) (h : Q false s) : wpAny (model P w) A (ofAClassStatement 8 (.ref b)) Q E s := by
  have hTy := hk.typeIs
  obtain ⟨o, items, n, ho, _, hd, hi⟩ := hk
  have hit := mix_items hi
  unfold ofAClassStatement
  refine wpAny_bind (wpAny_typeOf hTy ?_)
  dsimp only
  simp only [show (("tuple" : String) == "tuple") = true by decide, if_true]
  refine wpAny_bind (wpAny_pure ?_)
  simp only [Bool.not_true, Bool.false_eq_true, if_false]
  refine wpAny_bind (m := seqItems? (.ref b)) (wpAny_seqItems ho hd ?_)
  dsimp only
  refine wpAny_bind ?_
  rw [← Array.forIn_toList]
  refine wpAny_forIn_list _ (fun rest r s' => (r.1 = none ∧ s' = s) ∧ ∀ v ∈ rest, v ∈ items.toList) _ (fun v rest r s' ⟨⟨hr, e⟩, hall⟩ => ?_) (fun r s' ⟨⟨hr, e⟩, _⟩ => ?_) _ _ ⟨⟨rfl, rfl⟩, fun v hv => hv⟩
  · subst e
    rw [(hit v (hall v List.mem_cons_self)).1]
    refine wpAny_bind (wpAny_pure ?_)
    simp only [Bool.false_eq_true, if_false]
    exact wpAny_pure ⟨⟨rfl, rfl⟩, fun u hu => hall u (List.mem_cons_of_mem _ hu)⟩
  · obtain ⟨r1, r2⟩ := r
    subst e
    simp only at hr
    subst hr
    exact wpAny_pure h
theorem tup_byValue {k : List Key} {b : Addr} {Q : Bool → Shared → Prop} (hk : IsTupleKey (mixKind P w) s.heap k b) (h : ∀ q, Q q s) : wpAny (model P w) A (hashByValue 8 (.ref b)) Q E s := by
  have hTy := hk.typeIs
  obtain ⟨o, items, n, ho, _, hd, hi⟩ := hk
  have hit := mix_items hi
  unfold hashByValue
  refine wpAny_bind (wpAny_specialOf hTy PySem.F.slot_tuple_hash.lookup ?_)
  dsimp only
  refine wpAny_bind (m := seqItems? (.ref b)) (wpAny_seqItems ho hd ?_)
  refine wpAny_bind ?_
  show wpAny _ _ (forIn items _ _) _ _ s
  rw [← Array.forIn_toList]
  refine wpAny_forIn_list _ (fun rest r s' => (∀ q, r.1 = some q → True) ∧ s' = s ∧ ∀ v ∈ rest, v ∈ items.toList) _ (fun v rest r s' ⟨hr, e, hall⟩ => ?_) (fun r s' ⟨hr, e, _⟩ => ?_) _ _ ⟨fun _ _ => trivial, rfl, fun v hv => hv⟩
  · subst e
    rcases (hit v (hall v List.mem_cons_self)).2 with z | z
    · rw [z]
      refine wpAny_bind (wpAny_pure ?_)
      simp only [Bool.not_true, Bool.false_eq_true, if_false]
      exact wpAny_pure ⟨fun _ _ => trivial, rfl, fun u hu => hall u (List.mem_cons_of_mem _ hu)⟩
    · rw [z]
      refine wpAny_bind (wpAny_pure ?_)
      simp only [Bool.not_false, if_true]
      exact wpAny_pure (wpAny_pure (h _))
  · obtain ⟨r1, r2⟩ := r
    subst e
    cases r1 with
    | none => exact wpAny_pure (h _)
    | some q => exact wpAny_pure (h _)
theorem tup_unseen {k : List Key} {b : Addr} {ys : List Value} {Q : Bool → Shared → Prop} (hk : IsTupleKey (mixKind P w) s.heap k b) (hy : ∀ y ∈ ys, ∃ k', Tv P w s.heap k' y) (h : Q false s) : wpAny (model P w) A (searchCouldBeSeen (.ref b) ys) Q E s := by
  unfold searchCouldBeSeen
  refine wpAny_bind (wpAny_forIn_list _ (fun rest r s' => (r.1 = none ∧ s' = s) ∧ ∀ y ∈ rest, y ∈ ys) _ (fun y rest r s' ⟨⟨hr, e⟩, hall⟩ => ?_) (fun r s' ⟨⟨hr, e⟩, _⟩ => ?_) _ _ ⟨⟨rfl, rfl⟩, fun v hv => hv⟩)
  · subst e
    obtain ⟨k', d, rfl, hd⟩ := hy y (hall y List.mem_cons_self)
    have next : ∀ u ∈ rest, u ∈ ys := fun u hu => hall u (List.mem_cons_of_mem _ hu)
    dsimp only
    by_cases hv : (b == d || (carriedByValue (.ref b) && carriedByValue (.ref d))) = true
    · exact L2.wp_if_pos hv (wpAny_pure ⟨⟨rfl, rfl⟩, next⟩)
    · refine L2.wp_if_neg hv ?_
      refine wpAny_bind (wpAny_eqIsQuiet_tuple hk ?_)
      simp only [Bool.not_true, Bool.false_eq_true, if_false]
      refine wpAny_bind (wpAny_eqIsQuiet_tuple hd ?_)
      simp only [Bool.not_true, Bool.false_eq_true, if_false]
      refine wpAny_bind (tup_class hk ?_)
      simp only [Bool.false_eq_true, if_false]
      refine wpAny_bind (tup_class hd ?_)
      simp only [Bool.false_eq_true, if_false]
      exact wpAny_pure ⟨⟨rfl, rfl⟩, next⟩
  · obtain ⟨r1, r2⟩ := r
    subst e
    simp only at hr
    subst hr
    exact wpAny_pure h

/-! ### the table -/
/-- the rows as the set holds them -/
def rowsM (P : Program) (w : World) (L : List (List Key × Value)) : List (Int × Value) := L.map fun p => (hT P w p.1, p.2)
structure TbC (P : Program) (w : World) (a : Addr) (L : List (List Key × Value)) (h : Heap) (o : Obj) (es : Array (Int × Value)) (ep : Nat) (t : SetTable) : Prop where
  at_ : h.get? a = some o
  ex : o.ExactSet
  dat : o.data = .set es ep t
  rows : es.toList = rowsM P w L
  tab : TabOk t (L.map fun p => hT P w p.1)
  led : w.params.followText "set-order" = true ∨ t.led = true
  room : L.length * 5 < t.mask * 3
  few : L.length < 64
structure Tb (P : Program) (w : World) (h : Heap) (a : Addr) (L : List (List Key × Value)) : Prop where
  c : ∃ o es ep t, TbC P w a L h o es ep t
  nd : (L.map (·.1)).Nodup
  is : ∀ p ∈ L, Tv P w h p.1 p.2
variable {a : Addr} {L : List (List Key × Value)} {o : Obj} {es : Array (Int × Value)} {ep : Nat} {t : SetTable}
theorem rows_len (e : es.toList = rowsM P w L) : es.size = L.length := by
  have q := congrArg List.length e
  rw [Array.length_toList] at q
  rw [q]
  exact List.length_map _
theorem TbC.fits {h : Heap} (R : TbC P w a L h o es ep t) : t.fits es.size = true := by
  have h1 := R.tab.sz
  rw [List.length_map] at h1
  have h2 := rows_len R.rows
  have h3 := R.room
  unfold SetTable.fits SetTable.fill
  rw [R.tab.dm, Bool.and_eq_true, beq_iff_eq, decide_eq_true_eq]
  show t.place.size = es.size ∧ t.place.size + 0 ≤ t.mask
  omega
theorem rows_at (e : es.toList = rowsM P w L) {i : Nat} {p : List Key × Value} (h : L[i]? = some p) : es[i]? = some (hT P w p.1, p.2) := by
  rw [← Array.getElem?_toList, e]
  show (L.map _)[i]? = _
  rw [List.getElem?_map, h] <;> rfl
end
end K83
set_option maxRecDepth 100000
set_option maxHeartbeats 4000000
namespace K83
open PySem PySem.Spec PyProof.Rows L2

section
variable {P : Program} {w : World} {A : Around} {E : Value → Shared → Prop} {s : Shared} {a : Addr} {L : List (List Key × Value)} {o : Obj} {es : Array (Int × Value)} {ep : Nat} {t : SetTable}
/-- where a search for the hash h stands behind c steps -/
abbrev stp (t : SetTable) (h : Int) (c : Nat) : SetTable.Probe := nth t.mask (runAt t.mask (SetTable.bits h % (t.mask + 1)) (SetTable.bits h)) c
theorem stp_dummy (m : Nat) : ∀ (n : Nat) (p : SetTable.Probe), p.dummy = none → (nth m p n).dummy = none
  | 0, _, h => h
  | n + 1, p, h => stp_dummy m n (adv m p) (by
    unfold adv
    split <;> exact h)
/-- THE SEARCH from the c-th step on: K the first empty slot's step; what has the key stands ahead -/
theorem seek (R : TbC P w a L s.heap o es ep t) (hL : ∀ p ∈ L, Tv P w s.heap p.1 p.2) {x : Addr} {k : List Key} (hx : IsTupleKey (mixKind P w) s.heap k x) (hu : A.units < cLine) {K : Nat} (hK1 : K < 10 * SetTable.turns t.mask) (hK2 : way t.mask (hT P w k) K ∉ t.place.toList) (hK3 : ∀ c, c < K → way t.mask (hT P w k) c ∈ t.place.toList)
    {Q : SetFound → Shared → Prop} (yes : k ∈ L.map (·.1) → Q (.there none) s) (no : k ∉ L.map (·.1) → Q (.free (way t.mask (hT P w k) K) false) s) :
    ∀ (f c : Nat) (stand : Option SetTable.Probe), stand.getD (t.probeStart (hT P w k)) = stp t (hT P w k) c → c ≤ K → K - c < f → (∀ (i : Nat) p, L[i]? = some p → p.1 = k → ∃ c', c ≤ c' ∧ c' < K ∧ t.place.toList[i]? = some (way t.mask (hT P w k) c')) →
      wpAny (model P w) A (setSearchFrom a (.ref x) (hT P w k) true f stand) Q E s := by
  intro f
  induction f with
  | zero => intro c stand _ _ hf; exact absurd hf (Nat.not_lt_zero _)
  | succ f ih =>
    intro c stand hst hc hf ahead
    rw [L2.setSearchFrom_succ]
    refine wpAny_bind (wpAny_setState_of R.at_ R.dat R.fits ?_)
    dsimp only
    refine L2.wp_if_neg (by unfold SetTable.gaveWay; rw [mask_odd R.tab.mok]; decide) ?_
    try refine wpAny_bind (wpAny_pure ?_)
    have on : ∀ q, nth t.mask (stp t (hT P w k) c) q = stp t (hT P w k) (c + q) := fun q => (nth_add t.mask c _ q).symm
    have onj : ∀ q, (nth t.mask (stp t (hT P w k) c) q).j = way t.mask (hT P w k) (c + q) := fun q => congrArg SetTable.Probe.j (on q)
    have cK : c + (K - c) = K := by omega
    have hashOf : ∀ (i : Nat) p, L[i]? = some p → (es[i]?.map (·.1)).getD 0 = hT P w p.1 := fun i p hp => by rw [rows_at R.rows hp] <;> rfl
    have sp := go_spec t R.tab.ris R.tab.dm (fun i => (es[i]?.map (·.1)).getD 0) (hT P w k) (10 * SetTable.turns t.mask) (K - c) (stp t (hT P w k) c) (stp_dummy _ _ _ rfl) (by omega) (fun q hq => by rw [onj]; exact hK3 _ (by omega)) (by rw [onj, cK]; exact hK2)
    -- a row of the key stands on the way, so the scan cannot pass its hash
    have clash : ∀ (i : Nat) p, L[i]? = some p → p.1 = k → ∀ m, (∀ k' i', k' < m → t.place.toList[i']? = some (nth t.mask (stp t (hT P w k) c) k').j → (es[i']?.map (fun z : Int × Value => z.1)).getD 0 ≠ hT P w k) → ∃ c', c + m ≤ c' ∧ c' < K ∧ t.place.toList[i]? = some (way t.mask (hT P w k) c') := fun i p hp hk m nn => by
      obtain ⟨c', h1, h2, h3⟩ := ahead i p hp hk
      rcases Nat.lt_or_ge c' (c + m) with z | z
      · refine absurd ((hashOf i p hp).trans (congrArg (hT P w) hk)) (nn (c' - c) i (by omega) ?_)
        rw [onj, show c + (c' - c) = c' by omega]
        exact h3
      · exact ⟨c', z, h2, h3⟩
    rcases sp with ⟨q, i, hq, hi, hh, nn, met⟩ | ⟨nn, met⟩
    · rw [onj] at hi
      have met' : t.probe (fun i => (es[i]?.map (·.1)).getD 0) (hT P w k) (stand.getD (t.probeStart (hT P w k))) = some (.candidate (way t.mask (hT P w k) (c + q)) i (stp t (hT P w k) (c + (q + 1)))) := by
        rw [hst, ← onj, ← on]
        exact met
      rw [met']
      dsimp only
      have hil : i < L.length := by
        have h1 := (List.getElem?_eq_some_iff.mp hi).1
        have h2 := R.tab.sz
        rw [List.length_map] at h2
        rw [Array.length_toList] at h1
        omega
      obtain ⟨p, hp⟩ : ∃ p, L[i]? = some p := ⟨_, List.getElem?_eq_getElem hil⟩
      have hm : p ∈ L := List.mem_of_getElem? hp
      obtain ⟨pb, pe, hpb⟩ := hL p hm
      have live : t.slot (way t.mask (hT P w k) (c + q)) = .live i := slot_live R.tab.ris hi
      have rest : wpAny (model P w) A (L2.searchRest a (.ref x) (hT P w k) true f es t (way t.mask (hT P w k) (c + q)) i (stp t (hT P w k) (c + (q + 1)))) Q E s := by
        unfold L2.searchRest
        rw [rows_at R.rows hp, pe]
        dsimp only
        refine wpAny_bind (wpAny_holding (wpAny_eqBool_tuple hu hpb hx ?_))
        refine wpAny_bind (wpAny_setState_of R.at_ R.dat R.fits ?_)
        dsimp only
        by_cases hpk : p.1 = k
        · exact L2.wp_if_pos (by simp [hpk]) (wpAny_pure (yes (List.mem_map.mpr ⟨p, hm, hpk⟩)))
        · refine L2.wp_if_neg (by simp [hpk]) ?_
          try refine wpAny_bind (wpAny_pure ?_)
          rw [sameMem]
          dsimp only
          simp only [if_true, live, rows_at R.rows hp, pe]
          refine wpAny_bind (wpAny_isSame_ref_self (wpAny_bind (wpAny_pure ?_)))
          simp only [if_true]
          refine L2.wp_if_neg (by simp [hpk]) ?_
          refine ih (c + (q + 1)) _ rfl (by omega) (by omega) fun i0 p0 h0 hk0 => ?_
          obtain ⟨c', b1, b2, b3⟩ := clash i0 p0 h0 hk0 q nn
          rcases Nat.lt_or_ge (c + q) c' with z | z
          · exact ⟨c', by omega, b2, b3⟩
          · exfalso
            have ec : c' = c + q := by omega
            rw [ec] at b3
            have l2 := slot_live R.tab.ris b3
            rw [live] at l2
            cases l2
            rw [hp] at h0
            cases h0
            exact hpk hk0
      by_cases hl : t.led = true
      · refine L2.wp_if_neg (by simp [hl]) ?_
        try refine wpAny_bind (wpAny_pure ?_)
        exact rest
      · refine L2.wp_if_pos (by simp [hl]) ?_
        refine wpAny_bind (tup_unseen hx (fun y hy => ?_) ?_)
        · obtain ⟨e, he, ee⟩ := List.mem_map.mp hy
          have he1 : e ∈ es ∧ e.1 = hT P w k := by simpa using he
          have he2 : e ∈ rowsM P w L := by rw [← R.rows]; simpa using he1.1
          obtain ⟨p2, hp2, e2⟩ := List.mem_map.mp he2
          rw [← ee, ← e2]
          exact ⟨p2.1, hL p2 hp2⟩
        · refine L2.wp_if_neg (by decide) ?_
          try refine wpAny_bind (wpAny_pure ?_)
          exact rest
    · have met' : t.probe (fun i => (es[i]?.map (·.1)).getD 0) (hT P w k) (stand.getD (t.probeStart (hT P w k))) = some (.empty (way t.mask (hT P w k) K) none) := by
        have e2 : way t.mask (hT P w k) K = (nth t.mask (stp t (hT P w k) c) (K - c)).j := by rw [onj, cK]
        rw [hst, e2]
        exact met
      rw [met']
      dsimp only
      refine wpAny_pure (no fun hm => ?_)
      obtain ⟨p0, h0, hk0⟩ := List.mem_map.mp hm
      obtain ⟨i0, hi0, e0⟩ := List.getElem_of_mem h0
      obtain ⟨c', b1, b2, _⟩ := clash i0 p0 (by rw [List.getElem?_eq_getElem hi0, e0]) hk0 (K - c) nn
      omega
/-- the search as adding asks for it -/
theorem seek_all (R : TbC P w a L s.heap o es ep t) (hL : ∀ p ∈ L, Tv P w s.heap p.1 p.2) {x : Addr} {k : List Key} (hx : IsTupleKey (mixKind P w) s.heap k x) (hu : A.units < cLine) {Q : SetFound → Shared → Prop} (yes : k ∈ L.map (·.1) → Q (.there none) s)
    (no : ∀ K, k ∉ L.map (·.1) → way t.mask (hT P w k) K ∉ t.place.toList → (∀ c, c < K → way t.mask (hT P w k) c ∈ t.place.toList) → Q (.free (way t.mask (hT P w k) K) false) s) : wpAny (model P w) A (setSearch a (.ref x) (hT P w k) true) Q E s := by
  have hr := R.room
  obtain ⟨K, k1, k2, k3⟩ := R.tab.first (by rw [List.length_map]; omega) (hT P w k)
  have big : K < 100000 := by
    have : 10 * SetTable.turns t.mask ≤ 1420 := by
      unfold SetTable.turns
      rcases R.tab.mok with e | e | e <;> omega
    omega
  unfold setSearch
  refine seek R hL hx hu k1 k2 k3 yes (fun h => no K h k2 k3) 100000 0 none rfl (Nat.zero_le _) (by omega) fun i p hp hk => ?_
  have h1 : (L.map fun p => hT P w p.1)[i]? = some (hT P w k) := by rw [List.getElem?_map, hp, ← hk] <;> rfl
  have h2 : i < t.place.toList.length := by
    have z1 := (List.getElem?_eq_some_iff.mp hp).1
    have z2 := R.tab.sz
    rw [List.length_map] at z2
    rw [Array.length_toList]
    omega
  obtain ⟨c, hc, e⟩ := R.tab.before k2 h1 (List.getElem?_eq_getElem h2)
  exact ⟨c, Nat.zero_le _, hc, by rw [List.getElem?_eq_getElem h2, e]⟩
end
end K83
set_option maxRecDepth 100000
set_option maxHeartbeats 4000000
namespace K83
open PySem PySem.Spec PyProof.Rows L2

theorem all_at {α : Type} : ∀ L : List α, (List.range L.length).filterMap (fun i => L[i]?) = L
  | [] => rfl
  | x :: L => by
    rw [List.length_cons, List.range_succ_eq_map, List.filterMap_cons_some (f := fun i => (x :: L)[i]?) (a := 0) (b := x) rfl, List.filterMap_map]
    exact congrArg (x :: ·) (all_at L)
section
variable {P : Program} {w : World} {A : Around} {E : Value → Shared → Prop} {s : Shared} {a : Addr} {L : List (List Key × Value)} {o : Obj} {es : Array (Int × Value)} {ep : Nat} {t : SetTable}
/-- the rows in another order -/
theorem reorder (e : es.toList = rowsM P w L) {order : Array Nat} (hp : order.toList.Perm (List.range L.length)) : ∃ L2 : List (List Key × Value), (order.filterMap (es[·]?)).toList = rowsM P w L2 ∧ L2.Perm L ∧ (L2.map fun p => hT P w p.1) = order.toList.map fun i => (es.map (·.1)).getD i 0 := by
  have row : ∀ i : Nat, es[i]? = (L[i]?).map fun (p : List Key × Value) => (hT P w p.1, p.2) := fun i => by
    rw [← Array.getElem?_toList, e]
    exact List.getElem?_map
  refine ⟨order.toList.filterMap fun i => L[i]?, ?_, ?_, ?_⟩
  · have h1 : (order.filterMap (es[·]?)).toList = order.toList.filterMap fun i => es[i]? := by simp
    rw [h1]
    unfold rowsM
    rw [List.map_filterMap]
    exact congrArg (fun f => List.filterMap f order.toList) (funext row)
  · have h1 := hp.filterMap fun i => L[i]?
    rw [all_at L] at h1
    exact h1
  · have hb : ∀ i ∈ order.toList, i < L.length := fun i hi => List.mem_range.mp (hp.mem_iff.mp hi)
    generalize order.toList = l at hb
    induction l with
    | nil => rfl
    | cons i l ih =>
      have hi := hb i List.mem_cons_self
      have e1 : (es.map (·.1)).getD i 0 = hT P w (L[i]).1 := by
        have e5 : (es.map (·.1))[i]? = some (hT P w (L[i]).1) := by
          rw [Array.getElem?_map, row i, List.getElem?_eq_getElem hi] <;> rfl
        rw [Array.getD_eq_getD_getElem?, e5] <;> rfl
      rw [List.filterMap_cons_some (List.getElem?_eq_getElem hi), List.map_cons, List.map_cons, ih fun j hj => hb j (List.mem_cons_of_mem _ hj), e1]
theorem room_cases {m n : Nat} (hm : MaskOk m) (h1 : n * 5 < m * 3) (h2 : (n + 1) * 5 ≥ m * 3) (h3 : n + 1 < 64) : ∃ M, SetTable.sizeAbove (SetTable.grown (n + 1)) - 1 = M ∧ MaskOk M ∧ SetTable.sizeAbove (SetTable.grown (n + 1)) ≤ 128 ∧ (n + 1) * 5 < M * 3 ∧ n + 1 ≤ m := by
  rcases hm with e | e | e
  · have : n = 4 := by omega
    subst this
    exact ⟨31, by rw [size_20], .inr (.inl rfl), by rw [size_20]; decide, by decide, by omega⟩
  · have : n = 18 := by omega
    subst this
    exact ⟨127, by rw [size_76], .inr (.inr rfl), by rw [size_76]; decide, by decide, by omega⟩
  · omega
/-- what adding owes -/
abbrev Grown (k : List Key) (v : Value) (L L' : List (List Key × Value)) : Prop := (k ∈ L.map (·.1) → L' = L) ∧ (k ∉ L.map (·.1) → L'.Perm ((k, v) :: L))
/-- the table laid anew -/
theorem tb_relay {L1 : List (List Key × Value)} (ho : s.heap.get? a = some o) (hex : o.ExactSet) (hd : o.data = .set es ep t) (hr : es.toList = rowsM P w L1) (htab : TabOk t (L1.map fun p => hT P w p.1)) (hfit : L1.length ≤ t.mask) (nd : (L1.map (·.1)).Nodup) (hL : ∀ p ∈ L1, Tv P w s.heap p.1 p.2)
    (hled : w.params.followText "set-order" = true ∨ t.led = true) (few : L1.length < 64) {wanted M : Nat} (hw : SetTable.sizeAbove wanted - 1 = M) (hM : MaskOk M) (hw2 : SetTable.sizeAbove wanted ≤ 128) (hn : L1.length * 5 < M * 3) {Q : Unit → Shared → Prop}
    (hQ : ∀ h' L', Heap.SameBut a s.heap h' → Tb P w h' a L' → L'.Perm L1 → Q () { s with heap := h' }) : wpAny (model P w) A (setRelay a wanted) Q E s := by
  have hsl := rows_len hr
  have hps := htab.sz
  rw [List.length_map] at hps
  have fit : t.fits es.size = true := by
    unfold SetTable.fits SetTable.fill
    rw [htab.dm, Bool.and_eq_true, beq_iff_eq, decide_eq_true_eq]
    show t.place.size = es.size ∧ t.place.size + 0 ≤ t.mask
    omega
  obtain ⟨t', order, e, hp, T, em, el, _, _⟩ := relaid_ok t (hs := es.map (·.1)) (wanted := wanted) hw hM (by rw [Array.size_map, hsl]; omega)
  rw [Array.size_map, hsl] at hp
  obtain ⟨L2', r1, r2, r3⟩ := reorder hr hp
  rw [← r3] at T
  have hs2 : (order.filterMap (es[·]?)).size = es.size := by rw [rows_len r1, r2.length_eq, hsl]
  rw [L2.setRelay_eq]
  refine wpAny_bind (wpAny_setState_of ho hd fit ?_)
  dsimp only
  refine L2.wp_if_neg (by rw [sizeLine_eq]; omega) ?_
  try refine wpAny_bind (wpAny_pure ?_)
  rw [e]
  dsimp only
  refine wpAny_bind ?_
  refine L2.wp_if_neg (by rw [hs2]; simp) ?_
  try refine wpAny_bind (wpAny_pure ?_)
  refine wpAny_pure ?_
  dsimp only
  refine wpAny_storeSet_of ho hd ?_ (by rw [hs2, hsl, sizeLine_eq]; omega)
  have sb : Heap.SameBut a s.heap (s.heap.update a (Obj.putSet (order.filterMap (es[·]?)) t')) := Heap.SameBut.update ..
  refine hQ _ L2' sb ⟨⟨_, _, _, t', store_at ho hd, ⟨hex.1, hex.2.1, hex.2.2⟩, rfl, r1, T, hled.imp id fun z => by rw [el]; exact z, by rw [r2.length_eq, em]; exact hn, by rw [r2.length_eq]; exact few⟩, (r2.map (·.1)).nodup_iff.mpr nd, fun p hpm => (hL p (r2.mem_iff.mp hpm)).but ho hd sb⟩ r2
theorem tab_plain {hs : List Int} {b : Bool} (T : TabOk t hs) : TabOk { t with plain := b } hs := ⟨T.ris, T.dm, T.sz, T.mok, T.bd, T.reach⟩
/-- ADDING -/
theorem tb_add (R : Tb P w s.heap a L) {k : List Key} {v : Value} (hv : Tv P w s.heap k v) (hu : A.units < cLine) (hfew : L.length + 1 < 64) {Q : Bool → Shared → Prop} (hQ : ∀ b h' L', Heap.SameBut a s.heap h' → Tb P w h' a L' → Grown k v L L' → Q b { s with heap := h' }) :
    wpAny (model P w) A (setAddHashed a v (hT P w k)) Q E s := by
  obtain ⟨x, rfl, hx⟩ := hv
  obtain ⟨⟨o, es, ep, t, C⟩, nd, hL⟩ := R
  have hsl := rows_len C.rows
  have hroom := C.room
  unfold setAddHashed
  refine wpAny_holding ?_
  rw [show (100000 : Nat) = 99999 + 1 from rfl, L2.setAddHashedIn_succ]
  refine wpAny_bind (wpAny_setState_of C.at_ C.dat C.fits ?_)
  dsimp only
  refine L2.wp_if_neg (by simp [byScan, Value.scannable]) ?_
  try refine wpAny_bind (wpAny_pure ?_)
  refine wpAny_bind (seek_all C hL hx hu (fun hm => ?_) fun K hm k2 k3 => ?_)
  · dsimp only
    exact wpAny_pure (hQ false s.heap L (Heap.SameBut.refl a s.heap) ⟨⟨o, es, ep, t, C⟩, nd, hL⟩ ⟨fun _ => rfl, fun z => absurd hm z⟩)
  · dsimp only
    refine wpAny_bind (wpAny_setState_of C.at_ C.dat C.fits ?_)
    dsimp only
    obtain ⟨q1, q2, q3, q4, q5, _, _, _, q9⟩ := C.tab.put k2 k3
    generalize hpt : t.put (way t.mask (hT P w k) K) = pt at q1 q3 q4 q5 q9 ⊢
    obtain ⟨t1, p⟩ := pt
    dsimp only at q1 q3 q4 q5 q9 ⊢
    subst q1
    -- behind the question whether the hash is by value
    have tail : ∀ pl : Bool, wpAny (model P w) A (do
        storeSet a (SetTable.insertAt es (SetTable.below t.place (way t.mask (hT P w k) K)) (hT P w k, Value.ref x)) { t1 with plain := pl }
        if (!false && SetTable.tooFull { t1 with plain := pl }) = true then setRelay a (SetTable.grown (es.size + 1))
        pure true) Q E s := by
      intro pl
      have hin : (SetTable.insertAt es (SetTable.below t.place (way t.mask (hT P w k) K)) (hT P w k, Value.ref x)).toList = rowsM P w (L.take (SetTable.below t.place (way t.mask (hT P w k) K)) ++ (k, Value.ref x) :: L.drop (SetTable.below t.place (way t.mask (hT P w k) K))) := by
        rw [SetTable.toList_insertAt, C.rows]
        unfold rowsM
        rw [List.map_append, List.map_cons, List.map_take, List.map_drop]
      have htab : TabOk { t1 with plain := pl } ((L.take (SetTable.below t.place (way t.mask (hT P w k) K)) ++ (k, Value.ref x) :: L.drop (SetTable.below t.place (way t.mask (hT P w k) K))).map fun p => hT P w p.1) := by
        rw [List.map_append, List.map_cons, List.map_take, List.map_drop]
        exact tab_plain q3
      have pm := put_perm L (SetTable.below t.place (way t.mask (hT P w k) K)) (k, Value.ref x)
      generalize L.take (SetTable.below t.place (way t.mask (hT P w k) K)) ++ (k, Value.ref x) :: L.drop (SetTable.below t.place (way t.mask (hT P w k) K)) = L1 at hin htab pm
      generalize SetTable.insertAt es (SetTable.below t.place (way t.mask (hT P w k) K)) (hT P w k, Value.ref x) = es1 at hin ⊢
      have hlen : L1.length = L.length + 1 := pm.length_eq
      have hes := rows_len hin
      have nd1 : (L1.map (·.1)).Nodup := (pm.map (·.1)).nodup_iff.mpr (List.nodup_cons.mpr ⟨hm, nd⟩)
      refine wpAny_bind (wpAny_storeSet_of C.at_ C.dat ?_ (by rw [hes, hlen, sizeLine_eq]; omega))
      have sb : Heap.SameBut a s.heap (s.heap.update a (Obj.putSet es1 { t1 with plain := pl })) := Heap.SameBut.update ..
      have ho1 := store_at (es' := es1) (t' := { t1 with plain := pl }) C.at_ C.dat
      generalize s.heap.update a (Obj.putSet es1 { t1 with plain := pl }) = h1 at sb ho1 ⊢
      have hL1 : ∀ p ∈ L1, Tv P w h1 p.1 p.2 := fun p hp => by
        rcases List.mem_cons.mp (pm.mem_iff.mp hp) with e | hp
        · rw [e]
          exact Tv.but ⟨x, rfl, hx⟩ C.at_ C.dat sb
        · exact (hL p hp).but C.at_ C.dat sb
      have led1 : w.params.followText "set-order" = true ∨ ({ t1 with plain := pl } : SetTable).led = true := C.led.imp id fun z => by
        show t1.led = true
        rw [q5]
        exact z
      by_cases hf : SetTable.tooFull { t1 with plain := pl } = true
      · have full : (L.length + 1) * 5 ≥ t.mask * 3 := by
          have z := hf
          unfold SetTable.tooFull at z
          rw [decide_eq_true_eq] at z
          have z2 : SetTable.fill { t1 with plain := pl } = L.length + 1 := by
            have := q9
            rw [List.length_map] at this
            exact this
          rw [z2] at z
          have z3 : (L.length + 1) * 5 ≥ t1.mask * 3 := z
          rw [q4] at z3
          exact z3
        obtain ⟨M, m1, m2, m3, m4, m5⟩ := room_cases C.tab.mok hroom full hfew
        refine L2.wp_if_pos (by simp [hf]) ?_
        refine wpAny_bind ?_
        rw [hsl]
        refine tb_relay (s := { s with heap := h1 }) ho1 ⟨C.ex.1, C.ex.2.1, C.ex.2.2⟩ rfl hin htab ?_ nd1 hL1 led1 (by rw [hlen]; exact hfew) m1 m2 m3 (by rw [hlen]; exact m4) fun h2 L2' sb2 R2 pm2 => ?_
        · show L1.length ≤ t1.mask
          rw [hlen, q4]
          exact m5
        · exact wpAny_pure (hQ true h2 L2' (sb.trans sb2) R2 ⟨fun z => absurd z hm, fun _ => pm2.trans pm⟩)
      · refine L2.wp_if_neg (by simp [hf]) ?_
        refine wpAny_pure (hQ true h1 L1 sb ⟨⟨_, es1, _, { t1 with plain := pl }, ho1, ⟨C.ex.1, C.ex.2.1, C.ex.2.2⟩, rfl, hin, htab, led1, ?_, by rw [hlen]; exact hfew⟩, nd1, hL1⟩ ⟨fun z => absurd z hm, fun _ => pm⟩)
        have z := hf
        unfold SetTable.tooFull at z
        rw [decide_eq_true_eq] at z
        have z2 : SetTable.fill { t1 with plain := pl } = L.length + 1 := by
          have := q9
          rw [List.length_map] at this
          exact this
        rw [z2] at z
        rw [hlen]
        show (L.length + 1) * 5 < t1.mask * 3
        have z4 : ¬ (L.length + 1) * 5 ≥ t1.mask * 3 := z
        omega
    by_cases hpl : t1.plain = true
    · refine L2.wp_if_pos hpl (wpAny_bind (tup_byValue hx fun q => ?_))
      cases q with
      | true => exact tail t1.plain
      | false => exact tail false
    · refine L2.wp_if_neg hpl (wpAny_bind (wpAny_pure ?_))
      exact tail t1.plain
end
end K83
set_option maxRecDepth 100000
set_option maxHeartbeats 4000000
namespace K83
open PySem PySem.Spec PyProof.Rows L2

theorem perm_back {α β : Type} (f : α → β) {l m : List β} (h : l.Perm m) : ∀ {M : List α}, m = M.map f → ∃ M' : List α, l = M'.map f ∧ M'.Perm M := by
  induction h with
  | nil => intro M e; cases M with
    | nil => exact ⟨[], rfl, .refl _⟩
    | cons x M => cases e
  | @cons x l m hp ih => intro M e; cases M with
    | nil => cases e
    | cons y M =>
      rw [List.map_cons] at e
      injection e with e1 e2
      obtain ⟨M', h1, h2⟩ := ih e2
      exact ⟨y :: M', by rw [h1, e1] <;> rfl, h2.cons y⟩
  | swap x y l => intro M e; match M, e with
    | p :: q :: M, e =>
      rw [List.map_cons, List.map_cons] at e
      injection e with e1 e2
      injection e2 with e2 e3
      exact ⟨q :: p :: M, by rw [e1, e2, e3] <;> rfl, .swap p q M⟩
  | trans _ _ ih1 ih2 => intro M e
                         obtain ⟨M1, h1, h2⟩ := ih2 e
                         obtain ⟨M2, h3, h4⟩ := ih1 h1
                         exact ⟨M2, h3, h4.trans h2⟩
section
variable {P : Program} {w : World} {A : Around} {E : Value → Shared → Prop} {s : Shared} {a : Addr} {L : List (Str × Value)} {o : Obj} {es : Array (Int × Value)} {ep : Nat} {t : SetTable}
/-! ## sets of texts: found by scanning -/
def rowsS (P : Program) (w : World) (L : List (Str × Value)) : List (Int × Value) := L.map fun p => ((strKind P w).hash p.1, p.2)
abbrev Sx (P : Program) (w : World) (k : Str) (v : Value) : Prop := (strKind P w).is k v = true
theorem sx_scan {k : Str} {v : Value} (h : Sx P w k v) : v.scannable = true := by
  obtain ⟨tk, rfl⟩ := Value.isStrOf_shape (x := k) (v := v) h
  rfl
structure TsC (P : Program) (w : World) (a : Addr) (L : List (Str × Value)) (h : Heap) (o : Obj) (es : Array (Int × Value)) (ep : Nat) (t : SetTable) : Prop where
  at_ : h.get? a = some o
  ex : o.ExactSet
  dat : o.data = .set es ep t
  rows : es.toList = rowsS P w L
  fits : t.fits es.size = true
  ris : Ris t.place.toList
  led : w.params.followText "set-order" = true ∨ t.led = true
  few : L.length < 64
structure Ts (P : Program) (w : World) (h : Heap) (a : Addr) (L : List (Str × Value)) : Prop where
  c : ∃ o es ep t, TsC P w a L h o es ep t
  nd : (L.map (·.1)).Nodup
  is : ∀ p ∈ L, Sx P w p.1 p.2
theorem rowsS_len (e : es.toList = rowsS P w L) : es.size = L.length := by
  have q := congrArg List.length e
  rw [Array.length_toList] at q
  rw [q]
  exact List.length_map _
theorem rowsS_elems (e : es.toList = rowsS P w L) (h : ∀ p ∈ L, Sx P w p.1 p.2) : ElemsOf (strKind P w) es.toList := fun x hx => by
  rw [e] at hx
  obtain ⟨p, hp, rfl⟩ := List.mem_map.mp hx
  exact ⟨⟨p.1, h p hp, rfl⟩, sx_scan (h p hp)⟩
/-- behind the new row: the table stored, laid anew where it is full -/
theorem ts_tail {g : Bool → Sem Unit} (hg : ∀ (b : Bool) (s₁ : Shared) (Q' : Unit → Shared → Prop), Q' () s₁ → wpAny (model P w) A (g b) Q' E s₁) (ho : s.heap.get? a = some o) (hex : o.ExactSet) (hd : o.data = .set es ep t) {es1 : Array (Int × Value)} {t1 : SetTable} {L1 : List (Str × Value)} (hr : es1.toList = rowsS P w L1)
    (hfit : t1.fits es1.size = true) (ris : Ris t1.place.toList) (hled : w.params.followText "set-order" = true ∨ t1.led = true) (few : L1.length < 64) (nd : (L1.map (·.1)).Nodup) (is : ∀ p ∈ L1, Sx P w p.1 p.2) {wasDummy : Bool} {R : Option Bool → Shared → Prop}
    (hR : ∀ h' L', Heap.SameBut a s.heap h' → Ts P w h' a L' → L'.Perm L1 → R (some true) { s with heap := h' }) :
    wpAny (model P w) A (do
        storeSet a es1 t1
        if (!wasDummy && t1.tooFull) = true then do
            g (relayAll t1 es1 (SetTable.grown es1.size)).2.2
            storeSet a (relayAll t1 es1 (SetTable.grown es1.size)).1 (relayAll t1 es1 (SetTable.grown es1.size)).2.1
            pure (some true)
          else pure (some true)) R E s := by
  have hs1 := rowsS_len hr
  refine wpAny_bind (wpAny_storeSet_of ho hd ?_ (by rw [hs1, sizeLine_eq]; omega))
  have ho1 := store_at (es' := es1) (t' := t1) ho hd
  have sb1 := Heap.SameBut.update s.heap a (Obj.putSet es1 t1)
  split
  · have pm := relayAll_perm t1 es1 (SetTable.grown es1.size)
    have f3 := relayAll_fits t1 es1 (SetTable.grown es1.size)
    have r3 := relayAll_ris t1 es1 (SetTable.grown es1.size)
    have l3 := relayAll_led t1 es1 (SetTable.grown es1.size)
    generalize relayAll t1 es1 (SetTable.grown es1.size) = Z at pm f3 r3 l3 ⊢
    obtain ⟨es2, t3, gave⟩ := Z
    dsimp only at pm f3 r3 l3 ⊢
    rw [hr] at pm
    obtain ⟨L2', e2, p2⟩ := perm_back _ pm rfl
    have hs2 := rowsS_len (P := P) (w := w) (L := L2') e2
    refine wpAny_bind (hg _ _ _ ?_)
    refine wpAny_bind (wpAny_storeSet_of ho1 rfl ?_ (by rw [hs2, p2.length_eq, sizeLine_eq]; omega))
    refine wpAny_pure (hR _ L2' (sb1.trans (Heap.SameBut.update _ a _)) ⟨⟨_, es2, _, t3, store_at (es' := es2) (t' := t3) ho1 rfl, ⟨hex.1, hex.2.1, hex.2.2⟩, rfl, e2, f3, r3, hled.imp id fun z => by rw [l3]; exact z, by rw [p2.length_eq]; exact few⟩, (p2.map (·.1)).nodup_iff.mpr nd, fun p hp => is p (p2.mem_iff.mp hp)⟩ p2)
  · exact wpAny_pure (hR _ L1 sb1 ⟨⟨_, es1, _, t1, ho1, ⟨hex.1, hex.2.1, hex.2.2⟩, rfl, hr, hfit, ris, hled, few⟩, nd, is⟩ (.refl _))
abbrev GrownS (k : Str) (v : Value) (L L' : List (Str × Value)) : Prop := (k ∈ L.map (·.1) → L' = L) ∧ (k ∉ L.map (·.1) → L'.Perm ((k, v) :: L))
theorem ts_add (R : Ts P w s.heap a L) {k : Str} {v : Value} (hv : Sx P w k v) (hfew : L.length + 1 < 64) {Q : Bool → Shared → Prop} (hQ : ∀ b h' L', Heap.SameBut a s.heap h' → Ts P w h' a L' → GrownS k v L L' → Q b { s with heap := h' }) :
    wpAny (model P w) A (setAddHashed a v ((strKind P w).hash k)) Q E s := by
  obtain ⟨⟨o, es, ep, t, C⟩, nd, is⟩ := R
  have hsc := sx_scan hv
  have hsz := rowsS_len C.rows
  have hel := rowsS_elems C.rows is
  have hb : es.size < scanBound := by
    rw [hsz]
    have : scanBound = 4096 := rfl
    omega
  unfold setAddHashed setAddHashedIn
  refine wpAny_holding (wpAny_bind (wpAny_setState_of C.at_ C.dat C.fits ?_))
  dsimp only
  rw [byScan_of hsc hb hel]
  simp only [↓reduceIte]
  unfold setAddByScan
  refine wpAny_bind ?_
  refine wpAny_bind (wpAny_rule ?_)
  refine wpAny_bind (wpAny_setScan_of hv C.at_ C.dat C.fits hel ?_)
  have mem : k ∈ L.map (·.1) ↔ ∃ e ∈ es.toList, (strKind P w).is k e.2 = true := by
    rw [C.rows]
    constructor
    · intro h
      obtain ⟨p, hp, rfl⟩ := List.mem_map.mp h
      exact ⟨_, List.mem_map.mpr ⟨p, hp, rfl⟩, is p hp⟩
    · rintro ⟨e, he, q⟩
      obtain ⟨p, hp, rfl⟩ := List.mem_map.mp he
      exact List.mem_map.mpr ⟨p, hp, (strKind P w).inj _ _ _ (is p hp) q⟩
  cases hfi : List.findIdx? (fun e => (strKind P w).is k e.2) es.toList with
  | some j =>
    dsimp only
    obtain ⟨hj, pj, _⟩ := List.findIdx?_eq_some_iff_getElem.mp hfi
    have hm : k ∈ L.map (·.1) := mem.mpr ⟨es.toList[j], List.getElem_mem hj, pj⟩
    exact wpAny_pure (wpAny_pure (hQ false s.heap L (Heap.SameBut.refl a s.heap) ⟨⟨o, es, ep, t, C⟩, nd, is⟩ ⟨fun _ => rfl, fun z => absurd hm z⟩))
  | none =>
    dsimp only
    have hm : k ∉ L.map (·.1) := fun z => by
      obtain ⟨e, he, q⟩ := mem.mp z
      have c := List.findIdx?_eq_none_iff.mp hfi e he
      rw [q] at c
      cases c
    have gw : ∀ (b : Bool) {s₁ : Shared} {Q' : Unit → Shared → Prop}, Q' () s₁ → wpAny (model P w) A (match b with | true => rule "set.scan.the-table-gave-way" | false => pure ()) Q' E s₁ :=
      fun b s₁ Q' q => by cases b <;> first | exact wpAny_pure q | exact wpAny_rule q
    have pm := layNew_perm t es ((strKind P w).hash k) v
    have f1 := layNew_fits t es ((strKind P w).hash k) v
    have r1 := layNew_ris t es ((strKind P w).hash k) v C.ris
    have l1 := layNew_led t es ((strKind P w).hash k) v
    generalize layNew t es ((strKind P w).hash k) v = Z at pm f1 r1 l1 ⊢
    obtain ⟨es1, t1, wasDummy, gave⟩ := Z
    dsimp only at pm f1 r1 l1 ⊢
    rw [Array.toList_push] at pm
    have pc := pm.trans (List.perm_append_singleton _ _)
    rw [C.rows] at pc
    obtain ⟨L1, e1, p1⟩ := perm_back (fun p : Str × Value => ((strKind P w).hash p.1, p.2)) pc (M := (k, v) :: L) rfl
    have nd1 : (L1.map (·.1)).Nodup := (p1.map (·.1)).nodup_iff.mpr (List.nodup_cons.mpr ⟨hm, nd⟩)
    have is1 : ∀ p ∈ L1, Sx P w p.1 p.2 := fun p hp => by
      rcases List.mem_cons.mp (p1.mem_iff.mp hp) with e | hp
      · rw [e]; exact hv
      · exact is p hp
    have few1 : L1.length < 64 := by rw [p1.length_eq]; exact hfew
    have led1 : w.params.followText "set-order" = true ∨ t1.led = true := C.led.imp id fun z => by rw [l1]; exact z
    have fin : ∀ h' L', Heap.SameBut a s.heap h' → Ts P w h' a L' → L'.Perm L1 → Q true { s with heap := h' } := fun h' L' sb r p => hQ true h' L' sb r ⟨fun z => absurd z hm, fun _ => p.trans p1⟩
    refine wpAny_bind (gw _ ?_)
    split
    · refine wpAny_bind ?_
      rw [hashByValue_scannable 8 hsc]
      refine wpAny_pure ?_
      refine ts_tail (L1 := L1) ?_ C.at_ C.ex C.dat e1 ?_ ?_ ?_ few1 nd1 is1 ?_
      · intro b s₁ Q' q; cases b <;> first | exact wpAny_pure q | exact wpAny_rule q
      · first | (split <;> first | exact f1 | exact SetTable.fits_plain_off f1) | exact f1
      · first | (split <;> exact r1) | exact r1
      · first | (split <;> exact led1) | exact led1
      · intro h' L' sb r p; dsimp only; exact wpAny_pure (fin h' L' sb r p)
    · refine wpAny_bind (wpAny_pure ?_)
      simp only [↓reduceIte]
      refine ts_tail (L1 := L1) ?_ C.at_ C.ex C.dat e1 f1 r1 led1 few1 nd1 is1 ?_
      · intro b s₁ Q' q; cases b <;> first | exact wpAny_pure q | exact wpAny_rule q
      · intro h' L' sb r p; dsimp only; exact wpAny_pure (fin h' L' sb r p)
end
end K83
set_option maxRecDepth 100000
set_option maxHeartbeats 8000000
namespace K83
open PySem PySem.Spec PyProof.Rows L2

/-- a new empty set, as the world has it -/
abbrev setObj0 (w : World) : Obj := { cls := .type "set", dict := none, data := .set #[] 0 (.fresh 0 0 (!w.params.followText "set-order")) }
/-- a kind of elements, with what a set of them tells -/
structure Els (P : Program) (w : World) (κ : Type) where
  is : Heap → κ → Value → Prop
  hash : κ → Int
  St : Heap → Addr → List (κ × Value) → Prop
  keepIs : ∀ {h h' : Heap} {k : κ} {v : Value}, (∀ b o, h.get? b = some o → h'.get? b = some o) → is h k v → is h' k v
  keep : ∀ {h h' : Heap} {a : Addr} {L : List (κ × Value)}, St h a L → (∀ o, h.get? a = some o → h'.get? a = some o) → (∀ p ∈ L, is h' p.1 p.2) → St h' a L
  fresh : ∀ {h : Heap} {a : Addr}, h.get? a = some (setObj0 w) → St h a []
  hashes : ∀ {A : Around} {E : Value → Shared → Prop} {s : Shared} {k : κ} {v : Value} {Q : Int → Shared → Prop}, A.units < cLine → is s.heap k v → (∀ tk, s.toks ≤ tk → Q (hash k) { s with toks := tk }) → wpAny (model P w) A (pyHash v) Q E s
  add : ∀ {A : Around} {E : Value → Shared → Prop} {s : Shared} {a : Addr} {L : List (κ × Value)} {k : κ} {v : Value} {Q : Bool → Shared → Prop}, A.units < cLine → St s.heap a L → is s.heap k v → L.length + 1 < 64 →
    (∀ b h' L', Heap.SameBut a s.heap h' → St h' a L' → ((k ∈ L.map (·.1) → L' = L) ∧ (k ∉ L.map (·.1) → L'.Perm ((k, v) :: L))) → Q b { s with heap := h' }) → wpAny (model P w) A (setAddHashed a v (hash k)) Q E s
  all : ∀ {A : Around} {E : Value → Shared → Prop} {s : Shared} {a : Addr} {L : List (κ × Value)} {Q : List Value → Shared → Prop}, A.handled = none → St s.heap a L →
    (∀ s' out, (∀ b o, s.heap.get? b = some o → s'.heap.get? b = some o) → s'.gens = s.gens → s'.os = s.os → out.Perm (L.map (·.2)) → Q out s') → wpAny (model P w) A (collect (.ref a)) Q E s
  nd : ∀ {h : Heap} {a : Addr} {L : List (κ × Value)}, St h a L → (L.map (·.1)).Nodup ∧ L.length < 64
section
variable {P : Program} {w : World}
def elsT (P : Program) (w : World) : Els P w (List Key) where
  is := Tv P w
  hash := hT P w
  St := Tb P w
  keepIs := Tv.keep
  keep := fun R e k => by
    obtain ⟨⟨o, es, ep, t, C⟩, nd, _⟩ := R
    exact ⟨⟨o, es, ep, t, e o C.at_, C.ex, C.dat, C.rows, C.tab, C.led, C.room, C.few⟩, nd, k⟩
  fresh := fun {h a} ho => ⟨⟨_, #[], 0, _, ho, ⟨rfl, rfl, rfl⟩, rfl, rfl, ⟨List.Pairwise.nil, rfl, rfl, .inl rfl, fun x hx => (by cases hx), fun i h j hi => (by simp at hi)⟩, by
    show _ ∨ (!w.params.followText "set-order") = true
    cases w.params.followText "set-order"
    · exact .inr rfl
    · exact .inl rfl, by show 0 * 5 < 7 * 3; decide, by show 0 < 64; decide⟩, List.nodup_nil, fun p hp => (by cases hp)⟩
  hashes := fun hu hv q => by
    obtain ⟨b, rfl, hb⟩ := hv
    exact wpAny_pyHash_tuple hu hb (q _ (Nat.le_add_right _ _))
  add := fun hu R hv hf q => tb_add R hv hu hf q
  all := fun hh R q => by
    obtain ⟨⟨o, es, ep, t, C⟩, _, _⟩ := R
    refine collect_set hh ⟨o, C.at_, C.ex.1, C.dat⟩ C.fits (by rw [rows_len C.rows]; have := C.few; have e : scanBound = 4096 := rfl; omega) C.tab.ris C.led fun s' out k _ g os pm => q s' out k g os ?_
    have e : es.toList.map (·.2) = _ := congrArg (List.map (·.2)) C.rows
    rw [e] at pm
    unfold rowsM at pm
    rw [List.map_map] at pm
    exact pm
  nd := fun R => ⟨R.nd, by obtain ⟨o, es, ep, t, C⟩ := R.c; exact C.few⟩
def elsS (P : Program) (w : World) : Els P w Str where
  is := fun _ k v => Sx P w k v
  hash := (strKind P w).hash
  St := Ts P w
  keepIs := fun _ h => h
  keep := fun R e _ => by
    obtain ⟨⟨o, es, ep, t, C⟩, nd, is⟩ := R
    exact ⟨⟨o, es, ep, t, e o C.at_, C.ex, C.dat, C.rows, C.fits, C.ris, C.led, C.few⟩, nd, is⟩
  fresh := fun {h a} ho => ⟨⟨_, #[], 0, _, ho, ⟨rfl, rfl, rfl⟩, rfl, rfl, rfl, List.Pairwise.nil, by
    show _ ∨ (!w.params.followText "set-order") = true
    cases w.params.followText "set-order"
    · exact .inr rfl
    · exact .inl rfl, by show 0 < 64; decide⟩, List.nodup_nil, fun p hp => (by cases hp)⟩
  hashes := fun _ hv q => (strKind P w).pyHash hv (q _ (Nat.le_succ _))
  add := fun _ R hv hf q => ts_add R hv hf q
  all := fun hh R q => by
    obtain ⟨⟨o, es, ep, t, C⟩, _, _⟩ := R
    refine collect_set hh ⟨o, C.at_, C.ex.1, C.dat⟩ C.fits (by rw [rowsS_len C.rows]; have := C.few; have e : scanBound = 4096 := rfl; omega) C.ris C.led fun s' out k _ g os pm => q s' out k g os ?_
    have e : es.toList.map (·.2) = _ := congrArg (List.map (·.2)) C.rows
    rw [e] at pm
    unfold rowsS at pm
    rw [List.map_map] at pm
    exact pm
  nd := fun R => ⟨R.nd, by obtain ⟨o, es, ep, t, C⟩ := R.c; exact C.few⟩
end

/-! ## set(xs): the loop, the call -/
/-- what the set has of the first i -/
structure Has {κ : Type} (ks : List (κ × Value)) (i : Nat) (L : List (κ × Value)) : Prop where
  sub : ∀ p ∈ L, p ∈ ks
  all : ∀ p ∈ ks.take i, p.1 ∈ L.map (·.1)
  len : L.length ≤ i
theorem Has.next {κ : Type} {ks L L' : List (κ × Value)} {i : Nat} {x : κ × Value} (g : Has ks i L) (hx : ks[i]? = some x) (h : (x.1 ∈ L.map (·.1) → L' = L) ∧ (x.1 ∉ L.map (·.1) → L'.Perm (x :: L))) : Has ks (i + 1) L' := by
  have hm : x ∈ ks := List.mem_of_getElem? hx
  have ht : ∀ p ∈ ks.take (i + 1), p ∈ ks.take i ∨ p = x := fun p hp => by
    rw [take_next hx] at hp
    rcases List.mem_append.mp hp with z | z
    · exact .inl z
    · exact .inr (List.mem_singleton.mp z)
  rcases Classical.em (x.1 ∈ L.map (·.1)) with c | c
  · rw [h.1 c]
    refine ⟨g.sub, fun p hp => ?_, Nat.le_succ_of_le g.len⟩
    rcases ht p hp with z | z
    · exact g.all p z
    · rw [z]; exact c
  · have pm := h.2 c
    refine ⟨fun p hp => ?_, fun p hp => ?_, by rw [pm.length_eq]; exact Nat.succ_le_succ g.len⟩
    · rcases List.mem_cons.mp (pm.mem_iff.mp hp) with z | z
      · rw [z]; exact hm
      · exact g.sub p z
    · rw [(pm.map (·.1)).mem_iff, List.map_cons]
      rcases ht p hp with z | z
      · exact List.mem_cons_of_mem _ (g.all p z)
      · rw [z]; exact List.mem_cons_self
section
variable {P : Program} {w : World} {A : Around} {E : Value → Shared → Prop} {s : Shared} {κ : Type}
theorem els_loop (T : Els P w κ) {I : Addr} {fp wr : List Addr} {G : Array GenState → Array GenState → Prop} {n : Nat} {Pv : Nat → Value → Prop} {St : Nat → Shared → Prop} {R : Result → Shared → Prop} (W : WalksS P w A.in1 I fp wr G n Pv St) (S : Addr) (hSf : S ∉ fp) (ks : List (κ × Value)) (hn : n = ks.length) (hfew : ks.length < 64)
    (hval : ∀ i v, Pv i v → ∃ p, ks[i]? = some p ∧ v = p.2) (h0 : Heap) (hk : ∀ p ∈ ks, T.is h0 p.1 p.2) (hS0 : h0.get? S = none) (hw0 : ∀ b ∈ wr, h0.get? b = none) (hu : A.in1.units < cLine) :
    ∀ (m i : Nat) (s : Shared), n - i = m → i ≤ n → St i s → (∀ b o, h0.get? b = some o → s.heap.get? b = some o) → (∃ L, T.St s.heap S L ∧ Has ks i L) →
      (∀ s' L, Moved (S :: wr) G s s' → T.St s'.heap S L → Has ks n L → (∀ b o, h0.get? b = some o → s'.heap.get? b = some o) → R (.ok (.ret .none)) s') → codeAny (model P w) A (.builtin "set.update.loop" ⟨[.ref S, .ref I], []⟩) R s := by
  have hSw : S ∉ wr := fun h => hSf (W.sub _ h)
  have wide : ∀ b ∈ wr, b ∈ S :: wr := fun b hb => List.mem_cons_of_mem _ hb
  have on : ∀ {s s' : Shared}, Moved wr G s s' → (∀ b o, h0.get? b = some o → s.heap.get? b = some o) → ∀ b o, h0.get? b = some o → s'.heap.get? b = some o := fun hm hkp b o e => hm.heap b o (fun hb => by rw [hw0 b hb] at e; cases e) (hkp b o e)
  intro m
  induction m with
  | zero =>
    intro i s hm hi hst hkp ⟨L, hS, g⟩ hR
    obtain rfl : i = n := by omega
    refine codeAny_builtin F.entry_set_update_loop ?_
    rw [Around.under_plainId F.plain_set_update_loop _]
    show wpAny _ A.in1 (pyNext (.ref I) >>= _) _ _ s
    refine wpAny_bind (W.done s _ _ hst fun s' mv => ?_)
    have hkp' := on mv hkp
    show wpAny _ A.in1 (ret Value.none) _ _ s'
    exact wpAny_pure (hR s' L (mv.mono wide) (T.keep hS (fun o e => mv.heap S o hSw e) fun p hp => T.keepIs hkp' (hk p (g.sub p hp))) g hkp')
  | succ m ih =>
    intro i s hm hi hst hkp ⟨L, hS, g⟩ hR
    have hlt : i < n := by omega
    refine codeAny_builtin F.entry_set_update_loop ?_
    rw [Around.under_plainId F.plain_set_update_loop _]
    show wpAny _ A.in1 (pyNext (.ref I) >>= _) _ _ s
    refine wpAny_bind (W.item i s _ _ hlt hst fun v s' hP hst' mv => ?_)
    obtain ⟨p, hp, rfl⟩ := hval i v hP
    have hkp' := on mv hkp
    have hS' : T.St s'.heap S L := T.keep hS (fun o e => mv.heap S o hSw e) fun q hq => T.keepIs hkp' (hk q (g.sub q hq))
    have hx : T.is s'.heap p.1 p.2 := T.keepIs hkp' (hk p (List.mem_of_getElem? hp))
    show wpAny _ A.in1 (holding [p.2] (setAdd S p.2) >>= _) _ _ s'
    refine wpAny_bind (wpAny_holding ?_)
    unfold setAdd
    refine wpAny_holding (wpAny_bind (T.hashes hu hx fun tk htk => ?_))
    refine T.add (s := { s' with toks := tk }) hu hS' hx (by have := g.len; omega) fun b h' L' sb hS2 gr => ?_
    have hkp2 : ∀ b o, h0.get? b = some o → h'.get? b = some o := fun b o e => (sb.2 b (fun z => by rw [z, hS0] at e; cases e)).trans (hkp' b o e)
    refine wpAny_pure ⟨plainId_quiet F.plain_set_update_loop _, ih (i + 1) _ (by omega) hlt (W.frame _ s' _ _ hst' htk fun b hb o e => (sb.2 b (fun z => hSf (z ▸ hb))).trans e) hkp2 ⟨L', hS2, g.next hp gr⟩ fun s'' L2 mv2 hS3 g3 hkp3 => ?_⟩
    exact hR s'' L2 (Moved.trans W.gtrans ((mv.mono wide).then_heap htk fun b o hb e => (sb.2 b (fun z => hb (z ▸ List.mem_cons_self))).trans e) mv2) hS3 g3 hkp3
/-- set(xs), xs a list -/
theorem els_call (T : Els P w κ) {l : Addr} {items : Array Value} (ks : List (κ × Value)) {Q : Value → Shared → Prop} (hh : A.handled = none) (hl : s.heap.IsList l items) (hit : items.toList = ks.map (·.2)) (hk : ∀ p ∈ ks, T.is s.heap p.1 p.2) (hfew : ks.length < 64) (hu : A.units + 3 < cLine)
    (h : ∀ (h' : Heap) (tk : Nat) L, T.St h' s.heap.objs.size L → Has ks ks.length L → (∀ b o, s.heap.get? b = some o → h'.get? b = some o) → Q (.ref s.heap.objs.size) { s with heap := h', toks := tk }) : wpAny (model P w) A (call (.type "set") [.ref l]) Q E s := by
  have hsz : items.size = ks.length := by
    have q := congrArg List.length hit
    rw [Array.length_toList, List.length_map] at q
    exact q
  obtain ⟨c, tl, hmro⟩ := PySem.F.called_set.mro
  have hmade := PySem.F.called_set.made
  have hsub := PySem.F.called_set.sub
  refine wpAny_call (codeAny_of_tree ?_)
  show wpAny _ _ (callAny (.type "set") _) _ _ _
  refine wpAny_pure ⟨Code.quiet_builtin _ (by decide +kernel), codeAny_builtin PySem.F.entry_type_call ?_⟩
  rw [Around.under_plain (weight_type_call_type "set" [.ref l] []) rfl]
  have f1 := PySem.F.called_set.notType
  have f2 := PySem.F.called_set.canCreate
  have f3 := PySem.F.typeCall_set_1 (.ref l)
  repeat (any_goals (first | assumption | wp_step))
  refine codeAny_mono (code_set_led1 (.ref l) (E := E) (Q₁ := fun obj s₁ => obj = .ref s.heap.objs.size ∧ s₁ = { s with heap := s.heap.push (setObj0 w) }) ⟨rfl, rfl⟩) fun r s₁ hr => ?_
  rcases r with e | fl
  · exact hr
  cases fl with
  | ret obj =>
    obtain ⟨rfl, rfl⟩ := hr
    have atS : (s.heap.push (setObj0 w)).get? s.heap.objs.size = some (setObj0 w) := Heap.get?_push_size _ rfl
    have hT : Shared.TypeIs { s with heap := s.heap.push (setObj0 w) } (.ref s.heap.objs.size) "set" := ⟨_, atS, rfl⟩
    have f4 := PySem.F.called_set.init.lookup
    have f5 := PySem.F.called_set.init.bind (.ref s.heap.objs.size)
    repeat (any_goals (first | assumption | wp_step))
    refine codeAny_mono (codeAny_call_builtin (R := wants (fun r s₂ => r = .none ∧ ∃ h' tk L, s₂ = { s with heap := h', toks := tk } ∧ T.St h' s.heap.objs.size L ∧ Has ks ks.length L ∧ ∀ b o, s.heap.get? b = some o → h'.get? b = some o) E) PySem.F.called_set.init.plain PySem.F.entry_set_init (check_set_init_1 hT ?_)) fun r₂ s₂ hr₂ => ?_
    · obtain ⟨ol, hol, hcl, nl, hdl⟩ := hl
      obtain ⟨ocls, odict, odata, oslots⟩ := ol
      simp only at hcl hdl
      subst hcl; subst hdl
      have hol' : (s.heap.push (setObj0 w)).get? l = some { cls := .type "list", dict := odict, data := .seq items nl, slots := oslots } := Heap.get?_push_of_some _ hol
      have g1 := PySem.F.sub_list_set
      have g2 := PySem.F.sub_list_frozenset
      have g3 : (Value.type "list" == Value.type "dict") = false := by decide
      have hl1 : (s.heap.push (setObj0 w)).IsList l items := ⟨_, hol', rfl, nl, rfl⟩
      unfold Builtin.«set.__init__» noKeywords Builtin.Frozenset.updateFrom
      generalize hPI : pyIter = PI
      wp_walk
      subst hPI
      refine wpAny_pyIter_list hl1 (wpAny_bind (wpAny_runValue ?_))
      have hlS : l < s.heap.objs.size := Heap.lt_size hol
      have hh3 : A.in1.in1.in1.handled = none := by simp [hh]
      have szS : (s.heap.push (setObj0 w)).objs.size = s.heap.objs.size + 1 := Heap.size_push ..
      have hneI : l ≠ (s.heap.push (setObj0 w)).objs.size := by rw [szS]; exact Nat.ne_of_lt (Nat.lt_succ_of_lt hlS)
      have hSf : s.heap.objs.size ∉ [(s.heap.push (setObj0 w)).objs.size, l] := by
        rw [szS]
        intro z
        rcases List.mem_cons.mp z with z | z
        · exact absurd z (Nat.ne_of_lt (Nat.lt_succ_self _))
        · exact absurd (List.mem_singleton.mp z) (Nat.ne_of_gt hlS)
      have hval : ∀ (i : Nat) (v : Value), items[i]? = some v → ∃ p, ks[i]? = some p ∧ v = p.2 := fun i v hv => by
        have q : items.toList[i]? = some v := by rw [Array.getElem?_toList]; exact hv
        rw [hit, List.getElem?_map] at q
        obtain ⟨p, hp, e⟩ := Option.map_eq_some_iff.mp q
        exact ⟨p, hp, e.symm⟩
      have above : ∀ b, s.heap.objs.size ≤ b → s.heap.get? b = none := fun b hb => Heap.get?_none_of_le hb
      refine els_loop T ((Walks.list hh3 _ l hneI items).toS) s.heap.objs.size hSf ks hsz hfew hval s.heap hk (above _ (Nat.le_refl _)) (fun b hb => above b (by rw [List.mem_singleton.mp hb, szS]; exact Nat.le_succ _)) hu (items.size - 0) 0 _ (by omega) (Nat.zero_le _)
        ⟨⟨_, Heap.get?_push_size _ rfl, rfl, rfl⟩, (hl1.push _)⟩ (fun b o e => Heap.get?_push_of_some _ (Heap.get?_push_of_some _ e)) ⟨[], T.fresh (Heap.get?_push_of_some _ atS), fun p hp => (by cases hp), fun p hp => (by simp at hp), Nat.le_refl _⟩ fun s' L mv hS' g' hkp => ?_
      obtain ⟨h', g2, d', tk', os'⟩ := s'
      obtain rfl : g2 = s.gens := mv.gens
      obtain rfl : d' = s.drawn := mv.drawn
      obtain rfl : os' = s.os := mv.os
      rw [hsz] at g'
      show wpAny _ _ _ _ _ _
      refine wpAny_pure ?_
      show wpAny _ _ (ret Value.none) _ _ _
      exact wpAny_pure ⟨rfl, h', tk', L, rfl, hS', g', hkp⟩
    · rcases r₂ with e | fl₂
      · exact hr₂
      cases fl₂ with
      | ret r =>
        obtain ⟨rfl, h', tk, L, rfl, hS', g', hk'⟩ := hr₂
        repeat (any_goals (first | assumption | wp_step))
        exact h _ _ _ hS' g' hk'
      | _ => exact hr₂.elim
  | _ => exact hr.elim
end
end K83
set_option maxRecDepth 100000
set_option maxHeartbeats 4000000
namespace K83
open PySem PySem.Spec PyProof.Rows L2

def TbO (P : Program) (w : World) (a : Addr) (L : List (List Key × Value)) : HO := .ext fun h => (∃ o es ep t, TbC P w a L h o es ep t) ∧ (L.map (·.1)).Nodup
def TsO (P : Program) (w : World) (a : Addr) (L : List (Str × Value)) : HO := .ext fun h => Ts P w h a L
theorem tbO_ok {P : Program} {w : World} {H : Hp} {h : Heap} {a : Addr} {L : List (List Key × Value)} (R : Tb P w h a L) : ObjOk P w H h a (TbO P w a L) := by
  obtain ⟨⟨o, es, ep, t, C⟩, nd, _⟩ := R
  exact ⟨⟨⟨o, es, ep, t, C⟩, nd⟩, ⟨o, C.at_⟩, fun h1 h2 ⟨⟨o, es, ep, t, C⟩, nd⟩ k => ⟨⟨o, es, ep, t, k o C.at_, C.ex, C.dat, C.rows, C.tab, C.led, C.room, C.few⟩, nd⟩⟩
theorem tsO_ok {P : Program} {w : World} {H : Hp} {h : Heap} {a : Addr} {L : List (Str × Value)} (R : Ts P w h a L) : ObjOk P w H h a (TsO P w a L) := by
  obtain ⟨o, es, ep, t, C⟩ := R.c
  exact ⟨R, ⟨o, C.at_⟩, fun h1 h2 R k => (elsS P w).keep R k R.is⟩
section
variable {X : Cx}
theorem Inv.tv {pins : List (Addr × Obj)} {σ : L2.St} {H : Hp} {s : Shared} {b : Addr} {k : List Key} (I : Inv X pins σ H s) (h : H b = some (.tup (k.map kV))) : Tv X.prog X.w s.heap k (.ref b) := ⟨b, rfl, key_of I.hok h⟩
/-- set(xs), tuples of ints and texts -/
def rSetM (K : PySem.W.Frag) (P : Program) (w : World) : List V → Hp → VK → Prop := fun xs H Q => ∃ (l : Addr) (ks : List (List Key × Addr)), xs = [V.ref l] ∧ SqL K H l (ks.map fun p => V.ref p.2) ∧ (∀ p ∈ ks, H p.2 = some (.tup (p.1.map kV))) ∧ ks.length < 64 ∧
  ∀ a L, H a = none → (∀ p ∈ L, p ∈ ks.map fun q => (q.1, Value.ref q.2)) → (∀ p ∈ ks, p.1 ∈ L.map (·.1)) → Q (.ref a) (upd H a (TbO P w a L))
theorem refs_snd : ∀ {ks : List (List Key × Addr)} {us : List Value}, Vals (ks.map fun p => V.ref p.2) us → us = ks.map fun p => Value.ref p.2
  | [], _, .nil => rfl
  | p :: ks, _, .cons r t => by
    cases r
    rw [refs_snd t] <;> rfl
theorem cr_setM (hc : X.calm = true) (hu : X.A.units + 64 < cLine) : CallR X (.type "set") (rSetM X.K X.prog X.w) := by
  intro pins s σ H xs us Q I r h
  obtain ⟨l, ks, rfl, hl, hk, hf, q⟩ := h
  rw [Vals.ref1 r]
  obtain ⟨its, rv, pl, hz⟩ := I.list hl
  have e := refs_snd rv
  subst e
  have hn : H s.heap.objs.size = none := I.hok.fresh (Nat.le_refl _)
  refine els_call (elsT X.prog X.w) (ks.map fun q => (q.1, Value.ref q.2)) (I.ok.hd hc) pl.isList (by simp [Function.comp_def]) (fun p hp => ?_) (by rw [List.length_map]; exact hf) (by omega) fun h' tk L R g k => ?_
  · obtain ⟨q0, hq0, rfl⟩ := List.mem_map.mp hp
    exact Inv.tv I (hk q0 hq0)
  · refine ⟨.ref s.heap.objs.size, upd H s.heap.objs.size (TbO X.prog X.w s.heap.objs.size L), I.laid (t' := tk) k (Nat.le_refl _) (tbO_ok R), rfl, q _ L hn g.sub fun p hp => ?_⟩
    exact g.all (p.1, Value.ref p.2) (by rw [List.take_length]; exact List.mem_map.mpr ⟨p, hp, rfl⟩)
/-- sorted(a set of them) -/
def rSortM (P : Program) (w : World) : List V → Hp → VK → Prop := fun vs H Q => ∃ (a : Addr) (L : List (List Key × Value)), vs = [V.ref a] ∧ H a = some (TbO P w a L) ∧ (∀ p ∈ L, ∃ b, p.2 = .ref b ∧ H b = some (.tup (p.1.map kV))) ∧ PySem.W.AllAlike (L.map fun p => keyT p.1) ∧ PySem.W.Sortable (L.map fun p => keyT p.1) ∧ (∀ p ∈ L, (keyT p.1).depth ≤ 64) ∧
  ((L.map (·.1)).Nodup → ∀ (ml : List (List Key)) ys p, ml.Perm (L.map (·.1)) → IsAll H ys (sortD (ml.map keyT)) → H p = none → Q (.ref p) (upd H p (.lst ys)))
theorem cr_sortM (hc : X.calm = true) (hu : X.A.units + 200 < cLine) : CallR X (.builtin "sorted") (rSortM X.prog X.w) := by
  intro pins s σ H vs us Q I r h
  obtain ⟨a, L, rfl, ha, hL, hal, hso, hd, q⟩ := h
  rw [Vals.ref1 r]
  obtain ⟨⟨⟨o, es, ep, t, C⟩, nd⟩, _⟩ := I.hok a _ ha
  have R : Tb X.prog X.w s.heap a L := ⟨⟨o, es, ep, t, C⟩, nd, fun p hp => by
    obtain ⟨b, e, hb⟩ := hL p hp
    rw [e]
    exact Inv.tv I hb⟩
  refine sorted_by fun R1 E' hR => ?_
  refine (elsT X.prog X.w).all (I.ok.hd hc) R fun s1 out k g os pm => hR _ _ ?_
  obtain ⟨L', e, p'⟩ := perm_back (fun p : List Key × Value => p.2) pm rfl
  have I1 : Inv X pins σ H { s with heap := s1.heap, gens := s1.gens, drawn := s1.drawn, toks := s1.toks } := I.call (ch := []) (Un.kept k) (I.hok.kept k) (by rw [g]; exact I.bare) (fun _ z => nomatch z)
  have es1 : s1 = { s with heap := s1.heap, gens := s1.gens, drawn := s1.drawn, toks := s1.toks } := by
    cases s1
    cases s
    cases os
    rfl
  rw [es1]
  have hL' : ∀ p ∈ L', ∃ b, p.2 = .ref b ∧ H b = some (.tup (p.1.map kV)) := fun p hp => hL p (p'.mem_iff.mp hp)
  let toA : Value → V := fun v => match v with | .ref b => .ref b | _ => .non
  have hbs : ∀ b ∈ L'.map (fun p => ((toA p.2, keyT p.1) : V × PyData)), Is H b.1 b.2 := fun b hb => by
    obtain ⟨p, hp, rfl⟩ := List.mem_map.mp hb
    obtain ⟨c, ec, hc⟩ := hL' p hp
    show Is H (toA p.2) _
    rw [ec]
    exact .tup hc (all_keys H _)
  have esnd : (L'.map (fun p => ((toA p.2, keyT p.1) : V × PyData))).map (·.2) = (L'.map (·.1)).map keyT := by rw [List.map_map, List.map_map] <;> rfl
  have mem : ∀ d, d ∈ (L'.map (·.1)).map keyT → d ∈ L.map fun p => keyT p.1 := fun d hd => by
    obtain ⟨k0, hk0, rfl⟩ := List.mem_map.mp hd
    obtain ⟨p, hp, rfl⟩ := List.mem_map.mp hk0
    exact List.mem_map.mpr ⟨p, p'.mem_iff.mp hp, rfl⟩
  have hlen : (L'.map (fun p => ((toA p.2, keyT p.1) : V × PyData))).length ≤ sizeLine := by
    rw [List.length_map, p'.length_eq, sizeLine_eq]
    have := C.few
    omega
  refine ⟨L'.map fun p => (toA p.2, keyT p.1), each_list (by rw [e, List.length_map, List.length_map]) fun j u b e1 e2 => ?_, by rw [esnd]; exact fun d hd d' hd' => hal d (mem d hd) d' (mem d' hd'), ?_, hlen, fun b hb => ?_, fun h2 p out c k2 hp hg he => ?_⟩
  · rw [e, List.getElem?_map] at e1
    rw [List.getElem?_map] at e2
    cases hj : L'[j]? with
    | none => rw [hj] at e1; cases e1
    | some p =>
      rw [hj] at e1 e2
      cases e1
      cases e2
      have hp := List.mem_of_getElem? hj
      obtain ⟨c, ec, hc⟩ := hL' p hp
      have hr : RelV (toA p.2) p.2 := by rw [ec]; exact rfl
      exact ⟨hr, Dp.reads I1 _ _ _ (Is.dp (K := X.K) _ _ (hbs _ (List.mem_map.mpr ⟨p, hp, rfl⟩))) hr⟩
  · rw [esnd]
    rcases hso with z | z
    · exact .inl fun d hd => z d (mem d hd)
    · exact .inr fun d hd => z d (mem d hd)
  · have hm : b.2 ∈ (L'.map (·.1)).map keyT := by rw [← esnd]; exact List.mem_map.mpr ⟨b, hb, rfl⟩
    obtain ⟨p0, hp0, e0⟩ := List.mem_map.mp (mem _ hm)
    have := hd p0 hp0
    rw [← e0]
    omega
  · exact sort_fin I1 hbs hlen (fun ys t iy ht => q nd (L'.map (·.1)) ys t (p'.map _) (by rw [← esnd]; exact iy) ht) k2 hp hg he

/-! ### texts -/
/-- set(xs), texts -/
def rSetX (P : Program) (w : World) (K : PySem.W.Frag) : List V → Hp → VK → Prop := fun xs H Q => ∃ (l : Addr) (ns : List Str), xs = [V.ref l] ∧ SqL K H l (ns.map V.str) ∧ ns.length < 64 ∧
  ∀ a L, H a = none → (∀ p ∈ L, p.1 ∈ ns) → (∀ x ∈ ns, x ∈ L.map (·.1)) → Q (.ref a) (upd H a (TsO P w a L))
theorem strs_pairs : ∀ {ns : List Str} {us : List Value}, Vals (ns.map V.str) us → ∃ ks : List (Str × Value), us = ks.map (·.2) ∧ ks.map (·.1) = ns ∧ ∀ p ∈ ks, ∃ t, p.2 = .str p.1 t
  | [], _, .nil => ⟨[], rfl, rfl, fun p hp => (by cases hp)⟩
  | x :: ns, _, .cons r t => by
    obtain ⟨tk, rfl⟩ := r
    obtain ⟨ks, e1, e2, e3⟩ := strs_pairs t
    refine ⟨(x, .str x tk) :: ks, by rw [e1] <;> rfl, by rw [List.map_cons, e2], fun p hp => ?_⟩
    rcases List.mem_cons.mp hp with z | z
    · subst z
      exact ⟨tk, rfl⟩
    · exact e3 p z
theorem cr_setX (hc : X.calm = true) (hu : X.A.units + 64 < cLine) : CallR X (.type "set") (rSetX X.prog X.w X.K) := by
  intro pins s σ H xs us Q I r h
  obtain ⟨l, ns, rfl, hl, hf, q⟩ := h
  rw [Vals.ref1 r]
  obtain ⟨its, rv, pl, hz⟩ := I.list hl
  obtain ⟨ks, e1, e2, e3⟩ := strs_pairs rv
  subst e1
  have hn : H s.heap.objs.size = none := I.hok.fresh (Nat.le_refl _)
  have hkl : ks.length < 64 := by
    have := congrArg List.length e2
    rw [List.length_map] at this
    omega
  refine els_call (elsS X.prog X.w) ks (I.ok.hd hc) pl.isList (by simp) (fun p hp => ?_) hkl (by omega) fun h' tk L R g k => ?_
  · obtain ⟨t, ht⟩ := e3 p hp
    show (strKind X.prog X.w).is p.1 p.2 = true
    rw [ht]
    exact strKind_is _ _ _ _
  · refine ⟨.ref s.heap.objs.size, upd H s.heap.objs.size (TsO X.prog X.w s.heap.objs.size L), I.laid (t' := tk) k (Nat.le_refl _) (tsO_ok R), rfl, q _ L hn (fun p hp => ?_) fun x hx => ?_⟩
    · rw [← e2]
      exact List.mem_map.mpr ⟨p, g.sub p hp, rfl⟩
    · rw [← e2] at hx
      obtain ⟨p, hp, rfl⟩ := List.mem_map.mp hx
      exact g.all p (by rw [List.take_length]; exact hp)
/-- sorted(a set of texts) -/
def rSortX (P : Program) (w : World) : List V → Hp → VK → Prop := fun vs H Q => ∃ (a : Addr) (L : List (Str × Value)), vs = [V.ref a] ∧ H a = some (TsO P w a L) ∧
  ((L.map (·.1)).Nodup → ∀ (ml : List Str) ys p, ml.Perm (L.map (·.1)) → IsAll H ys (sortD (ml.map PyData.str)) → H p = none → Q (.ref p) (upd H p (.lst ys)))
theorem alike_strs (l : List Str) : PySem.W.AllAlike (l.map PyData.str) := fun d hd d' hd' => by
  obtain ⟨x, _, rfl⟩ := List.mem_map.mp hd
  obtain ⟨y, _, rfl⟩ := List.mem_map.mp hd'
  simp [PySem.W.alike]
theorem sortable_strs (l : List Str) : PySem.W.Sortable (l.map PyData.str) := .inr fun d hd => by
  obtain ⟨x, _, rfl⟩ := List.mem_map.mp hd
  exact ⟨(fun z => by cases z), fun xs z => by cases z⟩
theorem cr_sortX (hc : X.calm = true) (hu : X.A.units + 200 < cLine) : CallR X (.builtin "sorted") (rSortX X.prog X.w) := by
  intro pins s σ H vs us Q I r h
  obtain ⟨a, L, rfl, ha, q⟩ := h
  rw [Vals.ref1 r]
  obtain ⟨R, _⟩ := I.hok a _ ha
  have R' : Ts X.prog X.w s.heap a L := R
  refine sorted_by fun R1 E' hR => ?_
  refine (elsS X.prog X.w).all (I.ok.hd hc) R' fun s1 out k g os pm => hR _ _ ?_
  obtain ⟨L', e, p'⟩ := perm_back (fun p : Str × Value => p.2) pm rfl
  have I1 : Inv X pins σ H { s with heap := s1.heap, gens := s1.gens, drawn := s1.drawn, toks := s1.toks } := I.call (ch := []) (Un.kept k) (I.hok.kept k) (by rw [g]; exact I.bare) (fun _ z => nomatch z)
  have es1 : s1 = { s with heap := s1.heap, gens := s1.gens, drawn := s1.drawn, toks := s1.toks } := by
    cases s1
    cases s
    cases os
    rfl
  rw [es1]
  have hL' : ∀ p ∈ L', ∃ t, p.2 = .str p.1 t := fun p hp => by
    have z := R'.is p (p'.mem_iff.mp hp)
    obtain ⟨t, ht⟩ := Value.isStrOf_shape (x := p.1) (v := p.2) z
    exact ⟨t, ht⟩
  have hbs : ∀ b ∈ L'.map (fun p => ((V.str p.1, PyData.str p.1) : V × PyData)), Is H b.1 b.2 := fun b hb => by
    obtain ⟨p, hp, rfl⟩ := List.mem_map.mp hb
    exact .str _
  have esnd : (L'.map (fun p => ((V.str p.1, PyData.str p.1) : V × PyData))).map (·.2) = (L'.map (·.1)).map PyData.str := by rw [List.map_map, List.map_map] <;> rfl
  have hlen : (L'.map (fun p => ((V.str p.1, PyData.str p.1) : V × PyData))).length ≤ sizeLine := by
    rw [List.length_map, p'.length_eq, sizeLine_eq]
    obtain ⟨o, es, ep, t, C⟩ := R'.c
    have := C.few
    omega
  refine ⟨L'.map fun p => (V.str p.1, PyData.str p.1), each_list (by rw [e, List.length_map, List.length_map]) fun j u b e1 e2 => ?_, by rw [esnd]; exact alike_strs _, by rw [esnd]; exact sortable_strs _, hlen, fun b hb => ?_, fun h2 p out c k2 hp hg he => ?_⟩
  · rw [e, List.getElem?_map] at e1
    rw [List.getElem?_map] at e2
    cases hj : L'[j]? with
    | none => rw [hj] at e1; cases e1
    | some p =>
      rw [hj] at e1 e2
      cases e1
      cases e2
      obtain ⟨t, ht⟩ := hL' p (List.mem_of_getElem? hj)
      have hr : RelV (V.str p.1) p.2 := by rw [ht]; exact ⟨t, rfl⟩
      exact ⟨hr, Dp.reads I1 _ _ _ (Is.dp (K := X.K) (H := H) _ _ (.str _)) hr⟩
  · obtain ⟨p, hp, rfl⟩ := List.mem_map.mp hb
    show X.A.units + 3 + PyData.depth (.str p.1) < cLine
    simp only [PyData.depth]
    omega
  · exact sort_fin I1 hbs hlen (fun ys t iy ht => q R'.nd (L'.map (·.1)) ys t (p'.map _) (by rw [← esnd]; exact iy) ht) k2 hp hg he
end

/-! ## sorted(set(e)) -/
section
variable {c : Ct} {Γ : List Sv} {e : Expr} {pos pos2 p p2 : Pos} {Φ : Ar → List Sv → Prop}
theorem keys_all {H : Hp} : ∀ {kl : List (List Key)} {vs : List V}, IsAll H vs (kl.map keyT) → ∃ ks : List (List Key × Addr), vs = ks.map (fun p => V.ref p.2) ∧ ks.map (·.1) = kl ∧ ∀ p ∈ ks, H p.2 = some (.tup (p.1.map kV))
  | [], _, h => by
    cases h
    exact ⟨[], rfl, rfl, fun p hp => (by cases hp)⟩
  | k :: kl, _, h => by
    cases h with
    | cons h1 h2 =>
      obtain ⟨b, rfl, hb⟩ := Is.keyInv h1
      obtain ⟨ks, e1, e2, e3⟩ := keys_all h2
      refine ⟨(k, b) :: ks, by rw [e1] <;> rfl, by rw [List.map_cons, e2], fun p hp => ?_⟩
      rcases List.mem_cons.mp hp with z | z
      · subst z; exact hb
      · exact e3 p z
theorem w_sortSetT (G1 : GFree c.g "sorted") (G2 : GFree c.g "set") (h : WA c Γ [e] fun rs Γ1 => ∃ (r : Ar) (kl : List (List Key)), rs = [r] ∧ RdL Γ1 r (kl.map keyT) ∧ kl.length < 64 ∧ PySem.W.AllAlike (kl.map keyT) ∧ PySem.W.Sortable (kl.map keyT) ∧ (∀ k ∈ kl, (keyT k).depth ≤ 64) ∧
      ∀ ml : List (List Key), ml.Nodup → (∀ k, k ∈ ml ↔ k ∈ kl) → Φ (.new (sortD (ml.map keyT))) Γ1)
    (hg : c.sc.names.lookup ("sorted" : Str) = some .globalImplicit := by rfl) (hg2 : c.sc.names.lookup ("set" : Str) = some .globalImplicit := by rfl)
    (he : ∀ env : Env, starEach [e] env = (false, eval e env) :: starEach [] env := by intro _; rfl) : W c Γ (.Call (.Name "sorted" p) [.Call (.Name "set" p2) [e] [] pos2] [] pos) Φ := fun X hX H0 σ H S Q q => by
  have hun := hX.room.un
  have inner : PE X (.Call (.Name "set" p2) [e] [] pos2) _ := pe_callTy (cr_setM hX.calm (by omega)) (hX.gl hg2) (by rw [hX.mg]; exact G2) (by decide +kernel) pa_wa (by decide) (by decide) (he X.env) (by rfl)
  refine (pe_callB (cr_sortM hX.calm (by omega)) (hX.gl hg) (by rw [hX.mg]; exact G1) (by decide +kernel) (pa_cons inner pa_nil (by rfl)) (by decide) (by decide) (by rfl) (by rfl)).we ?_
  refine h X hX H0 σ H S _ fun H0' rs Γ' vs H' s ⟨r, kl, e1, hr, hl, hal, hso, hd, k⟩ S' o => ?_
  subst e1
  obtain ⟨v, rfl, o1⟩ := ArAll.one o
  obtain ⟨t, xs, rfl, ht, hi⟩ := hr.get S' o1
  obtain ⟨ks, rfl, ek, hks⟩ := keys_all hi
  have hkl : ks.length = kl.length := by rw [← ek, List.length_map]
  refine ⟨t, ks, rfl, SqL.of ht, hks, by rw [hkl]; exact hl, fun a L ha hsub hall => ?_⟩
  have hs := Same.new (o := TbO X.prog X.w a L) ha
  have hm : ∀ p ∈ L, p.1 ∈ kl := fun p hp => by
    obtain ⟨q0, hq0, e0⟩ := List.mem_map.mp (hsub p hp)
    rw [← e0, ← ek]
    exact List.mem_map.mpr ⟨q0, hq0, rfl⟩
  have sub : ∀ d, d ∈ (L.map fun p => keyT p.1) → d ∈ kl.map keyT := fun d hd => by
    obtain ⟨p, hp, rfl⟩ := List.mem_map.mp hd
    exact List.mem_map.mpr ⟨p.1, hm p hp, rfl⟩
  refine ⟨a, L, rfl, upd_same, fun p hp => ?_, fun d hd d' hd' => hal d (sub d hd) d' (sub d' hd'), ?_, fun p hp => hd p.1 (hm p hp), fun nd ml ys t2 pm iy ht2 => ?_⟩
  · obtain ⟨q0, hq0, e0⟩ := List.mem_map.mp (hsub p hp)
    refine ⟨q0.2, by rw [← e0], ?_⟩
    rw [← e0]
    exact hs _ _ (hks q0 hq0)
  · rcases hso with z | z
    · exact .inl fun d hd => z d (sub d hd)
    · exact .inr fun d hd => z d (sub d hd)
  · have nd2 : ml.Nodup := pm.nodup_iff.mpr nd
    have hmem : ∀ k, k ∈ ml ↔ k ∈ kl := fun k => by
      rw [pm.mem_iff]
      constructor
      · intro z
        obtain ⟨p, hp, rfl⟩ := List.mem_map.mp z
        exact hm p hp
      · intro z
        rw [← ek] at z
        obtain ⟨p, hp, rfl⟩ := List.mem_map.mp z
        exact hall p hp
    have S2 := (S'.same hs).same (Same.new (o := HO.lst ys) ht2)
    exact q H0' _ Γ' _ _ s (k ml nd2 hmem) S2 ⟨t2, ys, rfl, Same.free (S'.same hs).base ht2, (S'.same hs).not_own ht2, upd_same, IsAll.tk (Same.tk (Same.new ht2)) _ _ iy⟩
theorem w_sortSetX (G1 : GFree c.g "sorted") (G2 : GFree c.g "set") (h : WA c Γ [e] fun rs Γ1 => ∃ (r : Ar) (ns : List Str), rs = [r] ∧ RdL Γ1 r (ns.map PyData.str) ∧ ns.length < 64 ∧ ∀ ml : List Str, ml.Nodup → (∀ k, k ∈ ml ↔ k ∈ ns) → Φ (.new (sortD (ml.map PyData.str))) Γ1)
    (hg : c.sc.names.lookup ("sorted" : Str) = some .globalImplicit := by rfl) (hg2 : c.sc.names.lookup ("set" : Str) = some .globalImplicit := by rfl)
    (he : ∀ env : Env, starEach [e] env = (false, eval e env) :: starEach [] env := by intro _; rfl) : W c Γ (.Call (.Name "sorted" p) [.Call (.Name "set" p2) [e] [] pos2] [] pos) Φ := fun X hX H0 σ H S Q q => by
  have hun := hX.room.un
  have inner : PE X (.Call (.Name "set" p2) [e] [] pos2) _ := pe_callTy (cr_setX hX.calm (by omega)) (hX.gl hg2) (by rw [hX.mg]; exact G2) (by decide +kernel) pa_wa (by decide) (by decide) (he X.env) (by rfl)
  refine (pe_callB (cr_sortX hX.calm (by omega)) (hX.gl hg) (by rw [hX.mg]; exact G1) (by decide +kernel) (pa_cons inner pa_nil (by rfl)) (by decide) (by decide) (by rfl) (by rfl)).we ?_
  refine h X hX H0 σ H S _ fun H0' rs Γ' vs H' s ⟨r, ns, e1, hr, hl, k⟩ S' o => ?_
  subst e1
  obtain ⟨v, rfl, o1⟩ := ArAll.one o
  obtain ⟨t, xs, rfl, ht, hi⟩ := hr.get S' o1
  rw [isAll_strs hi] at ht
  refine ⟨t, ns, rfl, SqL.of ht, hl, fun a L ha hsub hall => ⟨a, L, rfl, upd_same, fun nd ml ys t2 pm iy ht2 => ?_⟩⟩
  have hs := Same.new (o := TsO X.prog X.w a L) ha
  have hmem : ∀ k, k ∈ ml ↔ k ∈ ns := fun k => by
    rw [pm.mem_iff]
    constructor
    · intro z
      obtain ⟨p, hp, rfl⟩ := List.mem_map.mp z
      exact hsub p hp
    · exact fun z => hall k z
  have S2 := (S'.same hs).same (Same.new (o := HO.lst ys) ht2)
  exact q H0' _ Γ' _ _ s (k ml (pm.nodup_iff.mpr nd) hmem) S2 ⟨t2, ys, rfl, Same.free (S'.same hs).base ht2, (S'.same hs).not_own ht2, upd_same, IsAll.tk (Same.tk (Same.new ht2)) _ _ iy⟩
end
end K83
set_option maxRecDepth 100000
set_option maxHeartbeats 4000000
namespace K83
open PySem PySem.Spec PyProof.Rows L2
theorem sh_tx (s : Tx) : SeqAt.shaped (.str s.1) = true := Lay.shaped (n := 0) (by simp [Lay, PyData.canLay0, PyData.depth, s.2.2])
theorem sh_nm (x : Nm) : SeqAt.shaped (nmD x) = true := (lay_nm x).shaped
theorem sh_deed (x : Deed) : SeqAt.shaped (deedD x) = true := (lay_deed x).shaped
theorem sh_page (x : Page) : SeqAt.shaped (pageD x) = true := (lay_page x).shaped
theorem sh_runs (x : List Run) : SeqAt.shaped (runsD x) = true := (lay_runs x).shaped
theorem sh_road (f t : Tx) : SeqAt.shaped (.tuple [.str f.1, .str t.1]) = true := (lay_road (f, t)).shaped
theorem sh_roads (x : List (Tx × Tx)) : SeqAt.shaped (.tuple (x.map roadD)) = true := (lay_roads x).shaped
theorem sh_names (x : List Nm) : SeqAt.shaped (namesD x) = true := (lay_names x).shaped
theorem sh_namesT (x : List Nm) : SeqAt.shaped (.tuple (x.map nmD)) = true := (lay_names x).shaped
theorem sh_txs (x : List Tx) : SeqAt.shaped (.tuple (x.map fun y => PyData.str y.1)) = true := (lay_strs x).shaped
theorem dB {a b : Bool} (h : a = b) : Ar.dat (.bool a) = .dat (.bool b) := by rw [h]
theorem dI {a b : Int} (h : a = b) : Ar.dat (.int a) = .dat (.int b) := by rw [h]
theorem ret_dat {Γ : List Sv} {d d' : PyData} (h : d = d') : ∃ r', r' = Ar.dat d' ∧ RetIs Γ (.dat d) r' := ⟨_, rfl, .inl ⟨_, by rw [h], rfl⟩⟩
theorem lcE {c : Ct} {scope : Scope} {t : Tg} {vs : List Nat} {ifs : List Expr} {elt : Expr} {ds ds' : List PyData} {Γ : List Sv} {Φ : Ar → List Sv → Prop} (e : ds = ds') (h : LcJ c scope t vs ifs elt ds' Γ Φ) : LcJ c scope t vs ifs elt ds Γ Φ := e ▸ h
theorem pairs_map {α β : Type} (f : α → PyData) (g : β → PyData) (xs : List α) (ys : List β) : pairsD (xs.map f) (ys.map g) = (xs.zip ys).map fun p => .tuple [f p.1, g p.2] := by
  unfold pairsD
  rw [List.zip_map, List.map_map]
  rfl
theorem any_in {α : Type} [DecidableEq α] {f : α → PyData} (h : ∀ x y, PyData.eqv (f x) (f y) = decide (x = y)) {xs : List α} {y : α} (m : y ∈ xs) : (xs.map f).any (fun z => PyData.eqv z (f y)) = true := by
  rw [List.any_eq_true]
  exact ⟨f y, List.mem_map.mpr ⟨y, m, rfl⟩, (h y y).trans (decide_eq_true rfl)⟩
theorem any_out {α : Type} [DecidableEq α] {f : α → PyData} (h : ∀ x y, PyData.eqv (f x) (f y) = decide (x = y)) {xs : List α} {y : α} (m : y ∉ xs) : (xs.map f).any (fun z => PyData.eqv z (f y)) = false := by
  rw [List.any_eq_false]
  intro d hd
  obtain ⟨x, hx, rfl⟩ := List.mem_map.mp hd
  rw [h x y]
  intro z
  have e := of_decide_eq_true z
  rw [e] at hx
  exact m hx
theorem any_is {α : Type} [DecidableEq α] {f : α → PyData} (h : ∀ x y, PyData.eqv (f x) (f y) = decide (x = y)) {xs : List α} {y : α} {b : Bool} (m : b = true ↔ y ∈ xs) : (xs.map f).any (fun z => PyData.eqv z (f y)) = b := by
  cases b with
  | true => exact any_in h (m.mp rfl)
  | false => exact any_out h fun z => by have := m.mpr z; cases this
theorem sh_word (d : Deed) : SeqAt.shaped (.str (word d)) = true := by cases d <;> (dsimp only [word]; decide +kernel)
end K83
set_option maxRecDepth 100000
set_option maxHeartbeats 4000000
namespace K83
open PySem PySem.Spec PyProof.Rows L2
theorem all_tt {α : Type} (l : List α) : (l.all fun _ => true) = true := by simp
theorem sc_is_word : FnScope ["thing", "sign"] ["thing"] (defScope (topS 10)) := ⟨rfl, rfl, rfl, by decide +kernel, rfl, by decide +kernel, by decide +kernel⟩
theorem F_is_word {g : Gv} (G : GF g) : Fn g 1 "is_word" (spD (fun s : Tx => [.dat (.str s.1)]) (fun s => Word s) fun _ => .dat (.bool true)) := by
  refine fn_def (k := 0) G.d_is_word sc_is_word (fun _ => rfl) fun s hs => ?_
  show Sd _ _ [_, _] _
  refine sd_ifF (wt_ww (ww_orF (wt_not (wt_w (w_callB c_isi G.b_isinstance (wa_cons (w_name 0 rfl (wa_cons (w_type (T := "str") G.b_str (wa_nil ⟨_, ⟨_, _, rfl, by decide, rfl⟩, ⟨_, rfl, ⟨rfl, ww_or1 (wt_not (wt_chain (fun _ => op_le) (fun _ => op_le) (w_int (w_callB c_len G.b_len (wa_cons (w_name 0 rfl (wa_nil ⟨_, .inr ⟨_, rfl, ?lenS, rfl⟩, ⟨_, _, _, rfl, rfl, (w_gint G.c_MOST_LETTERS_offices ⟨rfl, rfl⟩), ⟨?_, ?_⟩⟩⟩)))))))⟩⟩⟩))))))))))
  case lenS => exact Nat.le_trans s.2.1 (by decide)
  · have h1 := hs.1
    have h2 := s.2.1
    simp <;> omega
  · refine sd_ret (w_callB (c_allM (α := Nat)) G.b_all (wa_cons (w_lc (.one 1) [("sign", 1)] (wi_str (w_name 0 rfl ⟨_, rfl, lcM (f := fun n => .str ⟨#[n]⟩) (g := fun n => .bool true) ?_ ?_ (by decide) (wa_nil ⟨_, ⟨_, _, _, rfl, .inr (.inl rfl), rfl⟩, (ret_dat (congrArg PyData.bool (all_tt _)))⟩)⟩)) (tg_one 1) (by show BlkOk ["thing", "sign"] (defScope (topS 10)) _ _; exact ⟨rfl, by decide +kernel, by decide +kernel, by decide +kernel, by decide +kernel⟩))))
    · exact Nat.le_trans s.2.1 (by decide)
    · intro n hn
      exact ⟨trivial, (w_cmp d_inS (w_name 1 rfl (w_gstr G.c_SMALL ⟨_, ⟨_, _, rfl, rfl, rfl⟩, ⟨dB (decide_eq_true (hs.2 n hn)), rfl⟩⟩)))⟩
theorem sc_is_series : FnScope ["thing", "sign"] ["thing"] (defScope (topS 21)) := ⟨rfl, rfl, rfl, by decide +kernel, rfl, by decide +kernel, by decide +kernel⟩
theorem F_is_series {g : Gv} (G : GF g) : Fn g 1 "is_series" (spD (fun s : Tx => [.dat (.str s.1)]) (fun s => Word s) fun _ => .dat (.bool true)) := by
  refine fn_def (k := 0) G.d_is_series sc_is_series (fun _ => rfl) fun s hs => ?_
  show Sd _ _ [_, _] _
  refine sd_ifF (wt_ww (ww_orF (wt_not (wt_w (w_callB c_isi G.b_isinstance (wa_cons (w_name 0 rfl (wa_cons (w_type (T := "str") G.b_str (wa_nil ⟨_, ⟨_, _, rfl, by decide, rfl⟩, ⟨_, rfl, ⟨rfl, ww_or1 (wt_not (wt_chain (fun _ => op_le) (fun _ => op_le) (w_int (w_callB c_len G.b_len (wa_cons (w_name 0 rfl (wa_nil ⟨_, .inr ⟨_, rfl, ?lenS, rfl⟩, ⟨_, _, _, rfl, rfl, (w_gint G.c_MOST_LETTERS_runs ⟨rfl, rfl⟩), ⟨?_, ?_⟩⟩⟩)))))))⟩⟩⟩))))))))))
  case lenS => exact Nat.le_trans s.2.1 (by decide)
  · have h1 := hs.1
    have h2 := s.2.1
    simp <;> omega
  · refine sd_ret (w_callB (c_allM (α := Nat)) G.b_all (wa_cons (w_lc (.one 1) [("sign", 1)] (wi_str (w_name 0 rfl ⟨_, rfl, lcM (f := fun n => .str ⟨#[n]⟩) (g := fun n => .bool true) ?_ ?_ (by decide) (wa_nil ⟨_, ⟨_, _, _, rfl, .inr (.inl rfl), rfl⟩, (ret_dat (congrArg PyData.bool (all_tt _)))⟩)⟩)) (tg_one 1) (by show BlkOk ["thing", "sign"] (defScope (topS 21)) _ _; exact ⟨rfl, by decide +kernel, by decide +kernel, by decide +kernel, by decide +kernel⟩))))
    · exact Nat.le_trans s.2.1 (by decide)
    · intro n hn
      exact ⟨trivial, (w_cmp d_inS (w_name 1 rfl (w_gstr G.c_LETTERS ⟨_, ⟨_, _, rfl, rfl, rfl⟩, ⟨dB (decide_eq_true (hs.2 n hn)), rfl⟩⟩)))⟩
theorem sc_is_at_least : FnScope ["thing", "least"] ["thing", "least"] (defScope (topS 11)) := ⟨rfl, rfl, rfl, by decide +kernel, rfl, by decide +kernel, by decide +kernel⟩
theorem F_is_at_least {g : Gv} (G : GF g) : Fn g 1 "is_at_least" (spD (fun i : Int × Int => [.dat (.int i.1), .dat (.int i.2)]) (fun _ => True) fun i => .dat (.bool (decide (i.2 ≤ i.1)))) := by
  refine fn_def (k := 0) G.d_is_at_least sc_is_at_least (fun _ => rfl) fun i _ => ?_
  show Sd _ _ [_] _
  exact sd_ret (w_andT (w_callB c_isi G.b_isinstance (wa_cons (w_name 0 rfl (wa_cons (w_type (T := "int") G.b_int (wa_nil ⟨_, ⟨_, _, rfl, by decide, rfl⟩, ⟨rfl, rfl⟩⟩)))))) (w_andT (w_not (w_callB c_isi G.b_isinstance (wa_cons (w_name 0 rfl (wa_cons (w_type (T := "bool") G.b_bool (wa_nil ⟨_, ⟨_, _, rfl, by decide, rfl⟩, ⟨_, rfl, ⟨rfl, rfl⟩⟩⟩))))))) (w_one (w_cmp d_ge (w_name 0 rfl (w_name 1 rfl ⟨_, ⟨_, _, rfl, rfl, trivial, rfl⟩, (ret_dat rfl)⟩))))))
theorem sc_is_bounded : FnScope ["thing", "least", "most"] ["thing", "least", "most"] (defScope (topS 12)) := ⟨rfl, rfl, rfl, by decide +kernel, rfl, by decide +kernel, by decide +kernel⟩
theorem F_is_bounded {g : Gv} (G : GF g) : Fn g 2 "is_bounded" (spD (fun i : Int × Int × Int => [.dat (.int i.1), .dat (.int i.2.1), .dat (.int i.2.2)]) (fun _ => True) fun i => .dat (.bool (decide (i.2.1 ≤ i.1) && decide (i.1 ≤ i.2.2)))) := by
  refine fn_def (k := 1) G.d_is_bounded sc_is_bounded (fun _ => rfl) fun i _ => ?_
  show Sd _ _ [_] _
  exact sd_ret (w_andP (w_callD (F_is_at_least G) (wa_cons (w_name 0 rfl (wa_cons (w_name 1 rfl (wa_nil ⟨(_, _), agis_dat (agis_dat (agis_nil)), trivial, ⟨rfl, rfl⟩⟩)))))) (fun _ => w_one (w_cmp d_le (w_name 0 rfl (w_name 2 rfl ⟨_, ⟨_, _, rfl, rfl, trivial, rfl⟩, ⟨rfl, rfl⟩⟩)))) (ret_dat rfl))
theorem sc_is_number : FnScope ["thing", "least", "most"] ["thing", "least", "most"] (defScope (topS 20)) := ⟨rfl, rfl, rfl, by decide +kernel, rfl, by decide +kernel, by decide +kernel⟩
theorem F_is_number {g : Gv} (G : GF g) : Fn g 1 "is_number" (spD (fun i : Int × Int × Int => [.dat (.int i.1), .dat (.int i.2.1), .dat (.int i.2.2)]) (fun _ => True) fun i => .dat (.bool (decide (i.2.1 ≤ i.1) && decide (i.1 ≤ i.2.2)))) := by
  refine fn_def (k := 0) G.d_is_number sc_is_number (fun _ => rfl) fun i _ => ?_
  show Sd _ _ [_] _
  exact sd_ret (w_andT (w_callB c_isi G.b_isinstance (wa_cons (w_name 0 rfl (wa_cons (w_type (T := "int") G.b_int (wa_nil ⟨_, ⟨_, _, rfl, by decide, rfl⟩, ⟨rfl, rfl⟩⟩)))))) (w_andT (w_not (w_callB c_isi G.b_isinstance (wa_cons (w_name 0 rfl (wa_cons (w_type (T := "bool") G.b_bool (wa_nil ⟨_, ⟨_, _, rfl, by decide, rfl⟩, ⟨_, rfl, ⟨rfl, rfl⟩⟩⟩))))))) (w_one (w_chainLe (w_name 1 rfl (w_name 0 rfl ⟨_, _, _, rfl, rfl, (w_name 2 rfl ⟨rfl, rfl⟩), (ret_dat rfl)⟩))))))
theorem sc_is_pair : FnScope ["thing"] ["thing"] (defScope (topS 13)) := ⟨rfl, rfl, rfl, by decide +kernel, rfl, by decide +kernel, by decide +kernel⟩
theorem F_is_pair {g : Gv} (G : GF g) : Fn g 1 "is_pair" (spD (fun p : Page => [.dat (pageD p)]) (fun _ => True) fun _ => .dat (.bool true)) := by
  refine fn_def (k := 0) G.d_is_pair sc_is_pair (fun _ => rfl) fun i _ => ?_
  show Sd _ _ [_] _
  exact sd_ret (w_andT (w_callB c_isi G.b_isinstance (wa_cons (w_name 0 rfl (wa_cons (w_type (T := "tuple") G.b_tuple (wa_nil ⟨_, ⟨_, _, rfl, by decide, rfl⟩, ⟨rfl, rfl⟩⟩)))))) (w_one (w_cmp d_eq (w_callB c_len G.b_len (wa_cons (w_name 0 rfl (wa_nil ⟨_, .inl ⟨_, _, rfl, .inl rfl, rfl⟩, (w_int ⟨_, ⟨_, _, rfl, rfl, (by first | rfl | decide +kernel | exact sh_tx _ | exact sh_word _ | exact sh_nm _ | exact sh_deed _ | exact sh_page _ | exact sh_runs _ | exact sh_road _ _ | exact sh_roads _ | exact sh_names _ | exact sh_namesT _ | exact sh_txs _), (by first | rfl | decide +kernel | exact sh_tx _ | exact sh_word _ | exact sh_nm _ | exact sh_deed _ | exact sh_page _ | exact sh_runs _ | exact sh_road _ _ | exact sh_roads _ | exact sh_names _ | exact sh_namesT _ | exact sh_txs _), rfl⟩, (ret_dat rfl)⟩)⟩)))))))
theorem sc_is_name : FnScope ["thing"] ["thing"] (defScope (topS 33)) := ⟨rfl, rfl, rfl, by decide +kernel, rfl, by decide +kernel, by decide +kernel⟩

theorem F_is_name {g : Gv} (G : GF g) : Fn g 3 "is_name" (spD (fun n : Nm => [.dat (nmD n)]) (fun n => NmOk n) fun _ => .dat (.bool true)) := by
  refine fn_def (k := 2) G.d_is_name sc_is_name (fun _ => rfl) fun n hn => ?_
  obtain ⟨h1, h2, h3, h4, h5⟩ := hn
  show Sd _ _ [_, _] _
  refine sd_ifF (wt_ww (ww_orF (wt_not (wt_w (w_callB c_isi G.b_isinstance (wa_cons (w_name 0 rfl (wa_cons (w_type (T := "tuple") G.b_tuple (wa_nil ⟨_, ⟨_, _, rfl, by decide, rfl⟩, ⟨_, rfl, ⟨rfl, ww_or1 (wt_cmp d_ne (w_callB c_len G.b_len (wa_cons (w_name 0 rfl (wa_nil ⟨_, .inl ⟨_, _, rfl, .inl rfl, rfl⟩, (w_int ⟨_, ⟨_, _, rfl, rfl, (by first | rfl | decide +kernel | exact sh_tx _ | exact sh_word _ | exact sh_nm _ | exact sh_deed _ | exact sh_page _ | exact sh_runs _ | exact sh_road _ _ | exact sh_roads _ | exact sh_names _ | exact sh_namesT _ | exact sh_txs _), (by first | rfl | decide +kernel | exact sh_tx _ | exact sh_word _ | exact sh_nm _ | exact sh_deed _ | exact sh_page _ | exact sh_runs _ | exact sh_road _ _ | exact sh_roads _ | exact sh_names _ | exact sh_namesT _ | exact sh_txs _), rfl⟩, ⟨rfl, ?_⟩⟩)⟩)))))⟩⟩⟩))))))))))
  exact sd_ret (w_andT (w_callD (F_is_bounded G) (wa_cons (w_ixk 0 (w_name 0 rfl ⟨_, _, (.inl rfl), rfl, (wa_cons (w_int (wa_cons (w_gint G.c_MOST_DAY (wa_nil ⟨(_, _, _), agis_dat (agis_dat (agis_dat (agis_nil))), trivial, ⟨dB (by simp [h1, h2]), rfl⟩⟩)))))⟩)))) (w_andT (w_callD (F_is_bounded G) (wa_cons (w_ixk 1 (w_name 0 rfl ⟨_, _, (.inl rfl), rfl, (wa_cons (w_int (wa_cons (w_gint G.c_MOST_NUMBER_pages (wa_nil ⟨(_, _, _), agis_dat (agis_dat (agis_dat (agis_nil))), trivial, ⟨dB (by simp [h3, h4]), rfl⟩⟩)))))⟩)))) (w_one (w_callD (F_is_word G) (wa_cons (w_ixk 2 (w_name 0 rfl ⟨_, _, (.inl rfl), rfl, (wa_nil ⟨_, agis_dat (agis_nil), h5, (ret_dat rfl)⟩)⟩)))))))
theorem sc_is_run : FnScope ["thing"] ["thing"] (defScope (topS 22)) := ⟨rfl, rfl, rfl, by decide +kernel, rfl, by decide +kernel, by decide +kernel⟩

theorem F_is_run {g : Gv} (G : GF g) : Fn g 2 "is_run" (spD (fun r : Run => [.dat (runD r)]) (fun r => RunOk r) fun _ => .dat (.bool true)) := by
  refine fn_def (k := 1) G.d_is_run sc_is_run (fun _ => rfl) fun r hr => ?_
  obtain ⟨h1, h2, h3, h4, h5, h6⟩ := hr
  show Sd _ _ [_, _, _] _
  refine sd_ifF (wt_ww (ww_orF (wt_not (wt_w (w_callB c_isi G.b_isinstance (wa_cons (w_name 0 rfl (wa_cons (w_type (T := "tuple") G.b_tuple (wa_nil ⟨_, ⟨_, _, rfl, by decide, rfl⟩, ⟨_, rfl, ⟨rfl, ww_orF (wt_cmp d_ne (w_callB c_len G.b_len (wa_cons (w_name 0 rfl (wa_nil ⟨_, .inl ⟨_, _, rfl, .inl rfl, rfl⟩, (w_int ⟨_, ⟨_, _, rfl, rfl, (by first | rfl | decide +kernel | exact sh_tx _ | exact sh_word _ | exact sh_nm _ | exact sh_deed _ | exact sh_page _ | exact sh_runs _ | exact sh_road _ _ | exact sh_roads _ | exact sh_names _ | exact sh_namesT _ | exact sh_txs _), (by first | rfl | decide +kernel | exact sh_tx _ | exact sh_word _ | exact sh_nm _ | exact sh_deed _ | exact sh_page _ | exact sh_runs _ | exact sh_road _ _ | exact sh_roads _ | exact sh_names _ | exact sh_namesT _ | exact sh_txs _), rfl⟩, ⟨rfl, ww_or1 (wt_not (wt_w (w_callD (F_is_series G) (wa_cons (w_ixk 0 (w_name 0 rfl ⟨_, _, (.inl rfl), rfl, (wa_nil ⟨_, agis_dat (agis_nil), h1, ⟨_, rfl, ⟨rfl, ?_⟩⟩⟩)⟩))))))⟩⟩)⟩)))))⟩⟩⟩))))))))))
  refine sd_ifF (wt_ww (ww_orF (wt_not (wt_w (w_callD (F_is_number G) (wa_cons (w_ixk 1 (w_name 0 rfl ⟨_, _, (.inl rfl), rfl, (wa_cons (w_int (wa_cons (w_gint G.c_MOST_NUMBER_runs (wa_nil ⟨(_, _, _), agis_dat (agis_dat (agis_dat (agis_nil))), trivial, ⟨_, rfl, ⟨?_, ww_or1 (wt_not (wt_w (w_callD (F_is_number G) (wa_cons (w_ixk 2 (w_name 0 rfl ⟨_, _, (.inl rfl), rfl, (wa_cons (w_int (wa_cons (w_op d_add (w_gint G.c_MOST_NUMBER_runs (w_int ⟨_, ⟨_, _, rfl, rfl, trivial, rfl⟩, (wa_nil ⟨(_, _, _), agis_dat (agis_dat (agis_dat (agis_nil))), trivial, ⟨_, rfl, ⟨?_, ?_⟩⟩⟩)⟩))))))⟩))))))⟩⟩⟩)))))⟩))))))))
  · simp [h2, h3]
  · simp [h4, h5]
  · exact sd_ret (w_cmp d_lt (w_ixk 1 (w_name 0 rfl ⟨_, _, (.inl rfl), rfl, (w_ixk 2 (w_name 0 rfl ⟨_, _, (.inl rfl), rfl, ⟨_, ⟨_, _, rfl, rfl, trivial, rfl⟩, (ret_dat (congrArg PyData.bool (decide_eq_true h6)))⟩⟩))⟩)))
theorem sc_goes_ahead : FnScope ["one", "other"] ["one", "other"] (defScope (topS 23)) := ⟨rfl, rfl, rfl, by decide +kernel, rfl, by decide +kernel, by decide +kernel⟩
theorem F_goes_ahead {g : Gv} (G : GF g) : Fn g 1 "goes_ahead" (spD (fun r : Run × Run => [.dat (runD r.1), .dat (runD r.2)]) (fun r => Ahead r.1 r.2) fun _ => .dat (.bool true)) := by
  refine fn_def (k := 0) G.d_goes_ahead sc_goes_ahead (fun _ => rfl) fun r hr => ?_
  obtain ⟨r, q⟩ := r
  show Sd _ _ [_] _
  rcases hr with h | ⟨h1, h2⟩
  · exact sd_ret (w_orT (w_cmp d_ltS (w_ixk 0 (w_name 0 rfl ⟨_, _, (.inl rfl), rfl, (w_ixk 0 (w_name 1 rfl ⟨_, _, (.inl rfl), rfl, ⟨_, ⟨_, _, rfl, rfl, rfl⟩, ⟨dB (decide_eq_true h), rfl⟩⟩⟩))⟩))) (ret_dat rfl))
  · have h1' : r.s = q.s := h1
    have e : decide (r.s.1.cps.toList < q.s.1.cps.toList) = false := by
      rw [h1']
      exact decide_eq_false (List.lt_irrefl _)
    exact sd_ret (w_orF (w_cmp d_ltS (w_ixk 0 (w_name 0 rfl ⟨_, _, (.inl rfl), rfl, (w_ixk 0 (w_name 1 rfl ⟨_, _, (.inl rfl), rfl, ⟨_, ⟨_, _, rfl, rfl, rfl⟩, ⟨dB e, rfl⟩⟩⟩))⟩))) (w_one (w_andT (w_cmp d_eq (w_ixk 0 (w_name 0 rfl ⟨_, _, (.inl rfl), rfl, (w_ixk 0 (w_name 1 rfl ⟨_, _, (.inl rfl), rfl, ⟨_, ⟨_, _, rfl, rfl, (by first | rfl | decide +kernel | exact sh_tx _ | exact sh_word _ | exact sh_nm _ | exact sh_deed _ | exact sh_page _ | exact sh_runs _ | exact sh_road _ _ | exact sh_roads _ | exact sh_names _ | exact sh_namesT _ | exact sh_txs _), (by first | rfl | decide +kernel | exact sh_tx _ | exact sh_word _ | exact sh_nm _ | exact sh_deed _ | exact sh_page _ | exact sh_runs _ | exact sh_road _ _ | exact sh_roads _ | exact sh_names _ | exact sh_namesT _ | exact sh_txs _), rfl⟩, ⟨dB (by rw [eqv_tx]; exact decide_eq_true h1), rfl⟩⟩⟩))⟩))) (w_one (w_cmp d_lt (w_ixk 2 (w_name 0 rfl ⟨_, _, (.inl rfl), rfl, (w_ixk 1 (w_name 1 rfl ⟨_, _, (.inl rfl), rfl, ⟨_, ⟨_, _, rfl, rfl, trivial, rfl⟩, (ret_dat (congrArg PyData.bool (decide_eq_true h2)))⟩⟩))⟩)))))))
theorem sc_is_runs : FnScope ["thing", "one", "other"] ["thing"] (defScope (topS 24)) := ⟨rfl, rfl, rfl, by decide +kernel, rfl, by decide +kernel, by decide +kernel⟩
theorem F_is_runs {g : Gv} (G : GF g) : Fn g 3 "is_runs" (spD (fun r : List Run => [.dat (runsD r)]) (fun r => RunsOk r) fun _ => .dat (.bool true)) := by
  refine fn_def (k := 2) G.d_is_runs sc_is_runs (fun _ => rfl) fun rs hr => ?_
  obtain ⟨h0, h1, h2, h3⟩ := hr
  show Sd _ _ [_, _] _
  refine sd_ifF (wt_ww (ww_orF (wt_not (wt_w (w_callB c_isi G.b_isinstance (wa_cons (w_name 0 rfl (wa_cons (w_type (T := "tuple") G.b_tuple (wa_nil ⟨_, ⟨_, _, rfl, by decide, rfl⟩, ⟨_, rfl, ⟨rfl, ww_or1 (wt_not (wt_w (w_callB (c_allM (α := Run)) G.b_all (wa_cons (w_lc (.one 1) [("one", 1)] (wi_tup (w_name 0 rfl ⟨_, rfl, lcM (bs := rs) (f := runD) (g := fun n => .bool true) ?_ ?_ (by decide) (wa_nil ⟨_, ⟨_, _, _, rfl, .inr (.inl rfl), rfl⟩, ⟨_, rfl, ⟨by rw [all_tt]; rfl, ?_⟩⟩⟩)⟩)) (tg_one 1) (by show BlkOk ["thing", "one", "other"] (defScope (topS 24)) _ _; exact ⟨rfl, by decide +kernel, by decide +kernel, by decide +kernel, by decide +kernel⟩))))))⟩⟩⟩))))))))))
  · omega
  · intro r hr
    exact ⟨trivial, (w_callD (F_is_run G) (wa_cons (w_name 1 rfl (wa_nil ⟨_, agis_dat (agis_nil), h2 r hr, ⟨rfl, rfl⟩⟩))))⟩
  · refine sd_ret (w_callB (c_allM (α := Run × Run)) G.b_all (wa_cons (w_lc (.many [1, 2]) [("one", 1), ("other", 2)] (wi_zip G.b_zip (wa_cons (w_name 0 rfl (wa_cons (w_slLo (w_name 0 rfl (w_int ⟨1, _, rfl, (.inl ⟨rfl, (wa_nil ⟨_, _, _, _, rfl, .inr ⟨rfl, rfl⟩, lcE (by rw [← List.map_drop]; exact pairs_map runD runD rs (rs.drop 1)) <| lcM (bs := rs.zip (rs.drop 1)) (f := fun p => .tuple [runD p.1, runD p.2]) (g := fun n => .bool true) ?_ ?_ (by decide) (wa_nil ⟨_, ⟨_, _, _, rfl, .inr (.inl rfl), rfl⟩, (ret_dat (congrArg PyData.bool (all_tt _)))⟩)⟩)⟩)⟩))))))) (tg_two 1 2) (by show BlkOk ["thing", "one", "other"] (defScope (topS 24)) _ _; exact ⟨rfl, by decide +kernel, by decide +kernel, by decide +kernel, by decide +kernel⟩))))
    · rw [List.length_zip]; omega
    · intro p hp
      refine ⟨⟨_, rfl, rfl⟩, (w_callD (F_goes_ahead G) (wa_cons (w_name 1 rfl (wa_cons (w_name 2 rfl (wa_nil ⟨(_, _), agis_dat (agis_dat (agis_nil)), ?_, ⟨rfl, rfl⟩⟩))))))⟩
      obtain ⟨i, hi⟩ := List.getElem?_of_mem hp
      obtain ⟨z1, z2⟩ := List.getElem?_zip_eq_some.mp hi
      rw [List.getElem?_drop] at z2
      exact h3 i p.1 p.2 z1 (by rw [Nat.add_comm]; exact z2)
theorem sc_is_void : FnScope ["office", "deed"] ["office", "deed"] (defScope (topS 39)) := ⟨rfl, rfl, rfl, by decide +kernel, rfl, by decide +kernel, by decide +kernel⟩
theorem F_is_void {g : Gv} (G : GF g) : Fn g 4 "is_void" (spD (fun i : Office × Nm => [.dat (officeD i.1), .dat (deedD (.void i.2))]) (fun i => NmOk i.2) fun _ => .dat (.bool true)) := by
  refine fn_def (k := 3) G.d_is_void sc_is_void (fun _ => rfl) fun i hi => ?_
  show Sd _ _ [_] _
  exact sd_ret (w_andT (w_cmp d_eq (w_callB c_len G.b_len (wa_cons (w_name 1 rfl (wa_nil ⟨_, .inl ⟨_, _, rfl, .inl rfl, rfl⟩, (w_int ⟨_, ⟨_, _, rfl, rfl, (by first | rfl | decide +kernel | exact sh_tx _ | exact sh_word _ | exact sh_nm _ | exact sh_deed _ | exact sh_page _ | exact sh_runs _ | exact sh_road _ _ | exact sh_roads _ | exact sh_names _ | exact sh_namesT _ | exact sh_txs _), (by first | rfl | decide +kernel | exact sh_tx _ | exact sh_word _ | exact sh_nm _ | exact sh_deed _ | exact sh_page _ | exact sh_runs _ | exact sh_road _ _ | exact sh_roads _ | exact sh_names _ | exact sh_namesT _ | exact sh_txs _), rfl⟩, ⟨rfl, rfl⟩⟩)⟩))))) (w_one (w_callD (F_is_name G) (wa_cons (w_ixk 1 (w_name 1 rfl ⟨_, _, (.inl rfl), rfl, (wa_nil ⟨_, agis_dat (agis_nil), hi, (ret_dat rfl)⟩)⟩))))))
end K83
set_option maxRecDepth 100000
set_option maxHeartbeats 4000000
namespace K83
open PySem PySem.Spec PyProof.Rows L2

/-! ## dicts of texts: {K: True}, d[k] = v, sorted(d) -/
section
variable {c : Ct} {Γ : List Sv} {a b e : Expr} {es : List Expr} {pos pos' spos p1 p2 : Pos} {Φ : Ar → List Sv → Prop} {po : Po} {rest : List Stmt}
/-- x = {K: True}, K a text of the module -/
theorem sd_disp1 (i : Nat) {x kx z : Str} {k : Nat} {bb : Bool} (G : GStr c.g kx z) (h : ∀ p, Sd c (Γ.set i (.dks p [(.inr z, .bool bb)])) rest po)
    (hs : ∀ env : Env, env.scope = c.sc → swapsWith (.Dict [some (.Name kx p1)] [.Constant (.bool bb) k p2] pos) (some (.Name x pos')) spos.line env = pure false := by intro _ _; rfl)
    (hg : c.sc.names.lookup kx = some .globalImplicit := by rfl) (hd : (kx == ("__debug__" : Str)) = false := by decide)
    (hN : c.N[i]? = some x := by rfl) (hx : Loc c.sc x := by first | exact Or.inl rfl | exact Or.inr rfl) (ht : c.top = true := by rfl) : Sd c Γ (.Assign [.Name x pos'] (.Dict [some (.Name kx p1)] [.Constant (.bool bb) k p2] pos) spos :: rest) po := fun X hX H0 σ H S D F => by
  obtain ⟨t, eg⟩ := G
  have pk : PE X (.Name kx p1) _ := pe_glob (v := .str z) (hX.gl hg) (by rw [hX.mg]; exact eg) ⟨t, rfl⟩ hd
  refine (pss_cons (ps_set hX.ndX (hX.at_ hN) (by rw [hX.sc]; exact hx) (pe_disp (pps_cons pk pe_bl pps_nil) rfl rfl (by simp) (by simp)) (hs X.env hX.sc) (.inl (hX.fn ht x))) pss_ws).wss fun p hp => ?_
  refine ⟨upd_same, [(.inr z, .bl bb)], rfl, by simp, ?_⟩
  have e : upd (upd H p (.dK [])) p (.dK (mergeK [] [((.inr z : Key), V.bl bb)])) = upd H p (.dK [(.inr z, .bl bb)]) := by
    funext q
    by_cases hq : q = p
    · rw [hq, upd_same, upd_same] <;> rfl
    · rw [upd_ne hq, upd_ne hq, upd_ne hq]
  rw [e]
  exact h p X hX H0 _ _ ((S.same (Same.new hp)).store (s := .dks p [(.inr z, .bool bb)]) (fun _ => ⟨rfl, Same.free S.base hp, _, upd_same, .cons ⟨rfl, .bl _⟩ .nil⟩) fun q e => by cases e; exact S.not_own hp) D F
/-- what a store makes of the entries -/
def putD {κ : Type} [DecidableEq κ] (kvs : List (κ × PyData)) (k : κ) (d : PyData) : List (κ × PyData) := if (lk kvs k).isSome = true then kvs.map (fun kv => if kv.1 = k then (kv.1, d) else kv) else kvs ++ [(k, d)]
theorem KvIs.put {H : Hp} {l : List (Key × V)} {m : List (Key × PyData)} (h : KvIs H l m) (k : Key) {v : V} {d : PyData} (hv : Is H v d) : KvIs H (putK l k v) (putD m k d) := by
  have e : (l.any fun kv => decide (kv.1 = k)) = (lk m k).isSome := by
    rw [valV_any]
    rcases h.val k with ⟨z1, z2⟩ | ⟨d', v', z1, z2, z3⟩
    · rw [z1, z2] <;> rfl
    · rw [z1, z2] <;> rfl
  unfold putK putD
  rw [e]
  by_cases q : (lk m k).isSome = true
  · rw [if_pos q, if_pos q]
    clear q e
    induction h with
    | nil => exact .nil
    | @cons p q ps qs h1 t ih =>
      rw [List.map_cons, List.map_cons]
      refine .cons ?_ ih
      by_cases e : p.1 = k
      · rw [if_pos e, if_pos (h1.1.symm.trans e)]
        exact ⟨h1.1, hv⟩
      · rw [if_neg e, if_neg fun z => e (h1.1.trans z)]
        exact h1
  · rw [if_neg q, if_neg q]
    exact Paired.snoc' h ⟨rfl, hv⟩
/-- x[k] = v, x a dict of one's own, k a text; both names or constants -/
theorem sd_dputK (i : Nat) {x : Str} {p : Addr} {kvs0 : List (Key × PyData)} (h0 : Γ[i]? = some (.dks p kvs0)) (h : W c Γ a fun r1 Γ1 => W c Γ1 b fun r2 Γ2 => ∃ (z : Str) (d : PyData) (kvs : List (Key × PyData)), r2 = .dat (.str z) ∧ r1.weak = .dat d ∧ Γ2[i]? = some (.dks p kvs) ∧ kvs.length ≤ 100000 ∧ Sd c (Γ2.set i (.dks p (putD kvs (.inr z) d))) rest po)
    (hs : ∀ env : Env, env.scope = c.sc → swapsWith a (some (.Subscript (.Name x p1) b pos')) spos.line env = pure false := by intro _ _; rfl)
    (hN : c.N[i]? = some x := by rfl) (hv : Vis c.sc x := by first | exact Or.inl rfl | exact Or.inr (Or.inl rfl) | exact Or.inr (Or.inr rfl)) (hd : (x == ("__debug__" : Str)) = false := by decide) (hcd : (x == ("__classdict__" : Str)) = false := by decide) :
    Sd c Γ (.Assign [.Subscript (.Name x p1) b pos'] a spos :: rest) po := fun X hX H0 σ H S D F => by
  refine (pss_cons (ps_dput hX.hu1 (pe_var (hX.at_ hN) (hX.vis hv) hd hcd) pe_we pe_we (hs X.env hX.sc)) pss_ws).wss ?_
  obtain ⟨es, _⟩ := S.slots i _ h0
  refine WE.imp (Q := fun v H1 => WE X b σ H1 fun y H3 => ∃ H4, DPut H3 p y v H4 ∧ WSs X rest D σ H4) (seq2 (R := fun v y H3 => ∃ H4, DPut H3 p y v H4 ∧ WSs X rest D σ H4) hX S h fun H0' r1 r2 Γ2 v1 v2 H2 s ⟨z, d, kvs, e1, e2, e3, hl, k⟩ S2 o1 o2 => ?_) fun v H1 hw => ⟨_, es, WE.imp hw fun y H3 ⟨H4, g, q⟩ => ⟨p, H4, rfl, g, q⟩⟩
  subst e1
  rw [e2] at o1
  obtain ⟨es', h0', kv, hp, hk⟩ := S2.slots i _ e3
  have ez := Is.strInv o2
  subst ez
  have hlen : kv.length = kvs.length := Paired.length hk
  refine ⟨_, DPut.k (k := .inr z) (v := v1) hp (by rw [hlen]; exact Nat.lt_of_le_of_lt hl (by decide)), ?_⟩
  have tk : Tk H2 (upd H2 p (.dK (putK kv (.inr z) v1))) := fun a xs q => by
    rw [upd_ne fun w => by rw [w, hp] at q; cases q]
    exact q
  exact k X hX H0' σ _ (S2.change (s' := .dks p (putD kvs (.inr z) d)) e3 rfl rfl ⟨es', h0', _, upd_same, KvIs.put (KvIs.tk tk hk) _ (Is.tk tk _ _ o1)⟩) D (F.up s)
/-- sorted(d), its keys texts, fewer than 64: they in some order -/
theorem w_sortDK {p : Pos} (G : GFree c.g "sorted") (h : WA c Γ [e] fun rs Γ1 => ∃ (p : Addr) (j : Nat) (kvs : List (Key × PyData)) (ns : List Str), rs = [.raw (.ref p)] ∧ Γ1[j]? = some (.dks p kvs) ∧ kvs.map (·.1) = ns.map Sum.inr ∧ ns.length < 64 ∧ ∀ ys : List Str, ys.Perm ns → Φ (.new (ys.map PyData.str)) Γ1)
    (hg : c.sc.names.lookup ("sorted" : Str) = some .globalImplicit := by rfl) (he : ∀ env : Env, starEach [e] env = (false, eval e env) :: starEach [] env := by intro _; rfl) : W c Γ (.Call (.Name "sorted" p) [e] [] pos) Φ := fun X hX H0 σ H S Q q => by
  refine (pe_callB (call_sortedD hX.calm) (hX.gl hg) (by rw [hX.mg]; exact G) (by decide +kernel) pa_wa (by decide) (by decide) (he X.env) (by rfl)).we ?_
  refine h X hX H0 σ H S _ fun H0' rs Γ' vs H' s ⟨p, j, kvs, ns, e1, e2, e3, hl, k⟩ S' o => ?_
  subst e1
  obtain ⟨v, rfl, o1⟩ := ArAll.one o
  cases (show v = V.ref p from o1)
  obtain ⟨_, _, kv, hp, hk⟩ := S'.slots j _ e2
  refine ⟨p, kv, ns, rfl, .inl hp, by rw [hk.keys]; exact e3, hl, fun ys t pm _ ht => ?_⟩
  exact q H0' _ Γ' _ _ s (k ys pm) (S'.same (Same.new ht)) ⟨t, _, rfl, Same.free S'.base ht, S'.not_own ht, upd_same, IsAll.tk (Same.tk (Same.new ht)) _ _ (all_strs (H := H') ys)⟩
end
end K83
set_option maxRecDepth 100000
set_option maxHeartbeats 4000000
namespace K83
open PySem PySem.Spec PyProof.Rows L2
theorem map_at {α β : Type} {f : α → β} {l : List α} {i : Nat} {d : β} (h : (l.map f)[i]? = some d) : ∃ a, l[i]? = some a ∧ d = f a := by
  rw [List.getElem?_map] at h
  obtain ⟨a, h1, h2⟩ := Option.map_eq_some_iff.mp h
  exact ⟨a, h1, h2.symm⟩
theorem worth_skip : ∀ (l r : List (Tx × Int)) (s : Tx), (∀ w ∈ l, w.1 ≠ s) → worthOf (l ++ r) s = worthOf r s
  | [], _, _, _ => rfl
  | w :: l, r, s, h => by
    show (if w.1 = s then w.2 else worthOf (l ++ r) s) = _
    rw [if_neg (h w List.mem_cons_self), worth_skip l r s fun w hw => h w (List.mem_cons_of_mem _ hw)]
theorem take_mem {α : Type} {l : List α} {i : Nat} {x y : α} (h : l[i]? = some x) (m : y ∈ l.take (i + 1)) : y ∈ l.take i ∨ y = x := by
  rw [take_next h] at m
  rcases List.mem_append.mp m with z | z
  · exact .inl z
  · exact .inr (List.mem_singleton.mp z)
theorem sc_worth_of : FnScope ["office", "series", "own", "worth"] ["office", "series"] (defScope (topS 15)) := ⟨rfl, rfl, rfl, by decide +kernel, rfl, by decide +kernel, by decide +kernel⟩
theorem F_worth_of {g : Gv} (G : GF g) : Fn g 1 "worth_of" (spD (fun i : Office × Tx => [.dat (officeD i.1), .dat (.str i.2.1)]) (fun _ => True) fun i => .dat (.int (worthOf i.1.ws i.2))) := by
  refine fn_def (k := 0) G.d_worth_of sc_worth_of (fun _ => rfl) fun i _ => ?_
  obtain ⟨o, s⟩ := i
  show Sd _ _ [_, _] _
  refine sd_for (.many [2, 3]) (fun Γ' => ∃ x y, Γ' = [.dat (officeD o), .dat (.str s.1), x, y] ∧ ∀ w ∈ o.ws, w.1 ≠ s) (wi_tup (w_ixk 0 (w_name 0 rfl ⟨_, _, (.inl rfl), rfl, ⟨_, rfl, fun k Γk => ∃ x y, Γk = [.dat (officeD o), .dat (.str s.1), x, y] ∧ ∀ w ∈ o.ws.take k, w.1 ≠ s, ⟨_, _, rfl, by simp⟩, ?_, ?_⟩⟩))) ?_ (tg_two 2 3)
  · intro k d Γk hk ⟨x, y, e, h⟩
    subst e
    obtain ⟨w, hw, rfl⟩ := map_at hk
    refine ⟨⟨_, rfl, rfl⟩, ?_⟩
    show Sd _ [.dat (officeD o), .dat (.str s.1), .dat (.str w.1.1), .dat (.int w.2)] [_] _
    refine sd_ifB (wt_cmp d_eq (w_name 2 rfl (w_name 1 rfl ⟨_, ⟨_, _, rfl, rfl, (by first | rfl | decide +kernel | exact sh_tx _ | exact sh_word _ | exact sh_nm _ | exact sh_deed _ | exact sh_page _ | exact sh_runs _ | exact sh_road _ _ | exact sh_roads _ | exact sh_names _ | exact sh_namesT _ | exact sh_txs _), (by first | rfl | decide +kernel | exact sh_tx _ | exact sh_word _ | exact sh_nm _ | exact sh_deed _ | exact sh_page _ | exact sh_runs _ | exact sh_road _ _ | exact sh_roads _ | exact sh_names _ | exact sh_namesT _ | exact sh_txs _), rfl⟩, ⟨fun e => sd_ret (w_name 3 rfl (ret_dat ?_)), fun e => sd_nil ⟨_, _, rfl, fun w' hw' => ?_⟩⟩⟩)))
    · rw [eqv_tx] at e
      have e' := of_decide_eq_true e
      have hl := List.take_append_drop k o.ws
      rw [List.drop_eq_getElem_cons (List.getElem?_eq_some_iff.mp hw).1, (List.getElem?_eq_some_iff.mp hw).2] at hl
      show PyData.int w.2 = .int (worthOf o.ws s)
      rw [← hl, worth_skip _ _ _ h]
      show _ = PyData.int (if w.1 = s then w.2 else _)
      rw [if_pos e']
    · rcases take_mem hw hw' with z | z
      · exact h w' z
      · subst z
        rw [eqv_tx] at e
        exact of_decide_eq_false e
  · intro Γ' ⟨x, y, e, h⟩
    refine ⟨x, y, e, ?_⟩
    rw [List.length_map, List.take_length] at h
    exact h
  · intro Γ' ⟨x, y, e, h⟩
    subst e
    refine sd_ret (w_int (ret_dat ?_))
    have := worth_skip o.ws [] s h
    rw [List.append_nil] at this
    rw [this] <;> rfl
theorem sc_places_of : FnScope ["office", "found", "one", "other"] ["office"] (defScope (topS 14)) := ⟨rfl, rfl, rfl, by decide +kernel, rfl, by decide +kernel, by decide +kernel⟩
def spPlaces : Sp := spT (fun o : Office => [.dat (officeD o)]) (fun o => OffOk o) fun o r => ∃ l : List Tx, r = .dat (.tuple (l.map fun y => PyData.str y.1)) ∧ ∀ f t, (f, t) ∈ o.rds → t ∈ l
theorem txs_of : ∀ {ns : List Str}, (∀ x ∈ ns, ∃ y : Tx, y.1 = x) → ∃ l : List Tx, ns = l.map (·.1)
  | [], _ => ⟨[], rfl⟩
  | x :: ns, h => by
    obtain ⟨l, e⟩ := txs_of (ns := ns) fun x hx => h x (List.mem_cons_of_mem _ hx)
    obtain ⟨y, hy⟩ := h x List.mem_cons_self
    exact ⟨y :: l, by rw [e, ← hy] <;> rfl⟩
/-- the keys are texts, few; what is put stays -/
def Dk (kvs : List (Key × PyData)) (n : Nat) : Prop := kvs.length ≤ n ∧ ∀ q ∈ kvs, ∃ y : Tx, q.1 = .inr y.1
theorem dk_put {kvs : List (Key × PyData)} {n : Nat} (h : Dk kvs n) (y : Tx) (d : PyData) : Dk (putD kvs (.inr y.1) d) (n + 1) ∧ (∀ k, k ∈ kvs.map (·.1) → k ∈ (putD kvs (.inr y.1) d).map (·.1)) ∧ .inr y.1 ∈ (putD kvs (.inr y.1) d).map (·.1) := by
  unfold putD
  by_cases e : (lk kvs (.inr y.1)).isSome = true
  · rw [if_pos e]
    have ek : (kvs.map fun kv => if kv.1 = .inr y.1 then (kv.1, d) else kv).map (·.1) = kvs.map (·.1) := by
      rw [List.map_map]
      refine List.map_congr_left fun q _ => ?_
      show (if q.1 = .inr y.1 then (q.1, d) else q).1 = q.1
      split <;> rfl
    refine ⟨⟨by rw [List.length_map]; exact Nat.le_succ_of_le h.1, fun q hq => ?_⟩, fun k hk => by rw [ek]; exact hk, ?_⟩
    · obtain ⟨q0, hq0, rfl⟩ := List.mem_map.mp hq
      show ∃ y', (if q0.1 = .inr y.1 then (q0.1, d) else q0).1 = _
      split <;> exact h.2 q0 hq0
    · rw [ek]
      unfold lk at e
      rw [Option.isSome_map] at e
      obtain ⟨q, hq⟩ := Option.isSome_iff_exists.mp e
      exact List.mem_map.mpr ⟨q, List.mem_of_find?_eq_some hq, by have h2 := List.find?_some hq; simpa using h2⟩
  · rw [if_neg e]
    refine ⟨⟨by rw [List.length_append]; exact Nat.succ_le_succ h.1, fun q hq => ?_⟩, fun k hk => by rw [List.map_append]; exact List.mem_append_left _ hk, by rw [List.map_append]; exact List.mem_append_right _ List.mem_cons_self⟩
    rcases List.mem_append.mp hq with z | z
    · exact h.2 q z
    · rw [List.mem_singleton.mp z]
      exact ⟨y, rfl⟩
theorem F_places_of {g : Gv} (G : GF g) : Fn g 1 "places_of" spPlaces := by
  refine fn_def (k := 0) G.d_places_of sc_places_of (fun _ => rfl) fun o ho => ?_
  show Sd _ _ [_, _, _] _
  refine sd_disp1 1 G.c_NOWHERE fun p => ?_
  refine sd_for (.many [2, 3]) (fun Γ' => ∃ x y kvs, Γ' = [.dat (officeD o), .dks p kvs, x, y] ∧ Dk kvs (1 + 2 * o.rds.length) ∧ ∀ w ∈ o.rds, (.inr w.2.1 : Key) ∈ kvs.map (·.1)) (wi_tup (w_ixk 1 (w_name 0 rfl ⟨_, _, (.inl rfl), rfl, ⟨_, rfl, fun k Γk => ∃ x y kvs, Γk = [.dat (officeD o), .dks p kvs, x, y] ∧ Dk kvs (1 + 2 * k) ∧ ∀ w ∈ o.rds.take k, (.inr w.2.1 : Key) ∈ kvs.map (·.1), ⟨_, _, _, rfl, ⟨Nat.le_refl _, ?_⟩, by simp⟩, ?_, ?_⟩⟩))) ?_ (tg_two 2 3)
  · intro q hq
    rw [List.mem_singleton.mp hq]
    exact ⟨tNone, rfl⟩
  · intro k d Γk hk ⟨x, y, kvs, e, h1, h2⟩
    subst e
    obtain ⟨w, hw, rfl⟩ := map_at hk
    have hkl : k < o.rds.length := (List.getElem?_eq_some_iff.mp hw).1
    have hb := ho.2
    refine ⟨⟨_, rfl, rfl⟩, ?_⟩
    show Sd _ [.dat (officeD o), .dks p kvs, .dat (.str w.1.1), .dat (.str w.2.1)] [_, _] _
    obtain ⟨a1, a2, a3⟩ := dk_put h1 w.1 (.bool true)
    obtain ⟨b1, b2, b3⟩ := dk_put a1 w.2 (.bool true)
    refine sd_dputK 1 rfl (w_bl (w_name 2 rfl ⟨_, _, _, rfl, rfl, rfl, ?_, ?_⟩))
    · have := h1.1
      omega
    · refine sd_dputK 1 rfl (w_bl (w_name 3 rfl ⟨_, _, _, rfl, rfl, rfl, ?_, sd_nil ⟨_, _, _, rfl, b1, fun w' hw' => ?_⟩⟩))
      · have := a1.1
        omega
      · rcases take_mem hw hw' with z | z
        · exact b2 _ (a2 _ (h2 w' z))
        · rw [z]; exact b3
  · intro Γ' ⟨x, y, kvs, e, h1, h2⟩
    rw [List.length_map] at h1 h2
    rw [List.take_length] at h2
    exact ⟨x, y, kvs, e, h1, h2⟩
  · intro Γ' ⟨x, y, kvs, e, h1, h2⟩
    subst e
    have hb := ho.2
    have hks : ∀ k ∈ kvs.map (·.1), ∃ y : Tx, k = .inr y.1 := fun k hk => by
      obtain ⟨q, hq, rfl⟩ := List.mem_map.mp hk
      exact h1.2 q hq
    have hns : ∃ l : List Tx, kvs.map (·.1) = (l.map (·.1)).map Sum.inr := by
      generalize kvs.map (·.1) = ks at hks
      clear h2 h1
      induction ks with
      | nil => exact ⟨[], rfl⟩
      | cons k ks ih =>
        obtain ⟨l, e⟩ := ih fun k hk => hks k (List.mem_cons_of_mem _ hk)
        obtain ⟨y, hy⟩ := hks k List.mem_cons_self
        exact ⟨y :: l, by rw [e, hy] <;> rfl⟩
    obtain ⟨l, el⟩ := hns
    have hll : l.length = kvs.length := by
      have := congrArg List.length el
      simp only [List.length_map] at this
      exact this.symm
    refine sd_ret (w_callTy c_tupleL G.b_tuple (wa_cons (w_sortDK G.b_sorted (wa_cons (w_name 1 rfl (wa_nil ⟨_, 1, _, l.map (·.1), rfl, rfl, el, ?_, fun ys pm => wa_nil ⟨_, ⟨_, _, rfl, .inr (.inl rfl), rfl⟩, ?_⟩⟩))))))
    · rw [List.length_map, hll]
      have := h1.1
      omega
    · obtain ⟨l', e'⟩ := txs_of (ns := ys) fun x hx => by
        obtain ⟨y, hy, e⟩ := List.mem_map.mp (pm.mem_iff.mp hx)
        exact ⟨y, e⟩
      refine ⟨_, ⟨l', ?_, fun f t hft => ?_⟩, .inl ⟨_, rfl, rfl⟩⟩
      · rw [e', List.map_map] <;> rfl
      · have z := h2 (f, t) hft
        rw [el] at z
        obtain ⟨x, hx, e⟩ := List.mem_map.mp z
        cases e
        have hx2 := pm.mem_iff.mpr hx
        rw [e'] at hx2
        obtain ⟨t', ht', e2⟩ := List.mem_map.mp hx2
        have : t' = t := Subtype.ext e2
        rw [← this]
        exact ht'
theorem sc_are_named : FnScope ["office", "thing", "run"] ["office", "thing"] (defScope (topS 34)) := ⟨rfl, rfl, rfl, by decide +kernel, rfl, by decide +kernel, by decide +kernel⟩

theorem runs_ne (x : Run) (xs : List Run) : PyData.eqv (runsD (x :: xs)) (.tuple []) = false := by
  show PyData.eqvAll (runD x :: xs.map runD) [] = false
  simp [PyData.eqvAll]
theorem F_are_named {g : Gv} (G : GF g) : Fn g 4 "are_named" (spD (fun i : Office × List Run => [.dat (officeD i.1), .dat (runsD i.2)]) (fun i => Named i.1 i.2) fun _ => .dat (.bool true)) := by
  refine fn_def (k := 3) G.d_are_named sc_are_named (fun _ => rfl) fun i hi => ?_
  obtain ⟨o, rs⟩ := i
  obtain ⟨hr, hw⟩ := hi
  have hne : PyData.eqv (runsD rs) (.tuple []) = false := by
    cases rs with
    | nil => exact absurd rfl hr.1
    | cons x xs => exact runs_ne x xs
  show Sd _ _ [_] _
  refine sd_ret (w_andT (w_callD (F_is_runs G) (wa_cons (w_name 1 rfl (wa_nil ⟨_, agis_dat (agis_nil), hr, ⟨rfl, rfl⟩⟩)))) (w_andT (w_cmp d_ne (w_name 1 rfl (w_tup (wa_nil ⟨[], rfl, by exact Nat.le_of_ble_eq_true rfl, ⟨_, ⟨_, _, rfl, rfl, (by first | rfl | decide +kernel | exact sh_tx _ | exact sh_word _ | exact sh_nm _ | exact sh_deed _ | exact sh_page _ | exact sh_runs _ | exact sh_road _ _ | exact sh_roads _ | exact sh_names _ | exact sh_namesT _ | exact sh_txs _), (by first | rfl | decide +kernel | exact sh_tx _ | exact sh_word _ | exact sh_nm _ | exact sh_deed _ | exact sh_page _ | exact sh_runs _ | exact sh_road _ _ | exact sh_roads _ | exact sh_names _ | exact sh_namesT _ | exact sh_txs _), rfl⟩, ⟨dB (by rw [show (if true = true then !PyData.eqv (runsD rs) (.tuple []) else _) = !PyData.eqv (runsD rs) (.tuple []) from rfl]; exact congrArg not hne), rfl⟩⟩⟩)))) (w_one (w_callB (c_allM (α := Run)) G.b_all (wa_cons (w_lc (.one 2) [("run", 2)] (wi_tup (w_name 1 rfl ⟨_, rfl, lcM (bs := rs) (f := runD) (g := fun n => .bool true) ?_ ?_ (by decide) (wa_nil ⟨_, ⟨_, _, _, rfl, .inr (.inl rfl), rfl⟩, (ret_dat (congrArg PyData.bool (all_tt _)))⟩)⟩)) (tg_one 2) (by show BlkOk ["office", "thing", "run"] (defScope (topS 34)) _ _; exact ⟨rfl, by decide +kernel, by decide +kernel, by decide +kernel, by decide +kernel⟩)))))))
  · have : rs.length ≤ 1000 := Nat.le_trans hr.2.1 (by decide)
    omega
  · intro r hrm
    exact ⟨trivial, (w_cmp d_gt (w_callD (F_worth_of G) (wa_cons (w_name 0 rfl (wa_cons (w_ixk 0 (w_name 2 rfl ⟨_, _, (.inl rfl), rfl, (wa_nil ⟨(o, _), agis_dat (agis_dat (agis_nil)), trivial, (w_int ⟨_, ⟨_, _, rfl, rfl, trivial, rfl⟩, ⟨dB (decide_eq_true (hw r hrm)), rfl⟩⟩)⟩)⟩)))))))⟩
theorem sc_is_move : FnScope ["office", "deed"] ["office", "deed"] (defScope (topS 35)) := ⟨rfl, rfl, rfl, by decide +kernel, rfl, by decide +kernel, by decide +kernel⟩
theorem any_roads {o : Office} {f t : Tx} (h : (f, t) ∈ o.rds) : ((o.rds.map roadD).any fun z => PyData.eqv z (roadD (f, t))) = true := by
  rw [List.any_eq_true]
  exact ⟨roadD (f, t), List.mem_map.mpr ⟨(f, t), h, rfl⟩, (eqv_road _ _).trans (decide_eq_true rfl)⟩
theorem F_is_move {g : Gv} (G : GF g) : Fn g 5 "is_move" (spD (fun i : Office × Tx × Tx × List Run => [.dat (officeD i.1), .dat (deedD (.move i.2.1 i.2.2.1 i.2.2.2))]) (fun i => DeedOk i.1 (.move i.2.1 i.2.2.1 i.2.2.2)) fun _ => .dat (.bool true)) := by
  refine fn_def (k := 4) G.d_is_move sc_is_move (fun _ => rfl) fun i hi => ?_
  obtain ⟨o, f, t, rs⟩ := i
  obtain ⟨h1, h2⟩ := hi
  show Sd _ _ [_] _
  exact sd_ret (w_andT (w_cmp d_eq (w_callB c_len G.b_len (wa_cons (w_name 1 rfl (wa_nil ⟨_, .inl ⟨_, _, rfl, .inl rfl, rfl⟩, (w_int ⟨_, ⟨_, _, rfl, rfl, (by first | rfl | decide +kernel | exact sh_tx _ | exact sh_word _ | exact sh_nm _ | exact sh_deed _ | exact sh_page _ | exact sh_runs _ | exact sh_road _ _ | exact sh_roads _ | exact sh_names _ | exact sh_namesT _ | exact sh_txs _), (by first | rfl | decide +kernel | exact sh_tx _ | exact sh_word _ | exact sh_nm _ | exact sh_deed _ | exact sh_page _ | exact sh_runs _ | exact sh_road _ _ | exact sh_roads _ | exact sh_names _ | exact sh_namesT _ | exact sh_txs _), rfl⟩, ⟨rfl, rfl⟩⟩)⟩))))) (w_andT (w_cmp d_in (w_tup (wa_cons (w_ixk 1 (w_name 1 rfl ⟨_, _, (.inl rfl), rfl, (wa_cons (w_ixk 2 (w_name 1 rfl ⟨_, _, (.inl rfl), rfl, (wa_nil ⟨[_, _], rfl, by exact Nat.le_of_ble_eq_true rfl, (w_ixk 1 (w_name 0 rfl ⟨_, _, (.inl rfl), rfl, ⟨_, ⟨_, _, rfl, .inl rfl, (by first | rfl | decide +kernel | exact sh_tx _ | exact sh_word _ | exact sh_nm _ | exact sh_deed _ | exact sh_page _ | exact sh_runs _ | exact sh_road _ _ | exact sh_roads _ | exact sh_names _ | exact sh_namesT _ | exact sh_txs _), (by first | rfl | decide +kernel | exact sh_tx _ | exact sh_word _ | exact sh_nm _ | exact sh_deed _ | exact sh_page _ | exact sh_runs _ | exact sh_road _ _ | exact sh_roads _ | exact sh_names _ | exact sh_namesT _ | exact sh_txs _), rfl⟩, ⟨dB (any_roads h1), rfl⟩⟩⟩))⟩)⟩)))⟩))))) (w_one (w_callD (F_are_named G) (wa_cons (w_name 0 rfl (wa_cons (w_ixk 3 (w_name 1 rfl ⟨_, _, (.inl rfl), rfl, (wa_nil ⟨(_, _), agis_dat (agis_dat (agis_nil)), h2, (ret_dat rfl)⟩)⟩)))))))))
theorem sc_is_bag : FnScope ["office", "deed"] ["office", "deed"] (defScope (topS 36)) := ⟨rfl, rfl, rfl, by decide +kernel, rfl, by decide +kernel, by decide +kernel⟩
theorem tx_ne {f t : Tx} (h : f ≠ t) : PyData.eqv (.str f.1) (.str t.1) = false := (eqv_tx f t).trans (decide_eq_false h)
theorem F_is_bag {g : Gv} (G : GF g) : Fn g 3 "is_bag" (spD (fun i : Office × Tx × Tx × Int => [.dat (officeD i.1), .dat (deedD (.bag i.2.1 i.2.2.1 i.2.2.2))]) (fun i => DeedOk i.1 (.bag i.2.1 i.2.2.1 i.2.2.2)) fun _ => .dat (.bool true)) := by
  refine fn_def (k := 2) G.d_is_bag sc_is_bag (fun _ => rfl) fun i hi => ?_
  obtain ⟨o, f, t, m⟩ := i
  obtain ⟨h1, h2, h3, h4⟩ := hi
  show Sd _ _ [_, _] _
  refine sd_ifF (wt_ww (ww_orF (wt_cmp d_ne (w_callB c_len G.b_len (wa_cons (w_name 1 rfl (wa_nil ⟨_, .inl ⟨_, _, rfl, .inl rfl, rfl⟩, (w_int ⟨_, ⟨_, _, rfl, rfl, (by first | rfl | decide +kernel | exact sh_tx _ | exact sh_word _ | exact sh_nm _ | exact sh_deed _ | exact sh_page _ | exact sh_runs _ | exact sh_road _ _ | exact sh_roads _ | exact sh_names _ | exact sh_namesT _ | exact sh_txs _), (by first | rfl | decide +kernel | exact sh_tx _ | exact sh_word _ | exact sh_nm _ | exact sh_deed _ | exact sh_page _ | exact sh_runs _ | exact sh_road _ _ | exact sh_roads _ | exact sh_names _ | exact sh_namesT _ | exact sh_txs _), rfl⟩, ⟨rfl, ww_orF (wt_cmp d_notIn (w_tup (wa_cons (w_ixk 1 (w_name 1 rfl ⟨_, _, (.inl rfl), rfl, (wa_cons (w_ixk 2 (w_name 1 rfl ⟨_, _, (.inl rfl), rfl, (wa_nil ⟨[_, _], rfl, by exact Nat.le_of_ble_eq_true rfl, (w_ixk 1 (w_name 0 rfl ⟨_, _, (.inl rfl), rfl, ⟨_, ⟨_, _, rfl, .inl rfl, (by first | rfl | decide +kernel | exact sh_tx _ | exact sh_word _ | exact sh_nm _ | exact sh_deed _ | exact sh_page _ | exact sh_runs _ | exact sh_road _ _ | exact sh_roads _ | exact sh_names _ | exact sh_namesT _ | exact sh_txs _), (by first | rfl | decide +kernel | exact sh_tx _ | exact sh_word _ | exact sh_nm _ | exact sh_deed _ | exact sh_page _ | exact sh_runs _ | exact sh_road _ _ | exact sh_roads _ | exact sh_names _ | exact sh_namesT _ | exact sh_txs _), rfl⟩, ⟨congrArg not (any_roads h1), ww_or1 (wt_cmp d_eq (w_ixk 1 (w_name 1 rfl ⟨_, _, (.inl rfl), rfl, (w_gstr G.c_NOWHERE ⟨_, ⟨_, _, rfl, rfl, (by first | rfl | decide +kernel | exact sh_tx _ | exact sh_word _ | exact sh_nm _ | exact sh_deed _ | exact sh_page _ | exact sh_runs _ | exact sh_road _ _ | exact sh_roads _ | exact sh_names _ | exact sh_namesT _ | exact sh_txs _), (by first | rfl | decide +kernel | exact sh_tx _ | exact sh_word _ | exact sh_nm _ | exact sh_deed _ | exact sh_page _ | exact sh_runs _ | exact sh_road _ _ | exact sh_roads _ | exact sh_names _ | exact sh_namesT _ | exact sh_txs _), rfl⟩, ⟨tx_ne (t := tNone) h2, ?_⟩⟩)⟩)))⟩⟩⟩))⟩)⟩)))⟩)))))⟩⟩)⟩)))))))
  have e : (decide ((1 : Int) ≤ m) && decide (m ≤ 1000000000)) = true := by simp [h3, h4]
  exact sd_ret (w_callD (F_is_bounded G) (wa_cons (w_ixk 3 (w_name 1 rfl ⟨_, _, (.inl rfl), rfl, (wa_cons (w_int (wa_cons (w_gint G.c_MOST_IN_BAG (wa_nil ⟨(_, _, _), agis_dat (agis_dat (agis_dat (agis_nil))), trivial, (ret_dat (congrArg PyData.bool e))⟩)))))⟩))))
theorem sc_is_read : FnScope ["office", "deed"] ["office", "deed"] (defScope (topS 37)) := ⟨rfl, rfl, rfl, by decide +kernel, rfl, by decide +kernel, by decide +kernel⟩
theorem F_is_read {g : Gv} (G : GF g) : Fn g 5 "is_read" (spD (fun i : Office × Nm × List Run => [.dat (officeD i.1), .dat (deedD (.read i.2.1 i.2.2))]) (fun i => DeedOk i.1 (.read i.2.1 i.2.2)) fun _ => .dat (.bool true)) := by
  refine fn_def (k := 4) G.d_is_read sc_is_read (fun _ => rfl) fun i hi => ?_
  obtain ⟨o, n, rs⟩ := i
  obtain ⟨h1, h2⟩ := hi
  show Sd _ _ [_] _
  exact sd_ret (w_andT (w_cmp d_eq (w_callB c_len G.b_len (wa_cons (w_name 1 rfl (wa_nil ⟨_, .inl ⟨_, _, rfl, .inl rfl, rfl⟩, (w_int ⟨_, ⟨_, _, rfl, rfl, (by first | rfl | decide +kernel | exact sh_tx _ | exact sh_word _ | exact sh_nm _ | exact sh_deed _ | exact sh_page _ | exact sh_runs _ | exact sh_road _ _ | exact sh_roads _ | exact sh_names _ | exact sh_namesT _ | exact sh_txs _), (by first | rfl | decide +kernel | exact sh_tx _ | exact sh_word _ | exact sh_nm _ | exact sh_deed _ | exact sh_page _ | exact sh_runs _ | exact sh_road _ _ | exact sh_roads _ | exact sh_names _ | exact sh_namesT _ | exact sh_txs _), rfl⟩, ⟨rfl, rfl⟩⟩)⟩))))) (w_andT (w_callD (F_is_name G) (wa_cons (w_ixk 1 (w_name 1 rfl ⟨_, _, (.inl rfl), rfl, (wa_nil ⟨_, agis_dat (agis_nil), h1, ⟨rfl, rfl⟩⟩)⟩)))) (w_one (w_callD (F_are_named G) (wa_cons (w_name 0 rfl (wa_cons (w_ixk 2 (w_name 1 rfl ⟨_, _, (.inl rfl), rfl, (wa_nil ⟨(_, _), agis_dat (agis_dat (agis_nil)), h2, (ret_dat rfl)⟩)⟩)))))))))
theorem sc_is_count : FnScope ["office", "deed"] ["office", "deed"] (defScope (topS 38)) := ⟨rfl, rfl, rfl, by decide +kernel, rfl, by decide +kernel, by decide +kernel⟩
theorem F_is_count {g : Gv} (G : GF g) : Fn g 3 "is_count" (spD (fun i : Office × Tx × Int => [.dat (officeD i.1), .dat (deedD (.count i.2.1 i.2.2))]) (fun i => OffOk i.1 ∧ DeedOk i.1 (.count i.2.1 i.2.2)) fun _ => .dat (.bool true)) := by
  refine fn_def (k := 2) G.d_is_count sc_is_count (fun _ => rfl) fun i hi => ?_
  obtain ⟨o, p, m⟩ := i
  obtain ⟨h0, ⟨f, h1⟩, h2, h3, h4⟩ := hi
  have e : (decide ((0 : Int) ≤ m) && decide (m ≤ 1000000000000)) = true := by simp [h3, h4]
  show Sd _ _ [_, _] _
  refine sd_ifF (wt_ww (ww_orF (wt_cmp d_ne (w_callB c_len G.b_len (wa_cons (w_name 1 rfl (wa_nil ⟨_, .inl ⟨_, _, rfl, .inl rfl, rfl⟩, (w_int ⟨_, ⟨_, _, rfl, rfl, (by first | rfl | decide +kernel | exact sh_tx _ | exact sh_word _ | exact sh_nm _ | exact sh_deed _ | exact sh_page _ | exact sh_runs _ | exact sh_road _ _ | exact sh_roads _ | exact sh_names _ | exact sh_namesT _ | exact sh_txs _), (by first | rfl | decide +kernel | exact sh_tx _ | exact sh_word _ | exact sh_nm _ | exact sh_deed _ | exact sh_page _ | exact sh_runs _ | exact sh_road _ _ | exact sh_roads _ | exact sh_names _ | exact sh_namesT _ | exact sh_txs _), rfl⟩, ⟨rfl, ww_orF (wt_cmp d_notIn (w_ixk 1 (w_name 1 rfl ⟨_, _, (.inl rfl), rfl, (w_call (F_places_of G) (wa_cons (w_name 0 rfl (wa_nil ⟨o, agis_dat agis_nil, h0, ?_⟩))))⟩)))⟩⟩)⟩)))))))
  intro r ⟨l, e1, hl⟩
  subst e1
  have hp : (l.map fun y => PyData.str y.1).any (fun z => PyData.eqv z (.str p.1)) = true := any_in (f := fun y : Tx => PyData.str y.1) eqv_tx (hl f p h1)
  refine ⟨_, ⟨_, _, rfl, .inl rfl, sh_tx _, sh_txs _, rfl⟩, congrArg not hp, ww_or1 (wt_cmp d_eq (w_ixk 1 (w_name 1 rfl ⟨_, _, (.inl rfl), rfl, (w_gstr G.c_NOWHERE ⟨_, ⟨_, _, rfl, rfl, (by first | rfl | decide +kernel | exact sh_tx _ | exact sh_word _ | exact sh_nm _ | exact sh_deed _ | exact sh_page _ | exact sh_runs _ | exact sh_road _ _ | exact sh_roads _ | exact sh_names _ | exact sh_namesT _ | exact sh_txs _), (by first | rfl | decide +kernel | exact sh_tx _ | exact sh_word _ | exact sh_nm _ | exact sh_deed _ | exact sh_page _ | exact sh_runs _ | exact sh_road _ _ | exact sh_roads _ | exact sh_names _ | exact sh_namesT _ | exact sh_txs _), rfl⟩, ⟨tx_ne (t := tNone) h2, ?_⟩⟩)⟩)))⟩
  exact sd_ret (w_callD (F_is_bounded G) (wa_cons (w_ixk 2 (w_name 1 rfl ⟨_, _, (.inl rfl), rfl, (wa_cons (w_int (wa_cons (w_gint G.c_MOST_COUNTED (wa_nil ⟨(_, _, _), agis_dat (agis_dat (agis_dat (agis_nil))), trivial, (ret_dat (congrArg PyData.bool e))⟩)))))⟩))))
end K83
set_option maxRecDepth 100000
set_option maxHeartbeats 4000000
namespace K83
open PySem PySem.Spec PyProof.Rows L2

/-! ## x = [elt for tg in iter if ..] -/
section
variable {c : Ct} {Γ : List Sv} {pos py spos : Pos} {tg iter elt e : Expr} {ifs : List Expr} {scope : Scope} {po : Po} {rest : List Stmt}
theorem lc_stmt (i : Nat) {y : Str} (t : Tg) (own : List (Str × Nat)) {Φ : Ar → List Sv → Prop} (hi : WI c Γ tg iter fun ds Γ1 => LcJ c scope t (own.map (·.2)) ifs elt ds Γ1 Φ) (tgo : TgOk (c.blk scope) tg t) (ok : BlkOk c.N c.sc scope own)
    (next : ∀ X, InC c X → ∀ H0 σ H v r Γ', Kn H0 Γ' σ H → ArOk H0 H Γ' v r → Φ r Γ' → ∀ D, Fits H0 po D → WSs X rest D (σ.set i (some v)) H)
    (hin : ∀ i ∈ t.ix, i ∈ own.map (·.2)) (hl : ifs.length ≤ 1)
    (hs : ∀ (env : Env) x, foldedSetIterable iter env x = pure x) (hN : c.N[i]? = some y) (hk : c.sc.kind = .function) (hy : c.sc.names.lookup y = some .local) (hln : (py.line == pos.line) = true)
    (ha : (scope.names.any fun (n, k) => n == y && (k == .local || k == .cell)) = false) : Sd c Γ (.Assign [.Name y py] (.ListComp elt [⟨tg, iter, ifs, 0⟩] scope pos) spos :: rest) po := fun X hX H0 σ H S D F => by
  obtain ⟨wi, hpi, hw⟩ := hi X hX
  refine (pss_cons (ps_setLc (g := t.g X.K) hX.calm hX.ndX (hX.at_ hN) (by rw [hX.sc]; exact hy) (sw_true (by rw [hX.sc]; exact hk) (by rw [hX.sc]; exact hy) hln ha) hpi (by rw [hX.N, hX.sc]; exact ok) (fun s H C cl fp => tgo.ok _ (hX.blk s H scope C cl fp)) (fun s H C cl fp => pts_of hl) (fun s H C cl fp => pe_web) (hs X.env)) pss_ws).wss ?_
  exact hw H0 σ H S _ fun H0' ds Γ' H' J G Y s ph S' wk hG hY => lcJ_run (Q := fun x H1 => WSs X rest D (σ.set i (some x)) H1) hX hin S' wk hG hY ph fun H0'' r Γ'' v H'' s' p S'' o => next X hX H0'' σ H'' v r Γ'' S'' o p D (F.up (s.trans s'))
theorem sd_ownLc (i : Nat) {y : Str} (t : Tg) (own : List (Str × Nat)) (hi : WI c Γ tg iter fun ds Γ1 => LcJ c scope t (own.map (·.2)) ifs elt ds Γ1 fun r Γ2 => ∃ ds', r = .new ds' ∧ ∀ p, Sd c (Γ2.set i (.own p ds')) rest po) (tgo : TgOk (c.blk scope) tg t) (ok : BlkOk c.N c.sc scope own)
    (hin : ∀ i ∈ t.ix, i ∈ own.map (·.2) := by decide) (hl : ifs.length ≤ 1 := by exact Nat.le_of_ble_eq_true rfl)
    (hs : ∀ (env : Env) x, foldedSetIterable iter env x = pure x := by intro _ _; rfl) (hN : c.N[i]? = some y := by rfl) (hk : c.sc.kind = .function := by rfl) (hy : c.sc.names.lookup y = some .local := by rfl) (hln : (py.line == pos.line) = true := by rfl)
    (ha : (scope.names.any fun (n, k) => n == y && (k == .local || k == .cell)) = false := by rfl) : Sd c Γ (.Assign [.Name y py] (.ListComp elt [⟨tg, iter, ifs, 0⟩] scope pos) spos :: rest) po :=
  lc_stmt i t own hi tgo ok (fun X hX H0 σ H v r Γ' S o ⟨ds', e1, k⟩ D F => by
    subst e1
    obtain ⟨q, vs, rfl, h0, hn, hq, hi⟩ := o
    exact k q X hX H0 _ H (S.store (s := .own q ds') (fun _ => ⟨rfl, h0, vs, hq, hi⟩) fun p e => by cases e; exact hn) D F) hin hl hs hN hk hy hln ha
theorem sd_shrLc (i : Nat) {y : Str} (t : Tg) (own : List (Str × Nat)) (hi : WI c Γ tg iter fun ds Γ1 => LcJ c scope t (own.map (·.2)) ifs elt ds Γ1 fun r Γ2 => ∃ ds', r = .new ds' ∧ Sd c (Γ2.set i (.shr ds')) rest po) (tgo : TgOk (c.blk scope) tg t) (ok : BlkOk c.N c.sc scope own)
    (hin : ∀ i ∈ t.ix, i ∈ own.map (·.2) := by decide) (hl : ifs.length ≤ 1 := by exact Nat.le_of_ble_eq_true rfl)
    (hs : ∀ (env : Env) x, foldedSetIterable iter env x = pure x := by intro _ _; rfl) (hN : c.N[i]? = some y := by rfl) (hk : c.sc.kind = .function := by rfl) (hy : c.sc.names.lookup y = some .local := by rfl) (hln : (py.line == pos.line) = true := by rfl)
    (ha : (scope.names.any fun (n, k) => n == y && (k == .local || k == .cell)) = false := by rfl) : Sd c Γ (.Assign [.Name y py] (.ListComp elt [⟨tg, iter, ifs, 0⟩] scope pos) spos :: rest) po :=
  lc_stmt i t own hi tgo ok (fun X hX H0 σ H v r Γ' S o ⟨ds', e1, k⟩ D F => by
    subst e1
    obtain ⟨s2, S2⟩ := shr_of S o.weaken i
    exact k X hX _ _ H S2 D (F.up s2)) hin hl hs hN hk hy hln ha
end
end K83
namespace K83
open PySem PySem.Spec PyProof.Rows L2
theorem sw_cell {elt : Expr} {gs : List Comprehension} {scope : Scope} {pos py : Pos} {y : Str} {l : Nat} {env : Env} (hy : env.scope.names.lookup y = some .cell) : swapsWith (.ListComp elt gs scope pos) (some (.Name y py)) l env = pure false := by
  have ky : env.kindOf y = some .cell := hy
  unfold swapsWith
  simp only [ky]
  have e : (some NameKind.cell == some NameKind.local) = false := by decide
  simp only [e, Bool.and_false, Bool.false_and]
end K83
set_option maxRecDepth 100000
set_option maxHeartbeats 4000000
namespace K83
open PySem PySem.Spec PyProof.Rows L2
/-! ## what the book's functions answer, as plain Lean -/
def isW (s : Str) (d : Deed) : Bool := decide (word d = s)
def tgt : Deed → Nm
  | .read o _ => o
  | .void o => o
  | _ => ⟨0, 0, tNone⟩
def voidsL (b : List Page) : List Nm := (b.filter fun p => isW "void" p.deed).map fun p => tgt p.deed
def goneL (b : List Page) : List Nm := (b.filter fun p => !isW "void" p.deed && decide (p.nm ∈ voidsL b)).map Page.nm
def bagsL (b : List Page) : List Nm := (b.filter fun p => isW "bag" p.deed && !decide (p.nm ∈ goneL b)).map Page.nm
def isCo (b : List Page) (p : Page) : Bool := !isW "void" p.deed && !decide (p.nm ∈ goneL b) && (!isW "read" p.deed || decide (tgt p.deed ∈ bagsL b))
def countedL (b : List Page) : List Nm := (b.filter (isCo b)).map Page.nm
def waitingL (b : List Page) : List Nm := (b.filter fun p => isW "read" p.deed && (!decide (p.nm ∈ goneL b) && !decide (tgt p.deed ∈ bagsL b))).map Page.nm
def untilL (b : List Page) (day : Int) : List Page := b.filter fun p => decide (p.nm.d ≤ day)
abbrev bkD (b : List Page) : List PyData := b.map pageD
theorem nm_in (l : List Nm) (n : Nm) : (l.map nmD).any (fun z => PyData.eqv z (nmD n)) = decide (n ∈ l) := any_is eqv_nm (by rw [decide_eq_true_iff])
theorem new_map {α β : Type} (f : α → β) (g : β → PyData) (l : List α) : Ar.new (l.map fun x => g (f x)) = .new ((l.map f).map g) := by rw [List.map_map] <;> rfl
theorem isW_ne {d : Deed} {s : Str} (h : isW s d = false) : PyData.eqv (.str (word d)) (.str s) = false := (eqv_str _ _).trans h
theorem isW_eq (d : Deed) (s : Str) : PyData.eqv (.str (word d)) (.str s) = isW s d := eqv_str _ _
theorem w_void {d : Deed} (h : isW "void" d = true) : ∃ o, d = .void o := by
  cases d <;> first | exact ⟨_, rfl⟩ | (dsimp only [isW, word] at h; exact absurd (of_decide_eq_true h) (by decide +kernel))
theorem w_read {d : Deed} (h : isW "read" d = true) : ∃ o rs, d = .read o rs := by
  cases d <;> first | exact ⟨_, _, rfl⟩ | (dsimp only [isW, word] at h; exact absurd (of_decide_eq_true h) (by decide +kernel))
theorem w_bag {d : Deed} (h : isW "bag" d = true) : ∃ f t m, d = .bag f t m := by
  cases d <;> first | exact ⟨_, _, _, rfl⟩ | (dsimp only [isW, word] at h; exact absurd (of_decide_eq_true h) (by decide +kernel))
theorem w_move {d : Deed} (h : isW "move" d = true) : ∃ f t rs, d = .move f t rs := by
  cases d <;> first | exact ⟨_, _, _, rfl⟩ | (dsimp only [isW, word] at h; exact absurd (of_decide_eq_true h) (by decide +kernel))
theorem w_count {d : Deed} (h : isW "count" d = true) : ∃ p m, d = .count p m := by
  cases d <;> first | exact ⟨_, _, rfl⟩ | (dsimp only [isW, word] at h; exact absurd (of_decide_eq_true h) (by decide +kernel))
theorem ret_new {Γ : List Sv} {ds ds' : List PyData} (h : Ar.new ds = .new ds') : ∃ r', r' = Ar.new ds' ∧ RetIs Γ (.new ds) r' := ⟨_, rfl, .inr (.inr (.inl ⟨ds, rfl, h.symm⟩))⟩
/-- a book's arguments -/
abbrev bkA (b : List Page) : Ar := .nic (bkD b)
theorem sc_voided : FnScope ["book", "named", "name", "deed"] ["book"] (defScope (topS 44)) := ⟨rfl, rfl, rfl, by decide +kernel, rfl, by decide +kernel, by decide +kernel⟩
theorem F_voided {g : Gv} (G : GF g) : Fn g 1 "voided" (spD (fun b : List Page => [bkA b]) (fun b => b.length ≤ 1000) fun b => .dat (namesD (goneL b))) := by
  refine fn_def (k := 0) G.d_voided sc_voided (fun _ => rfl) fun b hb => ?_
  show Sd _ _ [_, _] _
  refine (sd_own 1 (w_lc (.many [2, 3]) [("name", 2), ("deed", 3)] (wi_nic (w_name 0 rfl ⟨_, rfl, lcP (bs := b) (f := pageD) (p := fun p => isW "void" p.deed) (g := fun p => nmD (tgt p.deed)) ?_ ?_ ⟨(voidsL b).map nmD, new_map (fun p : Page => tgt p.deed) nmD _, fun p => ?_⟩⟩)) (tg_two 2 3) (by show BlkOk ["book", "named", "name", "deed"] (defScope (topS 44)) _ _; exact ⟨rfl, by decide +kernel, by decide +kernel, by decide +kernel, by decide +kernel⟩)) (hs := fun env h => sw_cell (by rw [h]; rfl)))
  · omega
  · intro pg _
    obtain ⟨n, d⟩ := pg
    refine ⟨⟨_, rfl, rfl⟩, ?_⟩
    exact (wt_cmp d_eq (w_ixk 0 (w_name 3 rfl ⟨_, _, (.inl rfl), (deedL_word _), (w_str ⟨_, ⟨_, _, rfl, rfl, (by first | rfl | decide +kernel | exact sh_tx _ | exact sh_word _ | exact sh_nm _ | exact sh_deed _ | exact sh_page _ | exact sh_runs _ | exact sh_road _ _ | exact sh_roads _ | exact sh_names _ | exact sh_namesT _ | exact sh_txs _), (by first | rfl | decide +kernel | exact sh_tx _ | exact sh_word _ | exact sh_nm _ | exact sh_deed _ | exact sh_page _ | exact sh_runs _ | exact sh_road _ _ | exact sh_roads _ | exact sh_names _ | exact sh_namesT _ | exact sh_txs _), rfl⟩, ⟨isW_eq _ _, (fun h => by
      obtain ⟨o, rfl⟩ := w_void h
      exact (w_ixk 1 (w_name 3 rfl ⟨_, _, (.inl rfl), rfl, ⟨rfl, rfl⟩⟩))), rfl⟩⟩)⟩)))
  · refine sd_ret (w_callTy c_tupleL G.b_tuple (wa_cons (w_lc (.many [2, 3]) [("name", 2), ("deed", 3)] (wi_nic (w_name 0 rfl ⟨_, rfl, lcP (bs := b) (f := pageD) (p := fun p => !isW "void" p.deed && decide (p.nm ∈ voidsL b)) (g := fun p => nmD p.nm) ?_ ?_ (wa_nil ⟨_, ⟨_, _, rfl, (by first | exact .inl rfl | exact .inr (.inl rfl)), rfl⟩, (ret_dat ?_)⟩)⟩)) (tg_two 2 3) (by show BlkOk ["book", "named", "name", "deed"] (defScope (topS 44)) _ _; exact ⟨rfl, by decide +kernel, by decide +kernel, by decide +kernel, by decide +kernel⟩))))
    · omega
    · intro pg _
      refine ⟨⟨_, rfl, rfl⟩, ?_⟩
      refine wt_ww (ww_andB (wt_cmp d_ne (w_ixk 0 (w_name 3 rfl ⟨_, _, (.inl rfl), (deedL_word _), (w_str ⟨_, ⟨_, _, rfl, rfl, (by first | rfl | decide +kernel | exact sh_tx _ | exact sh_word _ | exact sh_nm _ | exact sh_deed _ | exact sh_page _ | exact sh_runs _ | exact sh_road _ _ | exact sh_roads _ | exact sh_names _ | exact sh_namesT _ | exact sh_txs _), (by first | rfl | decide +kernel | exact sh_tx _ | exact sh_word _ | exact sh_nm _ | exact sh_deed _ | exact sh_page _ | exact sh_runs _ | exact sh_road _ _ | exact sh_roads _ | exact sh_names _ | exact sh_namesT _ | exact sh_txs _), rfl⟩, ⟨fun h => ww_and1 (wt_cmp d_in (w_name 2 rfl (w_name 1 rfl ⟨_, ⟨_, _, rfl, .inr (by first | exact .inr (.inl rfl) | exact .inr (.inr ⟨_, 1, rfl, rfl⟩)), (by first | rfl | decide +kernel | exact sh_tx _ | exact sh_word _ | exact sh_nm _ | exact sh_deed _ | exact sh_page _ | exact sh_runs _ | exact sh_road _ _ | exact sh_roads _ | exact sh_names _ | exact sh_namesT _ | exact sh_txs _), (by first | rfl | decide +kernel | exact sh_tx _ | exact sh_word _ | exact sh_nm _ | exact sh_deed _ | exact sh_page _ | exact sh_runs _ | exact sh_road _ _ | exact sh_roads _ | exact sh_names _ | exact sh_namesT _ | exact sh_txs _), rfl⟩, ⟨?_, (fun _ => (w_name 2 rfl ⟨rfl, rfl⟩)), rfl⟩⟩))), fun h => ⟨?_, ?_, rfl⟩⟩⟩)⟩))))
      · have h2 : (!PyData.eqv (.str (word pg.deed)) (.str "void")) = true := h
        rw [isW_eq] at h2
        show List.any _ _ = (!isW "void" pg.deed && decide (pg.nm ∈ voidsL b))
        rw [h2, Bool.true_and]
        exact nm_in _ _
      · have h2 : (!PyData.eqv (.str (word pg.deed)) (.str "void")) = false := h
        rw [isW_eq] at h2
        rw [h2] <;> rfl
      · have h2 : (!PyData.eqv (.str (word pg.deed)) (.str "void")) = false := h
        rw [isW_eq] at h2
        rw [h2]
        intro z
        cases z
    · show PyData.tuple _ = .tuple (((b.filter _).map _).map nmD)
      rw [List.map_map] <;> rfl
end K83
set_option maxRecDepth 100000
set_option maxHeartbeats 4000000
namespace K83
open PySem PySem.Spec PyProof.Rows L2
theorem bne {x : Bool} (h : (!x) = true) : x = false := by cases x <;> simp_all
theorem bnt {x : Bool} (h : (!x) = false) : x = true := by cases x <;> simp_all
/-- d.deed[0] == s, != s -/
theorem tW {d : Deed} {s : Str} {k : Bool} (h : PyData.eqv (.str (word d)) (.str s) = k) : isW s d = k := (isW_eq d s).symm.trans h
theorem tW' {d : Deed} {s : Str} {k : Bool} (h : (!PyData.eqv (.str (word d)) (.str s)) = k) : isW s d = !k := by
  rw [isW_eq] at h
  rw [← h, Bool.not_not]
theorem tN {l : List Nm} {n : Nm} {k : Bool} (h : (!(l.map nmD).any fun z => PyData.eqv z (nmD n)) = k) : decide (n ∈ l) = !k := by
  rw [nm_in] at h
  rw [← h, Bool.not_not]
theorem tI {l : List Nm} {n : Nm} {k : Bool} (h : ((l.map nmD).any fun z => PyData.eqv z (nmD n)) = k) : decide (n ∈ l) = k := by
  rw [nm_in] at h
  exact h
theorem sc_bags_in : FnScope ["book", "gone", "name", "deed"] ["book"] (defScope (topS 45)) := ⟨rfl, rfl, rfl, by decide +kernel, rfl, by decide +kernel, by decide +kernel⟩
theorem F_bags_in {g : Gv} (G : GF g) : Fn g 2 "bags_in" (spD (fun b : List Page => [bkA b]) (fun b => b.length ≤ 1000) fun b => .new ((bagsL b).map nmD)) := by
  refine fn_def (k := 1) G.d_bags_in sc_bags_in (fun _ => rfl) fun b hb => ?_
  show Sd _ _ [_, _] _
  refine sd_dat 1 (w_callD (F_voided G) (wa_cons (w_name 0 rfl (wa_nil ⟨_, agis_nic (agis_nil), hb, ⟨_, rfl, ?_⟩⟩))))
  refine sd_ret (w_lc (.many [2, 3]) [("name", 2), ("deed", 3)] (wi_nic (w_name 0 rfl ⟨_, rfl, lcP (bs := b) (f := pageD) (p := fun p => isW "bag" p.deed && !decide (p.nm ∈ goneL b)) (g := fun p => nmD p.nm) ?_ ?_ (ret_new (new_map Page.nm nmD _))⟩)) (tg_two 2 3) (by show BlkOk ["book", "gone", "name", "deed"] (defScope (topS 45)) _ _; exact ⟨rfl, by decide +kernel, by decide +kernel, by decide +kernel, by decide +kernel⟩))
  · omega
  · intro pg _
    refine ⟨⟨_, rfl, rfl⟩, ?_⟩
    refine wt_ww (ww_andB (wt_cmp d_eq (w_ixk 0 (w_name 3 rfl ⟨_, _, (.inl rfl), (deedL_word _), (w_str ⟨_, ⟨_, _, rfl, rfl, (by first | rfl | decide +kernel | exact sh_tx _ | exact sh_word _ | exact sh_nm _ | exact sh_deed _ | exact sh_page _ | exact sh_runs _ | exact sh_road _ _ | exact sh_roads _ | exact sh_names _ | exact sh_namesT _ | exact sh_txs _), (by first | rfl | decide +kernel | exact sh_tx _ | exact sh_word _ | exact sh_nm _ | exact sh_deed _ | exact sh_page _ | exact sh_runs _ | exact sh_road _ _ | exact sh_roads _ | exact sh_names _ | exact sh_namesT _ | exact sh_txs _), rfl⟩, ⟨fun h => ww_and1 (wt_cmp d_notIn (w_name 2 rfl (w_name 1 rfl ⟨_, ⟨_, _, rfl, .inl rfl, (by first | rfl | decide +kernel | exact sh_tx _ | exact sh_word _ | exact sh_nm _ | exact sh_deed _ | exact sh_page _ | exact sh_runs _ | exact sh_road _ _ | exact sh_roads _ | exact sh_names _ | exact sh_namesT _ | exact sh_txs _), (by first | rfl | decide +kernel | exact sh_tx _ | exact sh_word _ | exact sh_nm _ | exact sh_deed _ | exact sh_page _ | exact sh_runs _ | exact sh_road _ _ | exact sh_roads _ | exact sh_names _ | exact sh_namesT _ | exact sh_txs _), rfl⟩, ⟨?_, (fun _ => (w_name 2 rfl ⟨rfl, rfl⟩)), rfl⟩⟩))), fun h => ⟨?_, ?_, rfl⟩⟩⟩)⟩))))
    · rw [tW h, Bool.true_and]
      exact congrArg not (nm_in _ _)
    · rw [tW h] <;> rfl
    · rw [tW h]
      intro z
      cases z
theorem sc_until : FnScope ["book", "day", "page"] ["book", "day"] (defScope (topS 48)) := ⟨rfl, rfl, rfl, by decide +kernel, rfl, by decide +kernel, by decide +kernel⟩
theorem F_until {g : Gv} (G : GF g) : Fn g 1 "until" (spD (fun i : List Page × Int => [.dat (bookD i.1), .dat (.int i.2)]) (fun i => i.1.length ≤ 1000) fun i => bkA (untilL i.1 i.2)) := by
  refine fn_def (k := 0) G.d_until sc_until (fun _ => rfl) fun i hi => ?_
  obtain ⟨b, day⟩ := i
  have hb : b.length ≤ 1000 := hi
  show Sd _ _ [_] _
  refine sd_ret (w_callTy c_tupleN G.b_tuple (wa_cons (w_lc (.one 2) [("page", 2)] (wi_tup (w_name 0 rfl ⟨_, rfl, lcP (bs := b) (f := pageD) (p := fun p => decide (p.nm.d ≤ day)) (g := pageD) ?_ ?_ (wa_nil ⟨_, ⟨_, _, rfl, (by first | exact .inl rfl | exact .inr (.inl rfl)), rfl⟩, ⟨_, rfl, .inr (.inl ⟨_, rfl, rfl⟩)⟩⟩)⟩)) (tg_one 2) (by show BlkOk ["book", "day", "page"] (defScope (topS 48)) _ _; exact ⟨rfl, by decide +kernel, by decide +kernel, by decide +kernel, by decide +kernel⟩))))
  · omega
  · intro pg _
    exact ⟨trivial, (wt_cmp d_le (w_ixk 0 (w_ixk 0 (w_name 2 rfl ⟨_, _, (.inl rfl), rfl, ⟨_, _, (.inl rfl), rfl, (w_name 1 rfl ⟨_, ⟨_, _, rfl, rfl, trivial, rfl⟩, ⟨rfl, (fun _ => (w_name 2 rfl ⟨rfl, rfl⟩)), rfl⟩⟩)⟩⟩))))⟩
theorem sc_waiting : FnScope ["book", "gone", "bags", "name", "deed"] ["book"] (defScope (topS 47)) := ⟨rfl, rfl, rfl, by decide +kernel, rfl, by decide +kernel, by decide +kernel⟩
theorem F_waiting {g : Gv} (G : GF g) : Fn g 3 "waiting" (spD (fun b : List Page => [bkA b]) (fun b => b.length ≤ 1000) fun b => .dat (namesD (waitingL b))) := by
  refine fn_def (k := 2) G.d_waiting sc_waiting (fun _ => rfl) fun b hb => ?_
  show Sd _ _ [_, _, _] _
  refine sd_dat 1 (w_callD (F_voided G) (wa_cons (w_name 0 rfl (wa_nil ⟨_, agis_nic (agis_nil), hb, ⟨_, rfl, ?_⟩⟩))))
  refine sd_shr 2 (w_callD (F_bags_in G) (wa_cons (w_name 0 rfl (wa_nil ⟨_, agis_nic (agis_nil), hb, ⟨_, .inl rfl, ?_⟩⟩))))
  refine sd_ret (w_callTy c_tupleL G.b_tuple (wa_cons (w_lc (.many [3, 4]) [("name", 3), ("deed", 4)] (wi_nic (w_name 0 rfl ⟨_, rfl, lcP (bs := b) (f := pageD) (p := fun p => isW "read" p.deed && (!decide (p.nm ∈ goneL b) && !decide (tgt p.deed ∈ bagsL b))) (g := fun p => nmD p.nm) ?_ ?_ (wa_nil ⟨_, ⟨_, _, rfl, (by first | exact .inl rfl | exact .inr (.inl rfl)), rfl⟩, (ret_dat ?_)⟩)⟩)) (tg_two 3 4) (by show BlkOk ["book", "gone", "bags", "name", "deed"] (defScope (topS 47)) _ _; exact ⟨rfl, by decide +kernel, by decide +kernel, by decide +kernel, by decide +kernel⟩))))
  · omega
  · intro pg _
    refine ⟨⟨_, rfl, rfl⟩, ?_⟩
    refine wt_ww (ww_andB (wt_cmp d_eq (w_ixk 0 (w_name 4 rfl ⟨_, _, (.inl rfl), (deedL_word _), (w_str ⟨_, ⟨_, _, rfl, rfl, (by first | rfl | decide +kernel | exact sh_tx _ | exact sh_word _ | exact sh_nm _ | exact sh_deed _ | exact sh_page _ | exact sh_runs _ | exact sh_road _ _ | exact sh_roads _ | exact sh_names _ | exact sh_namesT _ | exact sh_txs _), (by first | rfl | decide +kernel | exact sh_tx _ | exact sh_word _ | exact sh_nm _ | exact sh_deed _ | exact sh_page _ | exact sh_runs _ | exact sh_road _ _ | exact sh_roads _ | exact sh_names _ | exact sh_namesT _ | exact sh_txs _), rfl⟩, ⟨fun h => ww_andB (wt_cmp d_notIn (w_name 3 rfl (w_name 1 rfl ⟨_, ⟨_, _, rfl, .inl rfl, (by first | rfl | decide +kernel | exact sh_tx _ | exact sh_word _ | exact sh_nm _ | exact sh_deed _ | exact sh_page _ | exact sh_runs _ | exact sh_road _ _ | exact sh_roads _ | exact sh_names _ | exact sh_namesT _ | exact sh_txs _), (by first | rfl | decide +kernel | exact sh_tx _ | exact sh_word _ | exact sh_nm _ | exact sh_deed _ | exact sh_page _ | exact sh_runs _ | exact sh_road _ _ | exact sh_roads _ | exact sh_names _ | exact sh_namesT _ | exact sh_txs _), rfl⟩, ⟨fun h2 => ww_and1 ?_, fun h2 => ⟨?_, ?_, rfl⟩⟩⟩))), fun h => ⟨?_, ?_, rfl⟩⟩⟩)⟩))))
    · obtain ⟨n, d⟩ := pg
      have h' := tW h
      have h2' := tN h2
      obtain ⟨o, rs, rfl⟩ := w_read h'
      refine (wt_cmp d_notIn (w_ixk 1 (w_name 4 rfl ⟨_, _, (.inl rfl), rfl, (w_name 2 rfl ⟨_, ⟨_, _, rfl, .inr (by first | exact .inr (.inl rfl) | exact .inr (.inr ⟨_, 2, rfl, rfl⟩)), (by first | rfl | decide +kernel | exact sh_tx _ | exact sh_word _ | exact sh_nm _ | exact sh_deed _ | exact sh_page _ | exact sh_runs _ | exact sh_road _ _ | exact sh_roads _ | exact sh_names _ | exact sh_namesT _ | exact sh_txs _), (by first | rfl | decide +kernel | exact sh_tx _ | exact sh_word _ | exact sh_nm _ | exact sh_deed _ | exact sh_page _ | exact sh_runs _ | exact sh_road _ _ | exact sh_roads _ | exact sh_names _ | exact sh_namesT _ | exact sh_txs _), rfl⟩, ⟨?_, (fun _ => (w_name 3 rfl ⟨rfl, rfl⟩)), rfl⟩⟩)⟩)))
      show _ = (isW "read" (Deed.read o rs) && (!decide (n ∈ goneL b) && !decide (o ∈ bagsL b)))
      rw [h', h2']
      exact congrArg not (nm_in _ _)
    · rw [tW h, tN h2] <;> rfl
    · rw [tW h, tN h2]
      intro z
      cases z
    · rw [tW h] <;> rfl
    · rw [tW h]
      intro z
      cases z
  · show PyData.tuple _ = .tuple (((b.filter _).map _).map nmD)
    rw [List.map_map] <;> rfl
theorem sc_counted : FnScope ["book", "gone", "bags", "found", "name", "deed"] ["book"] (defScope (topS 46)) := ⟨rfl, rfl, rfl, by decide +kernel, rfl, by decide +kernel, by decide +kernel⟩
theorem F_counted {g : Gv} (G : GF g) : Fn g 3 "counted" (spD (fun b : List Page => [bkA b]) (fun b => b.length ≤ 1000) fun b => .dat (namesD (countedL b))) := by
  refine fn_def (k := 2) G.d_counted sc_counted (fun _ => rfl) fun b hb => ?_
  show Sd _ _ [_, _, _, _, _] _
  refine sd_dat 1 (w_callD (F_voided G) (wa_cons (w_name 0 rfl (wa_nil ⟨_, agis_nic (agis_nil), hb, ⟨_, rfl, ?_⟩⟩))))
  refine sd_shr 2 (w_callD (F_bags_in G) (wa_cons (w_name 0 rfl (wa_nil ⟨_, agis_nic (agis_nil), hb, ⟨_, .inl rfl, ?_⟩⟩))))
  refine sd_own 3 (w_lst (wa_nil ⟨[], rfl, by exact Nat.le_of_ble_eq_true rfl, ⟨_, rfl, fun p => ?_⟩⟩))
  refine sd_for (.many [4, 5]) (fun Γ' => ∃ x y, Γ' = [bkA b |>.sv, .dat (namesD (goneL b)), .shr ((bagsL b).map nmD), .own p ((countedL b).map nmD), x, y])
    (wi_nic (w_name 0 rfl ⟨_, rfl, fun k Γk => ∃ x y, Γk = [.nic (bkD b), .dat (namesD (goneL b)), .shr ((bagsL b).map nmD), .own p ((((b.take k).filter (isCo b)).map Page.nm).map nmD), x, y], ⟨_, _, rfl⟩, ?_, ?_⟩)) ?_ (tg_two 4 5)
  · intro k d Γk hk ⟨x, y, e⟩
    subst e
    obtain ⟨pg, hpg, rfl⟩ := map_at hk
    have hkl : k < b.length := (List.getElem?_eq_some_iff.mp hpg).1
    obtain ⟨n, d⟩ := pg
    refine ⟨⟨_, rfl, rfl⟩, ?_⟩
    show Sd _ [.nic (bkD b), .dat (namesD (goneL b)), .shr ((bagsL b).map nmD), .own p ((((b.take k).filter (isCo b)).map Page.nm).map nmD), .dat (nmD n), .dat (deedD d)] [_] _
    have yes : isCo b ⟨n, d⟩ = true → (((b.take (k + 1)).filter (isCo b)).map Page.nm).map nmD = (((b.take k).filter (isCo b)).map Page.nm).map nmD ++ [nmD n] := fun h => by
      rw [filter_snoc _ hpg, if_pos h, List.map_append, List.map_append] <;> rfl
    have no : isCo b ⟨n, d⟩ = false → (((b.take (k + 1)).filter (isCo b)).map Page.nm).map nmD = (((b.take k).filter (isCo b)).map Page.nm).map nmD := fun h => by
      rw [filter_snoc _ hpg, if_neg (by rw [h]; decide), List.append_nil]
    have hlen : ((((b.take k).filter (isCo b)).map Page.nm).map nmD).length ≤ 1000000 := by
      rw [List.length_map, List.length_map]
      have h1 := List.length_filter_le (isCo b) (b.take k)
      rw [List.length_take] at h1
      omega
    refine sd_ifM (fun Γ' => ∃ x y, Γ' = [.nic (bkD b), .dat (namesD (goneL b)), .shr ((bagsL b).map nmD), .own p ((((b.take (k + 1)).filter (isCo b)).map Page.nm).map nmD), x, y]) (wt_ww ?_) fun Γ' h => sd_nil h
    refine ww_andB (wt_cmp d_ne (w_ixk 0 (w_name 5 rfl ⟨_, _, (.inl rfl), (deedL_word _), (w_str ⟨_, ⟨_, _, rfl, rfl, (by first | rfl | decide +kernel | exact sh_tx _ | exact sh_word _ | exact sh_nm _ | exact sh_deed _ | exact sh_page _ | exact sh_runs _ | exact sh_road _ _ | exact sh_roads _ | exact sh_names _ | exact sh_namesT _ | exact sh_txs _), (by first | rfl | decide +kernel | exact sh_tx _ | exact sh_word _ | exact sh_nm _ | exact sh_deed _ | exact sh_page _ | exact sh_runs _ | exact sh_road _ _ | exact sh_roads _ | exact sh_names _ | exact sh_namesT _ | exact sh_txs _), rfl⟩, ⟨fun h1 => ww_andB (wt_cmp d_notIn (w_name 4 rfl (w_name 1 rfl ⟨_, ⟨_, _, rfl, .inl rfl, (by first | rfl | decide +kernel | exact sh_tx _ | exact sh_word _ | exact sh_nm _ | exact sh_deed _ | exact sh_page _ | exact sh_runs _ | exact sh_road _ _ | exact sh_roads _ | exact sh_names _ | exact sh_namesT _ | exact sh_txs _), (by first | rfl | decide +kernel | exact sh_tx _ | exact sh_word _ | exact sh_nm _ | exact sh_deed _ | exact sh_page _ | exact sh_runs _ | exact sh_road _ _ | exact sh_roads _ | exact sh_names _ | exact sh_namesT _ | exact sh_txs _), rfl⟩, ⟨fun h2 => ww_and1 (wt_ww (ww_orB (wt_cmp d_ne (w_ixk 0 (w_name 5 rfl ⟨_, _, (.inl rfl), (deedL_word _), (w_str ⟨_, ⟨_, _, rfl, rfl, (by first | rfl | decide +kernel | exact sh_tx _ | exact sh_word _ | exact sh_nm _ | exact sh_deed _ | exact sh_page _ | exact sh_runs _ | exact sh_road _ _ | exact sh_roads _ | exact sh_names _ | exact sh_namesT _ | exact sh_txs _), (by first | rfl | decide +kernel | exact sh_tx _ | exact sh_word _ | exact sh_nm _ | exact sh_deed _ | exact sh_page _ | exact sh_runs _ | exact sh_road _ _ | exact sh_roads _ | exact sh_names _ | exact sh_namesT _ | exact sh_txs _), rfl⟩, ⟨fun h3 => ⟨fun _ => ?a, (fun z => by cases z)⟩, fun h3 => ww_or1 ?b⟩⟩)⟩))))), fun h2 => ⟨(fun z => by cases z), fun _ => ?c⟩⟩⟩))), fun h1 => ⟨(fun z => by cases z), fun _ => ?d⟩⟩⟩)⟩)))
    case a =>
      refine sd_append 3 rfl (wa_cons (w_name 4 rfl (wa_nil ⟨_, _, rfl, rfl, hlen, sd_nil ⟨.dat (nmD n), .dat (deedD d), ?_⟩⟩)))
      rw [yes (by unfold isCo; rw [tW' h1, tN h2, tW' h3] <;> rfl)] <;> rfl
    case b =>
      have h1' := tW' h1
      have h2' := tN h2
      have h3' := tW' h3
      clear h1 h2 h3
      obtain ⟨o, rs, rfl⟩ := w_read h3'
      refine (wt_cmp d_in (w_ixk 1 (w_name 5 rfl ⟨_, _, (.inl rfl), rfl, (w_name 2 rfl ⟨_, ⟨_, _, rfl, .inr (by first | exact .inr (.inl rfl) | exact .inr (.inr ⟨_, 2, rfl, rfl⟩)), (by first | rfl | decide +kernel | exact sh_tx _ | exact sh_word _ | exact sh_nm _ | exact sh_deed _ | exact sh_page _ | exact sh_runs _ | exact sh_road _ _ | exact sh_roads _ | exact sh_names _ | exact sh_namesT _ | exact sh_txs _), (by first | rfl | decide +kernel | exact sh_tx _ | exact sh_word _ | exact sh_nm _ | exact sh_deed _ | exact sh_page _ | exact sh_runs _ | exact sh_road _ _ | exact sh_roads _ | exact sh_names _ | exact sh_namesT _ | exact sh_txs _), rfl⟩, ⟨fun h4 => ?_, fun h4 => ?_⟩⟩)⟩)))
      · refine sd_append 3 rfl (wa_cons (w_name 4 rfl (wa_nil ⟨_, _, rfl, rfl, hlen, sd_nil ⟨.dat (nmD n), .dat (deedD (.read o rs)), ?_⟩⟩)))
        rw [yes (by
          show (!isW "void" (Deed.read o rs) && !decide (n ∈ goneL b) && (!isW "read" (Deed.read o rs) || decide (o ∈ bagsL b))) = true
          rw [h1', h2', tI h4, Bool.or_true] <;> rfl)] <;> rfl
      · refine sd_nil ⟨.dat (nmD n), .dat (deedD (.read o rs)), ?_⟩
        rw [no (by
          show (!isW "void" (Deed.read o rs) && !decide (n ∈ goneL b) && (!isW "read" (Deed.read o rs) || decide (o ∈ bagsL b))) = false
          rw [h1', h2', h3', tI h4] <;> rfl)]
    case c =>
      refine sd_nil ⟨.dat (nmD n), .dat (deedD d), ?_⟩
      rw [no (by unfold isCo; rw [tN h2, Bool.not_not, Bool.and_false, Bool.false_and])]
    case d =>
      refine sd_nil ⟨.dat (nmD n), .dat (deedD d), ?_⟩
      rw [no (by unfold isCo; rw [tW' h1] <;> rfl)]
  · intro Γ' ⟨x, y, e⟩
    refine ⟨x, y, ?_⟩
    rw [List.length_map, List.take_length] at e
    exact e
  · intro Γ' ⟨x, y, e⟩
    subst e
    exact sd_ret (w_callTy c_tupleL G.b_tuple (wa_cons (w_name 3 rfl (wa_nil ⟨_, ⟨_, _, rfl, (by first | exact .inr (.inl rfl) | exact .inr (.inr ⟨_, 3, rfl, rfl⟩)), rfl⟩, (ret_dat rfl)⟩))))
end K83
set_option maxRecDepth 100000
set_option maxHeartbeats 4000000
namespace K83
open PySem PySem.Spec PyProof.Rows L2
def manyL (rs : List Run) : Int := (rs.map fun r => r.b - r.a).sum
theorem sc_many_in : FnScope ["runs", "series", "first", "end"] ["runs"] (defScope (topS 25)) := ⟨rfl, rfl, rfl, by decide +kernel, rfl, by decide +kernel, by decide +kernel⟩
theorem F_many_in {g : Gv} (G : GF g) : Fn g 1 "many_in" (spD (fun rs : List Run => [.dat (runsD rs)]) (fun rs => rs.length ≤ 1000) fun rs => .dat (.int (manyL rs))) := by
  refine fn_def (k := 0) G.d_many_in sc_many_in (fun _ => rfl) fun rs h => ?_
  show Sd _ _ [_] _
  refine sd_ret (w_callB (c_sumM (α := Run)) G.b_sum (wa_cons (w_lc (.many [1, 2, 3]) [("series", 1), ("first", 2), ("end", 3)] (wi_tup (w_name 0 rfl ⟨_, rfl, lcM (bs := rs) (f := runD) (g := fun r => .int (r.b - r.a)) ?_ ?_ (by decide) (wa_nil ⟨_, ⟨_, _, _, rfl, .inr (.inl rfl), rfl⟩, (ret_dat rfl)⟩)⟩)) (tg_three 1 2 3) (by show BlkOk ["runs", "series", "first", "end"] (defScope (topS 25)) _ _; exact ⟨rfl, by decide +kernel, by decide +kernel, by decide +kernel, by decide +kernel⟩))))
  · omega
  · intro r _
    exact ⟨⟨_, rfl, rfl⟩, (w_op d_sub (w_name 3 rfl (w_name 2 rfl ⟨_, ⟨_, _, rfl, rfl, trivial, rfl⟩, ⟨rfl, rfl⟩⟩)))⟩
def placeL : List Run → Note → Int → Option Int
  | [], _, _ => none
  | r :: rs, n, a => if (PyData.eqv (.str r.s.1) (.str n.s.1) && (decide (r.a ≤ n.k) && decide (n.k < r.b))) = true then some (a + n.k - r.a) else placeL rs n (a + r.b - r.a)
def optD : Option Int → PyData
  | none => .none
  | some i => .int i
theorem drop_at {α : Type} {l : List α} {k : Nat} {x : α} (h : l[k]? = some x) : l.drop k = x :: l.drop (k + 1) := by
  obtain ⟨h1, h2⟩ := List.getElem?_eq_some_iff.mp h
  rw [List.drop_eq_getElem_cons h1, h2]
theorem sh_note (x : Note) : SeqAt.shaped (noteD x) = true := (lay_note x).shaped
theorem sc_place_of : FnScope ["runs", "note", "ahead", "series", "first", "end"] ["runs", "note"] (defScope (topS 27)) := ⟨rfl, rfl, rfl, by decide +kernel, rfl, by decide +kernel, by decide +kernel⟩
theorem F_place_of {g : Gv} (G : GF g) : Fn g 1 "place_of" (spD (fun i : List Run × Note => [.dat (runsD i.1), .dat (noteD i.2)]) (fun _ => True) fun i => .dat (optD (placeL i.1 i.2 0))) := by
  refine fn_def (k := 0) G.d_place_of sc_place_of (fun _ => rfl) fun i _ => ?_
  obtain ⟨rs, n⟩ := i
  show Sd _ _ [_, _, _] _
  refine sd_dat 2 (w_int ⟨_, rfl, ?_⟩)
  refine sd_for (.many [3, 4, 5]) (fun Γ' => ∃ a x y z, Γ' = [.dat (runsD rs), .dat (noteD n), .dat (.int a), x, y, z] ∧ placeL rs n 0 = none)
    (wi_tup (w_name 0 rfl ⟨_, rfl, fun k Γk => ∃ a x y z, Γk = [.dat (runsD rs), .dat (noteD n), .dat (.int a), x, y, z] ∧ placeL rs n 0 = placeL (rs.drop k) n a, ⟨_, _, _, _, rfl, rfl⟩, ?_, ?_⟩)) ?_ (tg_three 3 4 5)
  · intro k d Γk hk ⟨a, x, y, z, e, h⟩
    subst e
    obtain ⟨r, hr, rfl⟩ := map_at hk
    rw [drop_at hr] at h
    refine ⟨⟨_, rfl, rfl⟩, ?_⟩
    show Sd _ [.dat (runsD rs), .dat (noteD n), .dat (.int a), .dat (.str r.s.1), .dat (.int r.a), .dat (.int r.b)] [_, _] _
    have no : (PyData.eqv (.str r.s.1) (.str n.s.1) && (decide (r.a ≤ n.k) && decide (n.k < r.b))) = false → placeL rs n 0 = placeL (rs.drop (k + 1)) n (a + r.b - r.a) := fun z => by
      rw [h]
      exact if_neg (by rw [z]; decide)
    have yes : (PyData.eqv (.str r.s.1) (.str n.s.1) && (decide (r.a ≤ n.k) && decide (n.k < r.b))) = true → placeL rs n 0 = some (a + n.k - r.a) := fun z => by
      rw [h]
      exact if_pos z
    refine sd_ifB (wt_ww (ww_andB (wt_cmp d_eq (w_name 3 rfl (w_ixk 0 (w_name 1 rfl ⟨_, _, (.inl rfl), rfl, ⟨_, ⟨_, _, rfl, rfl, (by first | rfl | decide +kernel | exact sh_tx _ | exact sh_word _ | exact sh_nm _ | exact sh_deed _ | exact sh_page _ | exact sh_runs _ | exact sh_road _ _ | exact sh_roads _ | exact sh_names _ | exact sh_namesT _ | exact sh_txs _), (by first | rfl | decide +kernel | exact sh_tx _ | exact sh_word _ | exact sh_nm _ | exact sh_deed _ | exact sh_page _ | exact sh_runs _ | exact sh_road _ _ | exact sh_roads _ | exact sh_names _ | exact sh_namesT _ | exact sh_txs _), rfl⟩, ⟨fun h1 => ww_and1 (wt_chain (fun _ => op_le) (fun _ => op_lt) (w_name 4 rfl (w_ixk 1 (w_name 1 rfl ⟨_, _, (.inl rfl), rfl, ⟨_, _, _, rfl, rfl, (w_name 5 rfl ⟨rfl, rfl⟩), ⟨fun h2 => ?a, fun h2 => ?b⟩⟩⟩)))), fun h1 => ⟨(fun z => by cases z), fun _ => ?c⟩⟩⟩⟩))))))
    case a =>
      refine sd_ret (w_op d_sub (w_op d_add (w_name 2 rfl (w_ixk 1 (w_name 1 rfl ⟨_, _, (.inl rfl), rfl, ⟨_, ⟨_, _, rfl, rfl, trivial, rfl⟩, (w_name 4 rfl ⟨_, ⟨_, _, rfl, rfl, trivial, rfl⟩, (ret_dat ?_)⟩)⟩⟩)))))
      have z : PyData.eqv (.str r.s.1) (.str n.s.1) = true := h1
      have z2 : (decide (r.a ≤ n.k) && decide (n.k < r.b)) = true := h2
      show _ = optD (placeL rs n 0)
      rw [yes (by rw [z, z2] <;> rfl)] <;> rfl
    case b =>
      refine sd_dat 2 (w_op d_sub (w_op d_add (w_name 2 rfl (w_name 5 rfl ⟨_, ⟨_, _, rfl, rfl, trivial, rfl⟩, (w_name 4 rfl ⟨_, ⟨_, _, rfl, rfl, trivial, rfl⟩, ⟨_, rfl, sd_nil ⟨_, _, _, _, rfl, no ?_⟩⟩⟩)⟩))))
      have z2 : (decide (r.a ≤ n.k) && decide (n.k < r.b)) = false := h2
      rw [z2, Bool.and_false]
    case c =>
      refine sd_dat 2 (w_op d_sub (w_op d_add (w_name 2 rfl (w_name 5 rfl ⟨_, ⟨_, _, rfl, rfl, trivial, rfl⟩, (w_name 4 rfl ⟨_, ⟨_, _, rfl, rfl, trivial, rfl⟩, ⟨_, rfl, sd_nil ⟨_, _, _, _, rfl, no ?_⟩⟩⟩)⟩))))
      have z : PyData.eqv (.str r.s.1) (.str n.s.1) = false := h1
      rw [z, Bool.false_and]
  · intro Γ' ⟨a, x, y, z, e, h⟩
    refine ⟨a, x, y, z, e, ?_⟩
    rw [List.length_map, List.drop_length] at h
    exact h
  · intro Γ' ⟨a, x, y, z, e, h⟩
    subst e
    refine sd_ret (w_non (ret_dat ?_))
    show _ = optD (placeL rs n 0)
    rw [h] <;> rfl
theorem sc_holds : FnScope ["runs", "note"] ["runs", "note"] (defScope (topS 26)) := ⟨rfl, rfl, rfl, by decide +kernel, rfl, by decide +kernel, by decide +kernel⟩
theorem F_holds {g : Gv} (G : GF g) : Fn g 2 "holds" (spD (fun i : List Run × Note => [.dat (runsD i.1), .dat (noteD i.2)]) (fun _ => True) fun i => .dat (.bool (placeL i.1 i.2 0).isSome)) := by
  refine fn_def (k := 1) G.d_holds sc_holds (fun _ => rfl) fun i _ => ?_
  obtain ⟨rs, n⟩ := i
  show Sd _ _ [_] _
  refine sd_ret (w_cmp d_notN (w_callD (F_place_of G) (wa_cons (w_name 0 rfl (wa_cons (w_name 1 rfl (wa_nil ⟨(_, _), agis_dat (agis_dat (agis_nil)), trivial, (w_non ⟨_, ⟨_, rfl, rfl, rfl⟩, (ret_dat ?_)⟩)⟩)))))))
  show PyData.bool (match optD (placeL rs n 0) with | .none => false | _ => true) = .bool (placeL rs n 0).isSome
  cases placeL rs n 0 <;> rfl
def frT : Deed → Tx
  | .move f _ _ => f
  | .bag f _ _ => f
  | _ => tNone
def toT : Deed → Tx
  | .move _ t _ => t
  | .bag _ t _ => t
  | _ => tNone
def isR (d : Deed) : Bool := isW "move" d || isW "bag" d
theorem r_at {d : Deed} (h : isR d = true) : (deedL d)[1]? = some (.str (frT d).1) ∧ (deedL d)[2]? = some (.str (toT d).1) := by
  rcases Bool.or_eq_true_iff.mp h with z | z
  · obtain ⟨f, t, rs, rfl⟩ := w_move z
    exact ⟨rfl, rfl⟩
  · obtain ⟨f, t, m, rfl⟩ := w_bag z
    exact ⟨rfl, rfl⟩
def b2 (b : Bool) : Int := if b then 1 else 0
def signL (d : Deed) (p : Tx) : Int := b2 (PyData.eqv (.str (toT d).1) (.str p.1)) - b2 (PyData.eqv (.str (frT d).1) (.str p.1))
theorem sign_bd (d : Deed) (p : Tx) : -(2 ^ 64) < signL d p ∧ signL d p < 2 ^ 64 := by
  unfold signL b2
  split <;> split <;> decide
theorem sc_sign_at : FnScope ["deed", "place"] ["deed", "place"] (defScope (topS 53)) := ⟨rfl, rfl, rfl, by decide +kernel, rfl, by decide +kernel, by decide +kernel⟩
theorem F_sign_at {g : Gv} (G : GF g) : Fn g 1 "sign_at" (spD (fun i : Deed × Tx => [.dat (deedD i.1), .dat (.str i.2.1)]) (fun i => isR i.1 = true) fun i => .dat (.int (signL i.1 i.2))) := by
  refine fn_def (k := 0) G.d_sign_at sc_sign_at (fun _ => rfl) fun i hi => ?_
  obtain ⟨d, p⟩ := i
  obtain ⟨h1, h2⟩ := r_at hi
  show Sd _ _ [_] _
  exact sd_ret (w_op d_sub (w_callTy c_intB G.b_int (wa_cons (w_cmp d_eq (w_ixk 2 (w_name 0 rfl ⟨_, _, (.inl rfl), (h2), (w_name 1 rfl ⟨_, ⟨_, _, rfl, rfl, (by first | rfl | decide +kernel | exact sh_tx _ | exact sh_word _ | exact sh_nm _ | exact sh_deed _ | exact sh_page _ | exact sh_runs _ | exact sh_road _ _ | exact sh_roads _ | exact sh_names _ | exact sh_namesT _ | exact sh_txs _), (by first | rfl | decide +kernel | exact sh_tx _ | exact sh_word _ | exact sh_nm _ | exact sh_deed _ | exact sh_page _ | exact sh_runs _ | exact sh_road _ _ | exact sh_roads _ | exact sh_names _ | exact sh_namesT _ | exact sh_txs _), rfl⟩, (wa_nil ⟨_, ⟨_, rfl, rfl⟩, (w_callTy c_intB G.b_int (wa_cons (w_cmp d_eq (w_ixk 1 (w_name 0 rfl ⟨_, _, (.inl rfl), (h1), (w_name 1 rfl ⟨_, ⟨_, _, rfl, rfl, (by first | rfl | decide +kernel | exact sh_tx _ | exact sh_word _ | exact sh_nm _ | exact sh_deed _ | exact sh_page _ | exact sh_runs _ | exact sh_road _ _ | exact sh_roads _ | exact sh_names _ | exact sh_namesT _ | exact sh_txs _), (by first | rfl | decide +kernel | exact sh_tx _ | exact sh_word _ | exact sh_nm _ | exact sh_deed _ | exact sh_page _ | exact sh_runs _ | exact sh_road _ _ | exact sh_roads _ | exact sh_names _ | exact sh_namesT _ | exact sh_txs _), rfl⟩, (wa_nil ⟨_, ⟨_, rfl, rfl⟩, ⟨_, ⟨_, _, rfl, rfl, trivial, rfl⟩, (ret_dat rfl)⟩⟩)⟩)⟩)))))⟩)⟩)⟩))))))
end K83
set_option maxRecDepth 100000
set_option maxHeartbeats 4000000
namespace K83
open PySem PySem.Spec PyProof.Rows L2
section
variable {c : Ct} {Γ : List Sv} {a b e : Expr} {pos p : Pos} {Φ : Ar → List Sv → Prop}
theorem w_neg (h : W c Γ a fun r Γ1 => ∃ i, r = .dat (.int i) ∧ Φ (.dat (.int (-i))) Γ1) : W c Γ (.UnaryOp .USub a pos) Φ := fun X hX H0 σ H S Q q =>
  (pe_un un_neg pe_we).we (h X hX H0 σ H S _ fun H0' r Γ' v H' s ⟨i, e1, k⟩ S' o => by
    subst e1
    exact ⟨i, Is.intInv o, q H0' _ Γ' _ H' s k S' (.int _)⟩)
theorem atI_last {ds : List PyData} {d : PyData} (h : ds.getLast? = some d) : atI ds (-1) = some d := by
  have hl : ds ≠ [] := fun z => by rw [z] at h; cases h
  have hp := List.length_pos_iff.mpr hl
  rw [List.getLast?_eq_getElem?] at h
  have e : ixN ds.length (-1) = some (ds.length - 1) := by
    unfold ixN
    rw [if_neg (by omega), if_pos (by omega)]
    congr 1
    omega
  show (ixN ds.length (-1)).bind (fun j => ds[j]?) = _
  rw [e]
  exact h
end
end K83
set_option maxRecDepth 100000
set_option maxHeartbeats 4000000
namespace K83
open PySem PySem.Spec PyProof.Rows L2
/-! ## the dicts of a book -/
structure BkOk (b : List Page) : Prop where
  len : b.length ≤ 1000
  sm : ∀ p ∈ b, DeedSm p.deed
  nd : (b.map Page.nm).Nodup
def deedAt (b : List Page) (n : Nm) : Deed := ((b.find? fun p => decide (p.nm = n)).map Page.deed).getD (.void n)
def bkK (b : List Page) : List (List Key × PyData) := b.map fun p => (nmK p.nm, deedD p.deed)
theorem nmK_inj {m n : Nm} (h : nmK m = nmK n) : m = n := by
  obtain ⟨a, b, c⟩ := m
  obtain ⟨a', b', c'⟩ := n
  unfold nmK at h
  injection h with h1 h2
  injection h2 with h2 h3
  injection h3 with h3 h4
  injection h1 with h1
  injection h2 with h2
  injection h3 with h3
  have h3' : c = c' := Subtype.ext h3
  subst h1; subst h2; subst h3'
  rfl
theorem nodup_map {α β : Type} {f : α → β} (hf : ∀ x y, f x = f y → x = y) {l : List α} (h : l.Nodup) : (l.map f).Nodup := List.pairwise_map.mpr (h.imp fun {x y} hne e => hne (hf x y e))
theorem bkK_nd {b : List Page} (h : (b.map Page.nm).Nodup) : ((bkK b).map (·.1)).Nodup := by
  have e : (bkK b).map (·.1) = (b.map Page.nm).map nmK := by
    unfold bkK
    rw [List.map_map, List.map_map] <;> rfl
  rw [e]
  exact nodup_map (fun x y => nmK_inj) h
theorem bkD_pr (b : List Page) : bkD b = (bkK b).map prD := by
  unfold bkK
  rw [List.map_map] <;> rfl
theorem find_at {b : List Page} (h : (b.map Page.nm).Nodup) {p : Page} (hp : p ∈ b) : b.find? (fun q => decide (q.nm = p.nm)) = some p := by
  induction b with
  | nil => cases hp
  | cons q b ih =>
    rw [List.map_cons, List.nodup_cons] at h
    rcases List.mem_cons.mp hp with e | hp
    · subst e
      rw [List.find?_cons_of_pos (by simp)]
    · rw [List.find?_cons_of_neg (by
        intro z
        have e := of_decide_eq_true z
        exact h.1 (e ▸ List.mem_map.mpr ⟨p, hp, rfl⟩))]
      exact ih h.2 hp
theorem deedAt_mem {b : List Page} (h : (b.map Page.nm).Nodup) {p : Page} (hp : p ∈ b) : deedAt b p.nm = p.deed := by
  unfold deedAt
  rw [find_at h hp] <;> rfl
theorem lk_book {b : List Page} {n : Nm} (hn : n ∈ b.map Page.nm) : lk (bkK b) (nmK n) = some (deedD (deedAt b n)) := by
  unfold lk bkK deedAt
  rw [List.find?_map, Option.map_map]
  have e : ((fun kv : List Key × PyData => decide (kv.1 = nmK n)) ∘ fun p : Page => (nmK p.nm, deedD p.deed)) = fun p => decide (p.nm = n) := by
    funext p
    show decide (nmK p.nm = nmK n) = decide (p.nm = n)
    by_cases z : p.nm = n
    · rw [z] <;> simp
    · rw [decide_eq_false z, decide_eq_false fun y => z (nmK_inj y)]
  rw [e]
  cases q : b.find? fun p => decide (p.nm = n) with
  | some p => rfl
  | none =>
    obtain ⟨p, hp, rfl⟩ := List.mem_map.mp hn
    have := List.find?_eq_none.mp q p hp
    simp at this
theorem co_in {b : List Page} {n : Nm} (h : n ∈ countedL b) : ∃ p ∈ b, p.nm = n ∧ isCo b p = true := by
  obtain ⟨p, hp, rfl⟩ := List.mem_map.mp h
  obtain ⟨h1, h2⟩ := List.mem_filter.mp hp
  exact ⟨p, h1, rfl, h2⟩
theorem co_mem {b : List Page} {n : Nm} (h : n ∈ countedL b) : n ∈ b.map Page.nm := by
  obtain ⟨p, hp, e, _⟩ := co_in h
  exact List.mem_map.mpr ⟨p, hp, e⟩
theorem co_nd {b : List Page} (h : (b.map Page.nm).Nodup) : (countedL b).Nodup := (List.Sublist.map Page.nm List.filter_sublist).nodup h
theorem co_len {b : List Page} (h : b.length ≤ 1000) : (countedL b).length ≤ 1000 := by
  unfold countedL
  rw [List.length_map]
  exact Nat.le_trans (List.length_filter_le _ _) h
theorem deedAt_sm {b : List Page} (h : BkOk b) (n : Nm) : DeedSm (deedAt b n) := by
  unfold deedAt
  cases q : b.find? fun p => decide (p.nm = n) with
  | none => trivial
  | some p => exact h.sm p (List.mem_of_find?_eq_some q)
theorem new_inj {x y : List PyData} (h : Ar.new x = .new y) : x = y := by injection h
def roadsL (b : List Page) : List Deed := ((countedL b).map (deedAt b)).filter isR
theorem sc_roads_taken : FnScope ["book", "deeds", "told", "name", "deed"] ["book"] (defScope (topS 52)) := ⟨rfl, rfl, rfl, by decide +kernel, rfl, by decide +kernel, by decide +kernel⟩
theorem F_roads_taken {g : Gv} (G : GF g) : Fn g 4 "roads_taken" (spD (fun b : List Page => [bkA b]) BkOk fun b => .new ((roadsL b).map deedD)) := by
  refine fn_def (k := 3) G.d_roads_taken sc_roads_taken (fun _ => rfl) fun b hb => ?_
  have hl := hb.len
  have hc := co_len hl
  show Sd _ _ [_, _, _] _
  refine sd_dict 1 G.b_dict (wa_cons (w_name 0 rfl (wa_nil ⟨_, bkK b, rfl, .inl (by exact congrArg Ar.nic (bkD_pr b)), bkK_nd hb.nd, fun p => ?_⟩)))
  refine (sd_shrLc 2 (.one 3) [("name", 3)] (wi_tup (w_callD (F_counted G) (wa_cons (w_name 0 rfl (wa_nil ⟨_, agis_nic (agis_nil), hl, ⟨_, rfl, lcM (bs := countedL b) (f := nmD) (g := fun n => deedD (deedAt b n)) ?_ ?_ (by decide) ⟨_, rfl, ?_⟩⟩⟩))))) (tg_one 3) (by show BlkOk ["book", "deeds", "told", "name", "deed"] (defScope (topS 52)) _ _; exact ⟨rfl, by decide +kernel, by decide +kernel, by decide +kernel, by decide +kernel⟩))
  · omega
  · intro n hn
    exact ⟨trivial, (w_dget (w_name 1 rfl (w_name 3 rfl ⟨_, 1, _, nmK n, _, rfl, rfl, rfl, lk_book (co_mem hn), ⟨rfl, rfl⟩⟩)))⟩
  · refine sd_ret (w_lc (.one 4) [("deed", 4)] (wi_lst (w_name 2 rfl ⟨_, (by first | exact .inl rfl | exact .inr rfl), lcE (new_inj (new_map (deedAt b) deedD (countedL b))) <| lcP (bs := (countedL b).map (deedAt b)) (f := deedD) (p := isR) (g := deedD) ?_ ?_ (ret_new rfl)⟩)) (tg_one 4) (by show BlkOk ["book", "deeds", "told", "name", "deed"] (defScope (topS 52)) _ _; exact ⟨rfl, by decide +kernel, by decide +kernel, by decide +kernel, by decide +kernel⟩))
    · rw [List.length_map]; omega
    · intro d hd
      refine ⟨trivial, ?_⟩
      exact wt_ww (ww_orB (wt_cmp d_eq (w_ixk 0 (w_name 4 rfl ⟨_, _, (.inl rfl), (deedL_word _), (w_str ⟨_, ⟨_, _, rfl, rfl, (by first | rfl | decide +kernel | exact sh_tx _ | exact sh_word _ | exact sh_nm _ | exact sh_deed _ | exact sh_page _ | exact sh_runs _ | exact sh_road _ _ | exact sh_roads _ | exact sh_names _ | exact sh_namesT _ | exact sh_txs _), (by first | rfl | decide +kernel | exact sh_tx _ | exact sh_word _ | exact sh_nm _ | exact sh_deed _ | exact sh_page _ | exact sh_runs _ | exact sh_road _ _ | exact sh_roads _ | exact sh_names _ | exact sh_namesT _ | exact sh_txs _), rfl⟩, ⟨fun h => ⟨by show true = (isW _ d || isW _ d); rw [tW h] <;> rfl, (fun _ => (w_name 4 rfl ⟨rfl, rfl⟩)), rfl⟩, fun h => ww_or1 (wt_cmp d_eq (w_ixk 0 (w_name 4 rfl ⟨_, _, (.inl rfl), (deedL_word _), (w_str ⟨_, ⟨_, _, rfl, rfl, (by first | rfl | decide +kernel | exact sh_tx _ | exact sh_word _ | exact sh_nm _ | exact sh_deed _ | exact sh_page _ | exact sh_runs _ | exact sh_road _ _ | exact sh_roads _ | exact sh_names _ | exact sh_namesT _ | exact sh_txs _), (by first | rfl | decide +kernel | exact sh_tx _ | exact sh_word _ | exact sh_nm _ | exact sh_deed _ | exact sh_page _ | exact sh_runs _ | exact sh_road _ _ | exact sh_roads _ | exact sh_names _ | exact sh_namesT _ | exact sh_txs _), rfl⟩, ⟨by show _ = (isW _ d || isW _ d); rw [tW h, Bool.false_or]; exact isW_eq _ _, (fun _ => (w_name 4 rfl ⟨rfl, rfl⟩)), rfl⟩⟩)⟩)))⟩⟩)⟩))))
def manyD : Deed → Int
  | .bag _ _ m => m
  | .move _ _ rs => manyL rs
  | .read _ rs => manyL rs
  | _ => 0
def balL (b : List Page) (p : Tx) : Int := (roadsL b).foldl (fun t d => t + manyD d * signL d p) 0
theorem foldl_take {α β : Type} (f : β → α → β) (z : β) {l : List α} {k : Nat} {x : α} (h : l[k]? = some x) : (l.take (k + 1)).foldl f z = f ((l.take k).foldl f z) x := by
  rw [take_next h, List.foldl_append] <;> rfl
theorem roads_is {b : List Page} {d : Deed} (h : d ∈ roadsL b) : isR d = true := (List.mem_filter.mp h).2
theorem roads_sm {b : List Page} (hb : BkOk b) {d : Deed} (h : d ∈ roadsL b) : DeedSm d := by
  obtain ⟨n, _, rfl⟩ := List.mem_map.mp (List.mem_filter.mp h).1
  exact deedAt_sm hb n

theorem sc_balance : FnScope ["book", "place", "total", "deed", "many"] ["book", "place"] (defScope (topS 54)) := ⟨rfl, rfl, rfl, by decide +kernel, rfl, by decide +kernel, by decide +kernel⟩
theorem F_balance {g : Gv} (G : GF g) : Fn g 5 "balance" (spD (fun i : List Page × Tx => [bkA i.1, .dat (.str i.2.1)]) (fun i => BkOk i.1) fun i => .dat (.int (balL i.1 i.2))) := by
  refine fn_def (k := 4) G.d_balance sc_balance (fun _ => rfl) fun i hi => ?_
  obtain ⟨b, p⟩ := i
  have hb : BkOk b := hi
  show Sd _ _ [_, _, _] _
  refine sd_dat 2 (w_int ⟨_, rfl, ?_⟩)
  refine sd_for (.one 3) (fun Γ' => ∃ x y, Γ' = [.nic (bkD b), .dat (.str p.1), .dat (.int (balL b p)), x, y])
    (wi_lst (w_callD (F_roads_taken G) (wa_cons (w_name 0 rfl (wa_nil ⟨_, agis_nic (agis_nil), hb, ⟨_, .inl rfl, fun k Γk => ∃ x y, Γk = [.nic (bkD b), .dat (.str p.1), .dat (.int (((roadsL b).take k).foldl (fun t d => t + manyD d * signL d p) 0)), x, y], ⟨_, _, rfl⟩, ?_, ?_⟩⟩))))) ?_ (tg_one 3)
  · intro k d Γk hk ⟨x, y, e⟩
    subst e
    obtain ⟨d, hd, rfl⟩ := map_at hk
    have hm := List.mem_of_getElem? hd
    have hr := roads_is hm
    have hs := roads_sm hb hm
    refine ⟨trivial, ?_⟩
    show Sd _ [.nic (bkD b), .dat (.str p.1), .dat (.int _), .dat (deedD d), y] [_, _] _
    refine sd_dat 4 (Pu.go (d := .int (manyD d)) (w_ifB (wt_cmp d_eq (w_ixk 0 (w_name 3 rfl ⟨_, _, (.inl rfl), (deedL_word _), (w_str ⟨_, ⟨_, _, rfl, rfl, (by first | rfl | decide +kernel | exact sh_tx _ | exact sh_word _ | exact sh_nm _ | exact sh_deed _ | exact sh_page _ | exact sh_runs _ | exact sh_road _ _ | exact sh_roads _ | exact sh_names _ | exact sh_namesT _ | exact sh_txs _), (by first | rfl | decide +kernel | exact sh_tx _ | exact sh_word _ | exact sh_nm _ | exact sh_deed _ | exact sh_page _ | exact sh_runs _ | exact sh_road _ _ | exact sh_roads _ | exact sh_names _ | exact sh_namesT _ | exact sh_txs _), rfl⟩, ⟨fun h => ?a, fun h => ?b⟩⟩)⟩)))) ⟨_, rfl, ?c⟩)
    case a =>
      obtain ⟨f, t, m, rfl⟩ := w_bag (tW h)
      exact (w_ixk 3 (w_name 3 rfl ⟨_, _, (.inl rfl), rfl, ⟨rfl, rfl⟩⟩))
    case b =>
      have h2 : isW "move" d = true := by
        have h' := tW h
        have hr' := hr
        unfold isR at hr'
        rw [h', Bool.or_false] at hr'
        exact hr'
      obtain ⟨f, t, rs, rfl⟩ := w_move h2
      exact (w_callD (F_many_in G) (wa_cons (w_ixk 3 (w_name 3 rfl ⟨_, _, (.inl rfl), rfl, (wa_nil ⟨_, agis_dat (agis_nil), hs, ⟨rfl, rfl⟩⟩)⟩))))
    case c => exact sd_dat 2 (w_op d_add (w_name 2 rfl (w_op d_mul (w_name 4 rfl (w_callD (F_sign_at G) (wa_cons (w_name 3 rfl (wa_cons (w_name 1 rfl (wa_nil ⟨(_, _), agis_dat (agis_dat (agis_nil)), hr, ⟨_, ⟨_, _, rfl, rfl, .inr (sign_bd d p), rfl⟩, ⟨_, ⟨_, _, rfl, rfl, trivial, rfl⟩, ⟨_, rfl, sd_nil ⟨_, _, by rw [foldl_take _ _ hd] <;> rfl⟩⟩⟩⟩⟩))))))))))
  · intro Γ' ⟨x, y, e⟩
    refine ⟨x, y, ?_⟩
    rw [List.length_map, List.take_length] at e
    exact e
  · intro Γ' ⟨x, y, e⟩
    subst e
    exact sd_ret (w_name 2 rfl (ret_dat rfl))
end K83
set_option maxRecDepth 100000
set_option maxHeartbeats 4000000
namespace K83
open PySem PySem.Spec PyProof.Rows L2
def cpagesL (b : List Page) : List Page := b.filter fun p => decide (p.nm ∈ countedL b)
def coK (b : List Page) : List (List Key × PyData) := (countedL b).map fun n => (nmK n, .bool true)
theorem coK_nd {b : List Page} (h : (b.map Page.nm).Nodup) : ((coK b).map (·.1)).Nodup := by
  have e : (coK b).map (·.1) = (countedL b).map nmK := by
    unfold coK
    rw [List.map_map] <;> rfl
  rw [e]
  exact nodup_map (fun x y => nmK_inj) (co_nd h)
theorem coK_in (b : List Page) (n : Nm) : (lk (coK b) (nmK n)).isSome = decide (n ∈ countedL b) := by
  unfold lk coK
  rw [Option.isSome_map, Bool.eq_iff_iff, decide_eq_true_iff, List.find?_isSome]
  constructor
  · rintro ⟨q, hq, h⟩
    obtain ⟨m, hm, rfl⟩ := List.mem_map.mp hq
    have e := nmK_inj (of_decide_eq_true h)
    rw [← e]
    exact hm
  · intro h
    exact ⟨_, List.mem_map.mpr ⟨n, h, rfl⟩, by simp⟩
theorem coK_pr (b : List Page) : ((countedL b).map fun n => PyData.tuple [nmD n, .bool true]) = (coK b).map prD := by
  unfold coK
  rw [List.map_map] <;> rfl
theorem sc_counted_pages : FnScope ["book", "names", "name", "page"] ["book"] (defScope (topS 56)) := ⟨rfl, rfl, rfl, by decide +kernel, rfl, by decide +kernel, by decide +kernel⟩
theorem F_counted_pages {g : Gv} (G : GF g) : Fn g 4 "counted_pages" (spD (fun b : List Page => [bkA b]) BkOk fun b => .new ((cpagesL b).map pageD)) := by
  refine fn_def (k := 3) G.d_counted_pages sc_counted_pages (fun _ => rfl) fun b hb => ?_
  have hl := hb.len
  have hc := co_len hl
  show Sd _ _ [_, _] _
  refine sd_dict 1 G.b_dict (wa_cons (w_lc (.one 2) [("name", 2)] (wi_tup (w_callD (F_counted G) (wa_cons (w_name 0 rfl (wa_nil ⟨_, agis_nic (agis_nil), hl, ⟨_, rfl, lcM (bs := countedL b) (f := nmD) (g := fun n => .tuple [nmD n, .bool true]) ?_ ?_ (by decide) (wa_nil ⟨_, coK b, rfl, .inr (.inr (.inl (by exact congrArg Ar.lst (coK_pr b)))), coK_nd hb.nd, fun p => ?_⟩)⟩⟩))))) (tg_one 2) (by show BlkOk ["book", "names", "name", "page"] (defScope (topS 56)) _ _; exact ⟨rfl, by decide +kernel, by decide +kernel, by decide +kernel, by decide +kernel⟩)))
  · omega
  · intro n hn
    exact ⟨trivial, (w_tup (wa_cons (w_name 2 rfl (wa_cons (w_bl (wa_nil ⟨[_, _], rfl, by exact Nat.le_of_ble_eq_true rfl, ⟨rfl, rfl⟩⟩))))))⟩
  · refine sd_ret (w_lc (.one 3) [("page", 3)] (wi_nic (w_name 0 rfl ⟨_, rfl, lcP (bs := b) (f := pageD) (p := fun p => decide (p.nm ∈ countedL b)) (g := pageD) ?_ ?_ (ret_new rfl)⟩)) (tg_one 3) (by show BlkOk ["book", "names", "name", "page"] (defScope (topS 56)) _ _; exact ⟨rfl, by decide +kernel, by decide +kernel, by decide +kernel, by decide +kernel⟩))
    · omega
    · intro pg _
      exact ⟨trivial, wt_din (w_ixk 0 (w_name 3 rfl ⟨_, _, (.inl rfl), rfl, (w_name 1 rfl ⟨_, 1, _, nmK pg.nm, rfl, rfl, rfl, coK_in b pg.nm, (fun _ => (w_name 3 rfl ⟨rfl, rfl⟩)), rfl⟩)⟩))⟩
def bringsL (d : Deed) (p : Tx) : Int :=
  if isR d = true then
    (if (PyData.eqv (.str (frT d).1) (.str p.1) || PyData.eqv (.str (toT d).1) (.str p.1)) = true then (if PyData.eqv (.str (toT d).1) (.str p.1) = true then manyD d else 0 - manyD d) else 0)
  else 0
theorem r_any (d : Deed) : ([PyData.str "move", PyData.str "bag"].any fun z => PyData.eqv z (.str (word d))) = isR d := by
  simp only [List.any_cons, List.any_nil, Bool.or_false, eqv_str]
  unfold isR isW
  rw [decide_eq_decide.mpr (eq_comm (a := ("move" : Str)) (b := word d)), decide_eq_decide.mpr (eq_comm (a := ("bag" : Str)) (b := word d))]
theorem sc_brings : FnScope ["deed", "place", "many"] ["deed", "place"] (defScope (topS 57)) := ⟨rfl, rfl, rfl, by decide +kernel, rfl, by decide +kernel, by decide +kernel⟩
theorem F_brings {g : Gv} (G : GF g) : Fn g 2 "brings" (spD (fun i : Deed × Tx => [.dat (deedD i.1), .dat (.str i.2.1)]) (fun i => DeedSm i.1) fun i => .dat (.int (bringsL i.1 i.2))) := by
  refine fn_def (k := 1) G.d_brings sc_brings (fun _ => rfl) fun i hi => ?_
  obtain ⟨d, p⟩ := i
  have hs : DeedSm d := hi
  show Sd _ _ [_, _, _, _] _
  by_cases h2 : isR d = true
  rcases Bool.or_eq_true_iff.mp h2 with z | z
  · obtain ⟨f, t, rs, rfl⟩ := w_move z
    have two : ([PyData.str f.1, PyData.str t.1].any fun z => PyData.eqv z (.str p.1)) = (PyData.eqv (.str f.1) (.str p.1) || PyData.eqv (.str t.1) (.str p.1)) := by simp [List.any_cons]
    have br : bringsL (.move f t rs) p = if ([PyData.str f.1, PyData.str t.1].any fun z => PyData.eqv z (.str p.1)) = true then (if PyData.eqv (.str t.1) (.str p.1) = true then manyD (.move f t rs) else 0 - manyD (.move f t rs)) else 0 := by
      rw [two]
      unfold bringsL
      rw [if_pos h2] <;> rfl
    refine sd_ifB (wt_ww (ww_orF (wt_cmp d_notIn (w_ixk 0 (w_name 0 rfl ⟨_, _, (.inl rfl), rfl, (w_tup (wa_cons (w_str (wa_cons (w_str (wa_nil ⟨[_, _], rfl, by exact Nat.le_of_ble_eq_true rfl, ⟨_, ⟨_, _, rfl, .inl rfl, (by first | rfl | decide +kernel | exact sh_tx _ | exact sh_word _ | exact sh_nm _ | exact sh_deed _ | exact sh_page _ | exact sh_runs _ | exact sh_road _ _ | exact sh_roads _ | exact sh_names _ | exact sh_namesT _ | exact sh_txs _), (by first | rfl | decide +kernel | exact sh_tx _ | exact sh_word _ | exact sh_nm _ | exact sh_deed _ | exact sh_page _ | exact sh_runs _ | exact sh_road _ _ | exact sh_roads _ | exact sh_names _ | exact sh_namesT _ | exact sh_txs _), rfl⟩, ⟨by decide +kernel, ww_or1 (wt_cmp d_notIn (w_name 1 rfl (w_slLH (w_name 0 rfl ⟨_, (.inl ⟨rfl, ⟨_, ⟨_, _, rfl, .inl rfl, (by first | rfl | decide +kernel | exact sh_tx _ | exact sh_word _ | exact sh_nm _ | exact sh_deed _ | exact sh_page _ | exact sh_runs _ | exact sh_road _ _ | exact sh_roads _ | exact sh_names _ | exact sh_namesT _ | exact sh_txs _), (by first | rfl | decide +kernel | exact sh_tx _ | exact sh_word _ | exact sh_nm _ | exact sh_deed _ | exact sh_page _ | exact sh_runs _ | exact sh_road _ _ | exact sh_roads _ | exact sh_names _ | exact sh_namesT _ | exact sh_txs _), rfl⟩, ⟨fun h3 => ?no, fun h3 => sd_dat 2 (w_ixk 3 (w_name 0 rfl ⟨_, _, (.inl rfl), rfl, ⟨_, rfl, sd_ifM (fun Γ' => Γ' = [.dat (deedD (.move f t rs)), .dat (.str p.1), .dat (.int (manyD (.move f t rs)))]) (wt_cmp d_eq (w_ixk 0 (w_name 0 rfl ⟨_, _, (.inl rfl), rfl, (w_str ⟨_, ⟨_, _, rfl, rfl, (by first | rfl | decide +kernel | exact sh_tx _ | exact sh_word _ | exact sh_nm _ | exact sh_deed _ | exact sh_page _ | exact sh_runs _ | exact sh_road _ _ | exact sh_roads _ | exact sh_names _ | exact sh_namesT _ | exact sh_txs _), (by first | rfl | decide +kernel | exact sh_tx _ | exact sh_word _ | exact sh_nm _ | exact sh_deed _ | exact sh_page _ | exact sh_runs _ | exact sh_road _ _ | exact sh_roads _ | exact sh_names _ | exact sh_namesT _ | exact sh_txs _), rfl⟩, ⟨fun _ => sd_dat 2 (w_callD (F_many_in G) (wa_cons (w_ixk 3 (w_name 0 rfl ⟨_, _, (.inl rfl), rfl, (wa_nil ⟨_, agis_dat (agis_nil), hs, ⟨_, rfl, sd_nil rfl⟩⟩)⟩)))), (fun z => absurd z (by decide +kernel))⟩⟩)⟩))) (fun Γ' e => ?fin)⟩⟩))⟩⟩⟩)⟩))))⟩⟩⟩))))))⟩)))))
    case no =>
      have h4 : ([PyData.str f.1, PyData.str t.1].any fun z => PyData.eqv z (.str p.1)) = false := bne h3
      refine sd_ret (w_int (ret_dat ?_))
      show _ = PyData.int (bringsL (.move f t rs) p)
      rw [br, if_neg (by rw [h4]; decide)]
    case fin =>
      have h4 : ([PyData.str f.1, PyData.str t.1].any fun z => PyData.eqv z (.str p.1)) = true := bnt h3
      subst e
      refine sd_ret (w_ifB (wt_cmp d_eq (w_ixk 2 (w_name 0 rfl ⟨_, _, (.inl rfl), rfl, (w_name 1 rfl ⟨_, ⟨_, _, rfl, rfl, (by first | rfl | decide +kernel | exact sh_tx _ | exact sh_word _ | exact sh_nm _ | exact sh_deed _ | exact sh_page _ | exact sh_runs _ | exact sh_road _ _ | exact sh_roads _ | exact sh_names _ | exact sh_namesT _ | exact sh_txs _), (by first | rfl | decide +kernel | exact sh_tx _ | exact sh_word _ | exact sh_nm _ | exact sh_deed _ | exact sh_page _ | exact sh_runs _ | exact sh_road _ _ | exact sh_roads _ | exact sh_names _ | exact sh_namesT _ | exact sh_txs _), rfl⟩, ⟨fun h5 => (w_name 2 rfl (ret_dat ?_)), fun h5 => (w_op d_sub (w_int (w_name 2 rfl ⟨_, ⟨_, _, rfl, rfl, trivial, rfl⟩, (ret_dat ?_)⟩)))⟩⟩)⟩))))
      · have h6 : PyData.eqv (.str t.1) (.str p.1) = true := h5
        show _ = PyData.int (bringsL (.move f t rs) p)
        rw [br, if_pos h4, if_pos h6]
      · have h6 : PyData.eqv (.str t.1) (.str p.1) = false := h5
        show _ = PyData.int (bringsL (.move f t rs) p)
        rw [br, if_pos h4, if_neg (by rw [h6]; decide)]
  · obtain ⟨f, t, m, rfl⟩ := w_bag z
    have two : ([PyData.str f.1, PyData.str t.1].any fun z => PyData.eqv z (.str p.1)) = (PyData.eqv (.str f.1) (.str p.1) || PyData.eqv (.str t.1) (.str p.1)) := by simp [List.any_cons]
    have br : bringsL (.bag f t m) p = if ([PyData.str f.1, PyData.str t.1].any fun z => PyData.eqv z (.str p.1)) = true then (if PyData.eqv (.str t.1) (.str p.1) = true then manyD (.bag f t m) else 0 - manyD (.bag f t m)) else 0 := by
      rw [two]
      unfold bringsL
      rw [if_pos h2] <;> rfl
    refine sd_ifB (wt_ww (ww_orF (wt_cmp d_notIn (w_ixk 0 (w_name 0 rfl ⟨_, _, (.inl rfl), rfl, (w_tup (wa_cons (w_str (wa_cons (w_str (wa_nil ⟨[_, _], rfl, by exact Nat.le_of_ble_eq_true rfl, ⟨_, ⟨_, _, rfl, .inl rfl, (by first | rfl | decide +kernel | exact sh_tx _ | exact sh_word _ | exact sh_nm _ | exact sh_deed _ | exact sh_page _ | exact sh_runs _ | exact sh_road _ _ | exact sh_roads _ | exact sh_names _ | exact sh_namesT _ | exact sh_txs _), (by first | rfl | decide +kernel | exact sh_tx _ | exact sh_word _ | exact sh_nm _ | exact sh_deed _ | exact sh_page _ | exact sh_runs _ | exact sh_road _ _ | exact sh_roads _ | exact sh_names _ | exact sh_namesT _ | exact sh_txs _), rfl⟩, ⟨by decide +kernel, ww_or1 (wt_cmp d_notIn (w_name 1 rfl (w_slLH (w_name 0 rfl ⟨_, (.inl ⟨rfl, ⟨_, ⟨_, _, rfl, .inl rfl, (by first | rfl | decide +kernel | exact sh_tx _ | exact sh_word _ | exact sh_nm _ | exact sh_deed _ | exact sh_page _ | exact sh_runs _ | exact sh_road _ _ | exact sh_roads _ | exact sh_names _ | exact sh_namesT _ | exact sh_txs _), (by first | rfl | decide +kernel | exact sh_tx _ | exact sh_word _ | exact sh_nm _ | exact sh_deed _ | exact sh_page _ | exact sh_runs _ | exact sh_road _ _ | exact sh_roads _ | exact sh_names _ | exact sh_namesT _ | exact sh_txs _), rfl⟩, ⟨fun h3 => ?no, fun h3 => sd_dat 2 (w_ixk 3 (w_name 0 rfl ⟨_, _, (.inl rfl), rfl, ⟨_, rfl, sd_ifM (fun Γ' => Γ' = [.dat (deedD (.bag f t m)), .dat (.str p.1), .dat (.int (manyD (.bag f t m)))]) (wt_cmp d_eq (w_ixk 0 (w_name 0 rfl ⟨_, _, (.inl rfl), rfl, (w_str ⟨_, ⟨_, _, rfl, rfl, (by first | rfl | decide +kernel | exact sh_tx _ | exact sh_word _ | exact sh_nm _ | exact sh_deed _ | exact sh_page _ | exact sh_runs _ | exact sh_road _ _ | exact sh_roads _ | exact sh_names _ | exact sh_namesT _ | exact sh_txs _), (by first | rfl | decide +kernel | exact sh_tx _ | exact sh_word _ | exact sh_nm _ | exact sh_deed _ | exact sh_page _ | exact sh_runs _ | exact sh_road _ _ | exact sh_roads _ | exact sh_names _ | exact sh_namesT _ | exact sh_txs _), rfl⟩, ⟨(fun z => absurd z (by decide +kernel)), fun _ => sd_nil rfl⟩⟩)⟩))) (fun Γ' e => ?fin)⟩⟩))⟩⟩⟩)⟩))))⟩⟩⟩))))))⟩)))))
    case no =>
      have h4 : ([PyData.str f.1, PyData.str t.1].any fun z => PyData.eqv z (.str p.1)) = false := bne h3
      refine sd_ret (w_int (ret_dat ?_))
      show _ = PyData.int (bringsL (.bag f t m) p)
      rw [br, if_neg (by rw [h4]; decide)]
    case fin =>
      have h4 : ([PyData.str f.1, PyData.str t.1].any fun z => PyData.eqv z (.str p.1)) = true := bnt h3
      subst e
      refine sd_ret (w_ifB (wt_cmp d_eq (w_ixk 2 (w_name 0 rfl ⟨_, _, (.inl rfl), rfl, (w_name 1 rfl ⟨_, ⟨_, _, rfl, rfl, (by first | rfl | decide +kernel | exact sh_tx _ | exact sh_word _ | exact sh_nm _ | exact sh_deed _ | exact sh_page _ | exact sh_runs _ | exact sh_road _ _ | exact sh_roads _ | exact sh_names _ | exact sh_namesT _ | exact sh_txs _), (by first | rfl | decide +kernel | exact sh_tx _ | exact sh_word _ | exact sh_nm _ | exact sh_deed _ | exact sh_page _ | exact sh_runs _ | exact sh_road _ _ | exact sh_roads _ | exact sh_names _ | exact sh_namesT _ | exact sh_txs _), rfl⟩, ⟨fun h5 => (w_name 2 rfl (ret_dat ?_)), fun h5 => (w_op d_sub (w_int (w_name 2 rfl ⟨_, ⟨_, _, rfl, rfl, trivial, rfl⟩, (ret_dat ?_)⟩)))⟩⟩)⟩))))
      · have h6 : PyData.eqv (.str t.1) (.str p.1) = true := h5
        show _ = PyData.int (bringsL (.bag f t m) p)
        rw [br, if_pos h4, if_pos h6]
      · have h6 : PyData.eqv (.str t.1) (.str p.1) = false := h5
        show _ = PyData.int (bringsL (.bag f t m) p)
        rw [br, if_pos h4, if_neg (by rw [h6]; decide)]
  · have h2 : isR d = false := by simpa using h2
    refine sd_ifB (wt_ww (ww_orT (wt_cmp d_notIn (w_ixk 0 (w_name 0 rfl ⟨_, _, (.inl rfl), (deedL_word _), (w_tup (wa_cons (w_str (wa_cons (w_str (wa_nil ⟨[_, _], rfl, by exact Nat.le_of_ble_eq_true rfl, ⟨_, ⟨_, _, rfl, .inl rfl, (by first | rfl | decide +kernel | exact sh_tx _ | exact sh_word _ | exact sh_nm _ | exact sh_deed _ | exact sh_page _ | exact sh_runs _ | exact sh_road _ _ | exact sh_roads _ | exact sh_names _ | exact sh_namesT _ | exact sh_txs _), (by first | rfl | decide +kernel | exact sh_tx _ | exact sh_word _ | exact sh_nm _ | exact sh_deed _ | exact sh_page _ | exact sh_runs _ | exact sh_road _ _ | exact sh_roads _ | exact sh_names _ | exact sh_namesT _ | exact sh_txs _), rfl⟩, ⟨(congrArg not (r_any d)).trans (by rw [h2] <;> rfl), fun _ => ?_, (fun z => by cases z)⟩⟩⟩))))))⟩)))))
    refine sd_ret (w_int (ret_dat ?_))
    show _ = PyData.int (bringsL d p)
    unfold bringsL
    rw [if_neg (by rw [h2]; decide)]
end K83
set_option maxRecDepth 100000
set_option maxHeartbeats 4000000
namespace K83
open PySem PySem.Spec PyProof.Rows L2
def cntP : Deed → Tx
  | .count p _ => p
  | _ => tNone
def cntM : Deed → Int
  | .count _ m => m
  | _ => 0
def offStep (p : Tx) (st : List (Nm × Int) × Int) (pg : Page) : List (Nm × Int) × Int :=
  (if isW "count" pg.deed = true ∧ PyData.eqv (.str (cntP pg.deed).1) (.str p.1) = true then st.1 ++ [(pg.nm, cntM pg.deed - st.2)] else st.1, st.2 + bringsL pg.deed p)
def offsL (b : List Page) (p : Tx) : List (Nm × Int) := ((cpagesL b).foldl (offStep p) ([], 0)).1
def offD (x : Nm × Int) : PyData := .tuple [nmD x.1, .int x.2]
theorem off_len (p : Tx) : ∀ (l : List Page) (st : List (Nm × Int) × Int), (l.foldl (offStep p) st).1.length ≤ st.1.length + l.length
  | [], _ => Nat.le_refl _
  | pg :: l, st => by
    refine Nat.le_trans (off_len p l (offStep p st pg)) ?_
    unfold offStep
    dsimp only
    split
    · rw [List.length_append, List.length_cons, List.length_cons, List.length_nil]
      omega
    · rw [List.length_cons]
      omega
theorem sc_offs : FnScope ["book", "place", "found", "there", "name", "deed"] ["book", "place"] (defScope (topS 58)) := ⟨rfl, rfl, rfl, by decide +kernel, rfl, by decide +kernel, by decide +kernel⟩
theorem F_offs {g : Gv} (G : GF g) : Fn g 5 "offs" (spD (fun i : List Page × Tx => [bkA i.1, .dat (.str i.2.1)]) (fun i => BkOk i.1) fun i => .new ((offsL i.1 i.2).map offD)) := by
  refine fn_def (k := 4) G.d_offs sc_offs (fun _ => rfl) fun i hi => ?_
  obtain ⟨b, p⟩ := i
  have hb : BkOk b := hi
  show Sd _ _ [_, _, _, _] _
  refine sd_own 2 (w_lst (wa_nil ⟨[], rfl, by exact Nat.le_of_ble_eq_true rfl, ⟨_, rfl, fun q => ?_⟩⟩))
  refine sd_dat 3 (w_int ⟨_, rfl, ?_⟩)
  refine sd_for (.many [4, 5]) (fun Γ' => ∃ th x y, Γ' = [.nic (bkD b), .dat (.str p.1), .own q ((offsL b p).map offD), .dat (.int th), x, y])
    (wi_lst (w_callD (F_counted_pages G) (wa_cons (w_name 0 rfl (wa_nil ⟨_, agis_nic (agis_nil), hb, ⟨_, .inl rfl, fun k Γk => ∃ x y, Γk = [.nic (bkD b), .dat (.str p.1), .own q ((((cpagesL b).take k).foldl (offStep p) ([], 0)).1.map offD), .dat (.int (((cpagesL b).take k).foldl (offStep p) ([], 0)).2), x, y], ⟨_, _, rfl⟩, ?_, ?_⟩⟩))))) ?_ (tg_two 4 5)
  · intro k d Γk hk ⟨x, y, e⟩
    subst e
    obtain ⟨pg, hpg, rfl⟩ := map_at hk
    have hpm := List.mem_of_getElem? hpg
    have hs : DeedSm pg.deed := hb.sm pg (List.mem_filter.mp hpm).1
    have hkl : k < (cpagesL b).length := (List.getElem?_eq_some_iff.mp hpg).1
    have hcl : (cpagesL b).length ≤ 1000 := Nat.le_trans (List.length_filter_le _ _) hb.len
    have hl := off_len p ((cpagesL b).take k) ([], 0)
    rw [List.length_take] at hl
    have hl' : (((cpagesL b).take k).foldl (offStep p) ([], 0)).1.length ≤ k := by
      refine Nat.le_trans hl ?_
      show 0 + min k (cpagesL b).length ≤ k
      omega
    have st := foldl_take (fun st pg => offStep p st pg) (([] : List (Nm × Int)), (0 : Int)) hpg
    have st' : ((cpagesL b).take (k + 1)).foldl (offStep p) ([], 0) = offStep p (((cpagesL b).take k).foldl (offStep p) ([], 0)) pg := st
    generalize ((cpagesL b).take k).foldl (offStep p) ([], 0) = S0 at st' hl'
    refine ⟨⟨_, rfl, rfl⟩, ?_⟩
    show Sd _ [.nic (bkD b), .dat (.str p.1), .own q (S0.1.map offD), .dat (.int S0.2), .dat (nmD pg.nm), .dat (deedD pg.deed)] [_, _] _
    have hlen : (S0.1.map offD).length ≤ 1000000 := by rw [List.length_map]; omega
    refine sd_ifM (fun Γ' => Γ' = [.nic (bkD b), .dat (.str p.1), .own q ((offStep p S0 pg).1.map offD), .dat (.int S0.2), .dat (nmD pg.nm), .dat (deedD pg.deed)]) (wt_ww (ww_andB (wt_cmp d_eq (w_ixk 0 (w_name 5 rfl ⟨_, _, (.inl rfl), (deedL_word _), (w_str ⟨_, ⟨_, _, rfl, rfl, (by first | rfl | decide +kernel | exact sh_tx _ | exact sh_word _ | exact sh_nm _ | exact sh_deed _ | exact sh_page _ | exact sh_runs _ | exact sh_road _ _ | exact sh_roads _ | exact sh_names _ | exact sh_namesT _ | exact sh_txs _), (by first | rfl | decide +kernel | exact sh_tx _ | exact sh_word _ | exact sh_nm _ | exact sh_deed _ | exact sh_page _ | exact sh_runs _ | exact sh_road _ _ | exact sh_roads _ | exact sh_names _ | exact sh_namesT _ | exact sh_txs _), rfl⟩, ⟨fun h => ww_and1 ?a, fun h => ⟨(fun z => by cases z), fun _ => sd_nil ?b⟩⟩⟩)⟩))))) (fun Γ' e => ?c)
    case a =>
      have h' := tW h
      clear h
      obtain ⟨n, d⟩ := pg
      obtain ⟨pl, m, rfl⟩ := w_count h'
      refine (wt_cmp d_eq (w_ixk 1 (w_name 5 rfl ⟨_, _, (.inl rfl), rfl, (w_name 1 rfl ⟨_, ⟨_, _, rfl, rfl, (by first | rfl | decide +kernel | exact sh_tx _ | exact sh_word _ | exact sh_nm _ | exact sh_deed _ | exact sh_page _ | exact sh_runs _ | exact sh_road _ _ | exact sh_roads _ | exact sh_names _ | exact sh_namesT _ | exact sh_txs _), (by first | rfl | decide +kernel | exact sh_tx _ | exact sh_word _ | exact sh_nm _ | exact sh_deed _ | exact sh_page _ | exact sh_runs _ | exact sh_road _ _ | exact sh_roads _ | exact sh_names _ | exact sh_namesT _ | exact sh_txs _), rfl⟩, ⟨fun h2 => ?_, fun h2 => sd_nil ?_⟩⟩)⟩)))
      · refine sd_append 2 rfl (wa_cons (w_tup (wa_cons (w_name 4 rfl (wa_cons (w_op d_sub (w_ixk 2 (w_name 5 rfl ⟨_, _, (.inl rfl), rfl, (w_name 3 rfl ⟨_, ⟨_, _, rfl, rfl, trivial, rfl⟩, (wa_nil ⟨[_, _], rfl, by exact Nat.le_of_ble_eq_true rfl, (wa_nil ⟨_, _, rfl, rfl, hlen, sd_nil ?_⟩)⟩)⟩)⟩))))))))
        have e : (offStep p S0 ⟨n, .count pl m⟩).1 = S0.1 ++ [(n, m - S0.2)] := if_pos ⟨h', h2⟩
        rw [e, List.map_append] <;> rfl
      · have e : (offStep p S0 ⟨n, .count pl m⟩).1 = S0.1 := if_neg fun z => by
          have z2 : PyData.eqv (.str pl.1) (.str p.1) = true := z.2
          have z3 : PyData.eqv (.str pl.1) (.str p.1) = false := h2
          rw [z2] at z3
          cases z3
        rw [e]
    case b =>
      have e : (offStep p S0 pg).1 = S0.1 := if_neg fun z => by
        have z3 := tW h
        rw [z.1] at z3
        cases z3
      rw [e]
    case c =>
      subst e
      refine sd_dat 3 (w_op d_add (w_name 3 rfl (w_callD (F_brings G) (wa_cons (w_name 5 rfl (wa_cons (w_name 1 rfl (wa_nil ⟨(_, _), agis_dat (agis_dat (agis_nil)), hs, ⟨_, ⟨_, _, rfl, rfl, trivial, rfl⟩, ⟨_, rfl, sd_nil ⟨.dat (nmD pg.nm), .dat (deedD pg.deed), ?_⟩⟩⟩⟩))))))))
      rw [st'] <;> rfl
  · intro Γ' ⟨x, y, e⟩
    rw [List.length_map, List.take_length] at e
    exact ⟨_, x, y, e⟩
  · intro Γ' ⟨th, x, y, e⟩
    subst e
    exact sd_ret (w_name 2 rfl ⟨_, rfl, .inr (.inr (.inr ⟨_, 2, _, rfl, rfl, rfl⟩))⟩)
/-! ## the told moves -/
structure Mv where
  mo : Nm
  nm : Nm
  f : Tx
  t : Tx
  rs : List Run
def mvD (m : Mv) : PyData := .tuple [nmD m.mo, nmD m.nm, .str m.f.1, .str m.t.1, runsD m.rs]
def stD (m : Mv) : PyData := .tuple [nmD m.mo, .str m.f.1, .str m.t.1, nmD m.nm]
def mvOf (b : List Page) (n : Nm) : Deed → List Mv
  | .move f t rs => [⟨n, n, f, t, rs⟩]
  | .read o rs => [⟨o, n, frT (deedAt b o), toT (deedAt b o), rs⟩]
  | _ => []
def mvAt (b : List Page) (n : Nm) : List Mv := mvOf b n (deedAt b n)
def movesL (b : List Page) : List Mv := (countedL b).flatMap (mvAt b)
def mvSort (l : List Mv) : List Mv := l.mergeSort (PySem.W.dataLe false mvD)
theorem alike_map {α : Type} {f : α → PyData} (h : ∀ x y, PySem.W.alike (f x) (f y) = true) : ∀ xs ys : List α, PySem.W.alikeAll (xs.map f) (ys.map f) = true
  | [], _ => by simp [PySem.W.alikeAll]
  | _ :: _, [] => by simp [PySem.W.alikeAll]
  | x :: xs, y :: ys => by
    show PySem.W.alikeAll (f x :: xs.map f) (f y :: ys.map f) = true
    rw [PySem.W.alikeAll, h x y, alike_map h xs ys] <;> rfl
theorem alike_nm (x y : Nm) : PySem.W.alike (nmD x) (nmD y) = true := by simp [nmD, PySem.W.alike, PySem.W.alikeAll]
theorem alike_run (x y : Run) : PySem.W.alike (runD x) (runD y) = true := by simp [runD, PySem.W.alike, PySem.W.alikeAll]
theorem alike_runs (x y : List Run) : PySem.W.alike (runsD x) (runsD y) = true := by
  unfold runsD
  rw [PySem.W.alike]
  exact alike_map alike_run x y
theorem alike_mv (x y : Mv) : PySem.W.alike (mvD x) (mvD y) = true := by
  unfold mvD
  simp [PySem.W.alike, PySem.W.alikeAll, alike_nm, alike_runs]
theorem mv_depth (m : Mv) : (mvD m).depth ≤ 64 := by
  have h1 := (lay_nm m.mo).2
  have h2 := (lay_nm m.nm).2
  have h3 := (lay_runs m.rs).2
  simp only [mvD, PyData.depth, PyData.depthAll]
  omega
theorem sort_mv (l : List Mv) : sortD (l.map mvD) = (mvSort l).map mvD := by
  unfold sortD mvSort
  exact (List.map_mergeSort (r := PySem.W.dataLe false mvD) (s := PySem.W.dataLe false id) (f := mvD) (l := l) (fun a _ b _ => rfl)).symm
theorem moves_len {b : List Page} : ∀ l : List Nm, (l.flatMap (mvAt b)).length ≤ l.length
  | [] => Nat.le_refl _
  | n :: l => by
    have h : (mvAt b n).length ≤ 1 := by
      unfold mvAt mvOf
      split <;> simp
    have ih := moves_len (b := b) l
    rw [List.flatMap_cons, List.length_append, List.length_cons]
    omega
theorem read_bag {b : List Page} (hb : BkOk b) {n o : Nm} {rs : List Run} (hn : n ∈ countedL b) (e : deedAt b n = .read o rs) : o ∈ b.map Page.nm ∧ ∃ f t m, deedAt b o = .bag f t m := by
  obtain ⟨p, hp, rfl, hc⟩ := co_in hn
  rw [deedAt_mem hb.nd hp] at e
  unfold isCo at hc
  rw [e] at hc
  have h2 := (Bool.and_eq_true_iff.mp hc).2
  have h3 : isW "read" (Deed.read o rs) = true := decide_eq_true rfl
  rw [h3, Bool.not_true, Bool.false_or] at h2
  have h4 : o ∈ bagsL b := of_decide_eq_true h2
  obtain ⟨q, hq, rfl⟩ := List.mem_map.mp h4
  obtain ⟨q1, q2⟩ := List.mem_filter.mp hq
  refine ⟨List.mem_map.mpr ⟨q, q1, rfl⟩, ?_⟩
  rw [deedAt_mem hb.nd q1]
  exact w_bag (Bool.and_eq_true_iff.mp q2).1
theorem sc_told_moves : FnScope ["book", "deeds", "found", "name", "deed", "bag"] ["book"] (defScope (topS 60)) := ⟨rfl, rfl, rfl, by decide +kernel, rfl, by decide +kernel, by decide +kernel⟩
theorem F_told_moves {g : Gv} (G : GF g) : Fn g 4 "told_moves" (spD (fun b : List Page => [bkA b]) BkOk fun b => .new ((mvSort (movesL b)).map mvD)) := by
  refine fn_def (k := 3) G.d_told_moves sc_told_moves (fun _ => rfl) fun b hb => ?_
  have hl := hb.len
  have hc := co_len hl
  show Sd _ _ [_, _, _, _] _
  refine sd_dict 1 G.b_dict (wa_cons (w_name 0 rfl (wa_nil ⟨_, bkK b, rfl, .inl (by exact congrArg Ar.nic (bkD_pr b)), bkK_nd hb.nd, fun p => ?_⟩)))
  refine sd_own 2 (w_lst (wa_nil ⟨[], rfl, by exact Nat.le_of_ble_eq_true rfl, ⟨_, rfl, fun q => ?_⟩⟩))
  refine sd_for (.one 3) (fun Γ' => ∃ x y z, Γ' = [.nic (bkD b), .dic p (bkK b), .own q ((movesL b).map mvD), x, y, z])
    (wi_tup (w_callD (F_counted G) (wa_cons (w_name 0 rfl (wa_nil ⟨_, agis_nic (agis_nil), hl, ⟨_, rfl, fun k Γk => ∃ x y z, Γk = [.nic (bkD b), .dic p (bkK b), .own q ((((countedL b).take k).flatMap (mvAt b)).map mvD), x, y, z], ⟨_, _, _, rfl⟩, ?_, ?_⟩⟩))))) ?_ (tg_one 3)
  · intro k d Γk hk ⟨x, y, z, e⟩
    subst e
    obtain ⟨n, hn, rfl⟩ := map_at hk
    have hm := List.mem_of_getElem? hn
    have hkl : k < (countedL b).length := (List.getElem?_eq_some_iff.mp hn).1
    have st : (((countedL b).take (k + 1)).flatMap (mvAt b)).map mvD = (((countedL b).take k).flatMap (mvAt b)).map mvD ++ (mvAt b n).map mvD := by
      rw [take_next hn, List.flatMap_append, List.map_append, List.flatMap_cons, List.flatMap_nil, List.append_nil]
    have hlen : ((((countedL b).take k).flatMap (mvAt b)).map mvD).length ≤ 1000000 := by
      rw [List.length_map]
      have h1 := moves_len (b := b) ((countedL b).take k)
      rw [List.length_take] at h1
      omega
    refine ⟨trivial, ?_⟩
    show Sd _ [.nic (bkD b), .dic p (bkK b), .own q _, .dat (nmD n), y, z] [_, _] _
    refine sd_dat 4 (w_dget (w_name 1 rfl (w_name 3 rfl ⟨_, 1, _, nmK n, _, rfl, rfl, rfl, lk_book (co_mem hm), ⟨_, rfl, ?_⟩⟩)))
    generalize hd : deedAt b n = d
    have hmv : mvAt b n = mvOf b n d := by
      unfold mvAt
      rw [hd]
    refine sd_ifM (fun Γ' => ∃ x y z, Γ' = [.nic (bkD b), .dic p (bkK b), .own q ((((countedL b).take (k + 1)).flatMap (mvAt b)).map mvD), x, y, z]) (wt_cmp d_eq (w_ixk 0 (w_name 4 rfl ⟨_, _, (.inl rfl), (deedL_word _), (w_str ⟨_, ⟨_, _, rfl, rfl, (by first | rfl | decide +kernel | exact sh_tx _ | exact sh_word _ | exact sh_nm _ | exact sh_deed _ | exact sh_page _ | exact sh_runs _ | exact sh_road _ _ | exact sh_roads _ | exact sh_names _ | exact sh_namesT _ | exact sh_txs _), (by first | rfl | decide +kernel | exact sh_tx _ | exact sh_word _ | exact sh_nm _ | exact sh_deed _ | exact sh_page _ | exact sh_runs _ | exact sh_road _ _ | exact sh_roads _ | exact sh_names _ | exact sh_namesT _ | exact sh_txs _), rfl⟩, ⟨fun h => ?a, fun h => sd_ifM (fun Γ' => ∃ x y z, Γ' = [.nic (bkD b), .dic p (bkK b), .own q ((((countedL b).take (k + 1)).flatMap (mvAt b)).map mvD), x, y, z]) (wt_cmp d_eq (w_ixk 0 (w_name 4 rfl ⟨_, _, (.inl rfl), (deedL_word _), (w_str ⟨_, ⟨_, _, rfl, rfl, (by first | rfl | decide +kernel | exact sh_tx _ | exact sh_word _ | exact sh_nm _ | exact sh_deed _ | exact sh_page _ | exact sh_runs _ | exact sh_road _ _ | exact sh_roads _ | exact sh_names _ | exact sh_namesT _ | exact sh_txs _), (by first | rfl | decide +kernel | exact sh_tx _ | exact sh_word _ | exact sh_nm _ | exact sh_deed _ | exact sh_page _ | exact sh_runs _ | exact sh_road _ _ | exact sh_roads _ | exact sh_names _ | exact sh_namesT _ | exact sh_txs _), rfl⟩, ⟨fun h2 => ?b, fun h2 => sd_nil ⟨.dat (nmD n), .dat (deedD d), z, ?c⟩⟩⟩)⟩))) (fun Γ' e => sd_nil e)⟩⟩)⟩))) (fun Γ' e => sd_nil e)
    case a =>
      have h' := tW h
      clear h
      obtain ⟨f, t, rs, rfl⟩ := w_move h'
      refine sd_append 2 rfl (wa_cons (w_tup (wa_cons (w_name 3 rfl (wa_cons (w_name 3 rfl (wa_cons (w_ixk 1 (w_name 4 rfl ⟨_, _, (.inl rfl), rfl, (wa_cons (w_ixk 2 (w_name 4 rfl ⟨_, _, (.inl rfl), rfl, (wa_cons (w_ixk 3 (w_name 4 rfl ⟨_, _, (.inl rfl), rfl, (wa_nil ⟨[_, _, _, _, _], rfl, by exact Nat.le_of_ble_eq_true rfl, (wa_nil ⟨_, _, rfl, rfl, hlen, sd_nil ⟨.dat (nmD n), .dat (deedD (.move f t rs)), z, ?_⟩⟩)⟩)⟩)))⟩)))⟩)))))))))
      rw [st, hmv] <;> rfl
    case b =>
      have h' := tW h2
      clear h h2
      obtain ⟨o, rs, rfl⟩ := w_read h'
      obtain ⟨ho, f, t, m, hbag⟩ := read_bag hb hm hd
      refine sd_dat 5 (w_dget (w_name 1 rfl (w_ixk 1 (w_name 4 rfl ⟨_, _, (.inl rfl), rfl, ⟨_, 1, _, nmK o, _, rfl, rfl, rfl, lk_book ho, ⟨_, rfl, ?_⟩⟩⟩))))
      rw [hbag]
      refine sd_append 2 rfl (wa_cons (w_tup (wa_cons (w_ixk 1 (w_name 4 rfl ⟨_, _, (.inl rfl), rfl, (wa_cons (w_name 3 rfl (wa_cons (w_ixk 1 (w_name 5 rfl ⟨_, _, (.inl rfl), rfl, (wa_cons (w_ixk 2 (w_name 5 rfl ⟨_, _, (.inl rfl), rfl, (wa_cons (w_ixk 2 (w_name 4 rfl ⟨_, _, (.inl rfl), rfl, (wa_nil ⟨[_, _, _, _, _], rfl, by exact Nat.le_of_ble_eq_true rfl, (wa_nil ⟨_, _, rfl, rfl, hlen, sd_nil ⟨.dat (nmD n), .dat (deedD (.read o rs)), .dat (deedD (.bag f t m)), ?_⟩⟩)⟩)⟩)))⟩)))⟩)))))⟩)))))
      have e1 : mvAt b n = [⟨o, n, f, t, rs⟩] := by
        rw [hmv]
        show [(⟨o, n, frT (deedAt b o), toT (deedAt b o), rs⟩ : Mv)] = _
        rw [hbag] <;> rfl
      rw [st, e1] <;> rfl
    case c =>
      have h1' := tW h
      have h2' := tW h2
      have e : mvAt b n = [] := by
        rw [hmv]
        cases d with
        | move f t rs => exact absurd h1' (by rw [show isW "move" (Deed.move f t rs) = true from decide_eq_true rfl]; decide)
        | read o rs => exact absurd h2' (by rw [show isW "read" (Deed.read o rs) = true from decide_eq_true rfl]; decide)
        | bag _ _ _ => rfl
        | count _ _ => rfl
        | void _ => rfl
      rw [st, e, List.map_nil, List.append_nil] <;> rfl
  · intro Γ' ⟨x, y, z, e⟩
    rw [List.length_map, List.take_length] at e
    exact ⟨x, y, z, e⟩
  · intro Γ' ⟨x, y, z, e⟩
    subst e
    refine sd_ret (w_callB c_sorted G.b_sorted (wa_cons (w_name 2 rfl (wa_nil ⟨_, ⟨_, _, rfl, .inr (.inr ⟨_, 2, rfl, rfl⟩), PySem.W.AllAlike.of alike_mv, PySem.W.Sortable.tuples (fun m => ⟨_, _, rfl⟩), fun d hd => ?_, rfl⟩, ret_new (congrArg Ar.new (sort_mv _))⟩))))
    obtain ⟨m, _, rfl⟩ := List.mem_map.mp hd
    exact mv_depth m
def stepsL (b : List Page) (n : Note) : List Mv := (mvSort (movesL b)).filter fun m => (placeL m.rs n 0).isSome
theorem sc_steps : FnScope ["book", "note", "found", "moment", "name", "one", "other", "runs"] ["book", "note"] (defScope (topS 61)) := ⟨rfl, rfl, rfl, by decide +kernel, rfl, by decide +kernel, by decide +kernel⟩
theorem F_steps {g : Gv} (G : GF g) : Fn g 5 "steps" (spD (fun i : List Page × Note => [bkA i.1, .dat (noteD i.2)]) (fun i => BkOk i.1) fun i => .dat (.tuple ((stepsL i.1 i.2).map stD))) := by
  refine fn_def (k := 4) G.d_steps sc_steps (fun _ => rfl) fun i hi => ?_
  obtain ⟨b, nt⟩ := i
  have hb : BkOk b := hi
  have hml : (mvSort (movesL b)).length ≤ 1000 := by
    unfold mvSort
    rw [List.length_mergeSort]
    exact Nat.le_trans (moves_len _) (co_len hb.len)
  show Sd _ _ [_, _, _] _
  refine sd_own 2 (w_lst (wa_nil ⟨[], rfl, by exact Nat.le_of_ble_eq_true rfl, ⟨_, rfl, fun q => ?_⟩⟩))
  refine sd_for (.many [3, 4, 5, 6, 7]) (fun Γ' => ∃ a b' c d e, Γ' = [.nic (bkD b), .dat (noteD nt), .own q ((stepsL b nt).map stD), a, b', c, d, e])
    (wi_lst (w_callD (F_told_moves G) (wa_cons (w_name 0 rfl (wa_nil ⟨_, agis_nic (agis_nil), hb, ⟨_, .inl rfl, fun k Γk => ∃ a b' c d e, Γk = [.nic (bkD b), .dat (noteD nt), .own q ((((mvSort (movesL b)).take k).filter fun m => (placeL m.rs nt 0).isSome).map stD), a, b', c, d, e], ⟨_, _, _, _, _, rfl⟩, ?_, ?_⟩⟩))))) ?_ (tg_five 3 4 5 6 7)
  · intro k d Γk hk ⟨a1, a2, a3, a4, a5, e⟩
    subst e
    obtain ⟨m, hm, rfl⟩ := map_at hk
    have hkl : k < (mvSort (movesL b)).length := (List.getElem?_eq_some_iff.mp hm).1
    have hlen : ((((mvSort (movesL b)).take k).filter fun m => (placeL m.rs nt 0).isSome).map stD).length ≤ 1000000 := by
      rw [List.length_map]
      have h1 := List.length_filter_le (fun m => (placeL m.rs nt 0).isSome) ((mvSort (movesL b)).take k)
      rw [List.length_take] at h1
      omega
    have st := filter_snoc (fun m : Mv => (placeL m.rs nt 0).isSome) hm
    refine ⟨⟨_, rfl, rfl⟩, ?_⟩
    show Sd _ [.nic (bkD b), .dat (noteD nt), .own q _, .dat (nmD m.mo), .dat (nmD m.nm), .dat (.str m.f.1), .dat (.str m.t.1), .dat (runsD m.rs)] [_] _
    refine sd_ifM (fun Γ' => ∃ a b' c d e, Γ' = [.nic (bkD b), .dat (noteD nt), .own q ((((mvSort (movesL b)).take (k + 1)).filter fun m => (placeL m.rs nt 0).isSome).map stD), a, b', c, d, e]) (wt_w (w_callD (F_holds G) (wa_cons (w_name 7 rfl (wa_cons (w_name 1 rfl (wa_nil ⟨(_, _), agis_dat (agis_dat (agis_nil)), trivial, ⟨_, rfl, ⟨fun h => ?a, fun h => sd_nil ⟨.dat (nmD m.mo), .dat (nmD m.nm), .dat (.str m.f.1), .dat (.str m.t.1), .dat (runsD m.rs), ?b⟩⟩⟩⟩))))))) (fun Γ' e => sd_nil e)
    case a =>
      refine sd_append 2 rfl (wa_cons (w_tup (wa_cons (w_name 3 rfl (wa_cons (w_name 5 rfl (wa_cons (w_name 6 rfl (wa_cons (w_name 4 rfl (wa_nil ⟨[_, _, _, _], rfl, by exact Nat.le_of_ble_eq_true rfl, (wa_nil ⟨_, _, rfl, rfl, hlen, sd_nil ⟨.dat (nmD m.mo), .dat (nmD m.nm), .dat (.str m.f.1), .dat (.str m.t.1), .dat (runsD m.rs), ?_⟩⟩)⟩)))))))))))
      rw [st, if_pos h, List.map_append] <;> rfl
    case b =>
      have h' : (placeL m.rs nt 0).isSome = false := h
      rw [st, if_neg (by rw [h']; decide), List.append_nil]
  · intro Γ' ⟨a, b', c, d, e, h⟩
    rw [List.length_map, List.take_length] at h
    exact ⟨a, b', c, d, e, h⟩
  · intro Γ' ⟨a, b', c, d, e, h⟩
    subst h
    exact sd_ret (w_callTy c_tupleL G.b_tuple (wa_cons (w_name 2 rfl (wa_nil ⟨_, ⟨_, _, rfl, (by first | exact .inr (.inl rfl) | exact .inr (.inr ⟨_, 2, rfl, rfl⟩)), rfl⟩, (ret_dat rfl)⟩))))
def toldL (b : List Page) (n : Note) : Tx := match (stepsL b n).getLast? with
  | none => tNone
  | some m => m.t
theorem sc_told_place : FnScope ["book", "note", "found"] ["book", "note"] (defScope (topS 62)) := ⟨rfl, rfl, rfl, by decide +kernel, rfl, by decide +kernel, by decide +kernel⟩
theorem F_told_place {g : Gv} (G : GF g) : Fn g 6 "told_place" (spD (fun i : List Page × Note => [bkA i.1, .dat (noteD i.2)]) (fun i => BkOk i.1) fun i => .dat (.str (toldL i.1 i.2).1)) := by
  refine fn_def (k := 5) G.d_told_place sc_told_place (fun _ => rfl) fun i hi => ?_
  obtain ⟨b, nt⟩ := i
  have hb : BkOk b := hi
  show Sd _ _ [_, _, _] _
  refine sd_dat 2 (w_callD (F_steps G) (wa_cons (w_name 0 rfl (wa_cons (w_name 1 rfl (wa_nil ⟨(_, _), agis_nic (agis_dat (agis_nil)), hb, ⟨_, rfl, ?_⟩⟩))))))
  have case0 : ∀ k, PyData.eqv (.int ((stepsL b nt).map stD).length) (.int 0) = k → decide ((stepsL b nt) = []) = k := fun k h => by
    rw [eqv_int, List.length_map] at h
    rw [← h, decide_eq_decide, ← List.length_eq_zero_iff]
    omega
  refine sd_ifB (wt_cmp d_eq (w_callB c_len G.b_len (wa_cons (w_name 2 rfl (wa_nil ⟨_, .inl ⟨_, _, rfl, .inl rfl, rfl⟩, (w_int ⟨_, ⟨_, _, rfl, rfl, (by first | rfl | decide +kernel | exact sh_tx _ | exact sh_word _ | exact sh_nm _ | exact sh_deed _ | exact sh_page _ | exact sh_runs _ | exact sh_road _ _ | exact sh_roads _ | exact sh_names _ | exact sh_namesT _ | exact sh_txs _), (by first | rfl | decide +kernel | exact sh_tx _ | exact sh_word _ | exact sh_nm _ | exact sh_deed _ | exact sh_page _ | exact sh_runs _ | exact sh_road _ _ | exact sh_roads _ | exact sh_names _ | exact sh_namesT _ | exact sh_txs _), rfl⟩, ⟨fun h => sd_ret (w_gstr G.c_NOWHERE (ret_dat ?a)), fun h => ?b⟩⟩)⟩)))))
  case a =>
    have e := of_decide_eq_true (case0 _ h)
    show PyData.str "none" = .str (toldL b nt).1
    unfold toldL
    rw [e] <;> rfl
  case b =>
    have e := of_decide_eq_false (case0 _ h)
    obtain ⟨m, hm⟩ : ∃ m, (stepsL b nt).getLast? = some m := by
      cases q : (stepsL b nt).getLast? with
      | none => exact absurd (List.getLast?_eq_none_iff.mp q) e
      | some m => exact ⟨m, rfl⟩
    have hm2 : ((stepsL b nt).map stD).getLast? = some (stD m) := by rw [List.getLast?_map, hm] <;> rfl
    refine sd_ret (w_ixk 2 (w_ix (w_name 2 rfl (w_neg (w_int ⟨_, rfl, ⟨_, _, _, .inl rfl, rfl, atI_last hm2, ⟨_, _, .inl rfl, rfl, ret_dat ?_⟩⟩⟩)))))
    show PyData.str m.t.1 = .str (toldL b nt).1
    unfold toldL
    rw [hm]
end K83
set_option maxRecDepth 100000
set_option maxHeartbeats 4000000
namespace K83
open PySem PySem.Spec PyProof.Rows L2

/-! ## a written dict of the module whose values are defs -/
structure TblAt (g : Gv) (a : Addr) (ds : List (Str × Str)) : Prop where
  dict : ∃ es n, KDict g.K g.w a es n
  vals : ∀ q ∈ ds, ∃ (u : Value) (f : Addr), PySem.W.nsIn g.K a q.1 = some (some u) ∧ RelV (.ref f) u ∧ g.mg q.2 = some (.ref f)
def Tbl (g : Gv) (x : Str) (ds : List (Str × Str)) : Prop := ∃ a, GAdr g x a ∧ TblAt g a ds
section
variable {c : Ct} {Γ : List Sv} {a b e : Expr} {es : List Expr} {pos p : Pos} {Φ : Ar → List Sv → Prop} {ΦT : Bool → List Sv → Prop}
/-- k not in D, k there -/
theorem wt_notInTbl {x : Str} {ds : List (Str × Str)} (G : Tbl c.g x ds) (h : W c Γ a fun r1 Γ1 => ∃ q ∈ ds, r1.weak = .dat (.str q.1) ∧ ΦT false Γ1) (hg : c.sc.names.lookup x = some .globalImplicit := by rfl) (hd : (x == ("__debug__" : Str)) = false := by decide)
    (hm : behindInMarks .NotIn (.Name x p) = false := by first | rfl | exact nomark _) : WT c Γ (.Compare a [.NotIn] [.Name x p] pos) ΦT := fun X hX H0 σ H S Q q => by
  obtain ⟨ad, hga, ⟨es, n, D⟩, hv⟩ := G
  have D' : KDict X.K X.w ad es n := by rw [hX.K, hX.w]; exact D
  refine (pt_cmpR (op_notIn_kd D') pe_we (pe_glob (v := .ref ad) (hX.gl hg) (by rw [hX.mg]; exact hga) rfl hd) hm).wt ?_
  refine h X hX H0 σ H S _ fun H0' r1 Γ1 v1 H1 s ⟨w, hw, e1, f⟩ S1 o1 => ?_
  have o1' := o1.weaken
  rw [e1] at o1'
  obtain ⟨u, f0, h1, _, _⟩ := hv w hw
  exact ⟨w.1, some u, Is.strInv o1', rfl, by rw [hX.K]; exact h1, false, rfl, q H0' false Γ1 H1 s f S1⟩
/-- D[k] -/
theorem w_ixTbl {x : Str} {ds : List (Str × Str)} (G : Tbl c.g x ds) (h : W c Γ b fun r1 Γ1 => ∃ q ∈ ds, r1 = .dat (.str q.1) ∧ ∀ f, c.g.mg q.2 = some (.ref f) → Φ (.raw (.ref f)) Γ1) (hg : c.sc.names.lookup x = some .globalImplicit := by rfl) (hd : (x == ("__debug__" : Str)) = false := by decide)
    (hs : PlainIx b := by exact fun _ _ => rfl) : W c Γ (.Subscript (.Name x p) b pos) Φ := fun X hX H0 σ H S Q q => by
  obtain ⟨ad, hga, ⟨es, n, D⟩, hv⟩ := G
  refine (pe_ix ix_kdict (pe_glob (v := .ref ad) (hX.gl hg) (by rw [hX.mg]; exact hga) rfl hd) pe_we hs).we ?_
  refine h X hX H0 σ H S _ fun H0' r1 Γ1 v1 H1 s ⟨w, hw, e1, f⟩ S1 o1 => ?_
  subst e1
  obtain ⟨u, f0, h1, h2, h3⟩ := hv w hw
  exact ⟨ad, w.1, .ref f0, rfl, Is.strInv o1, ⟨es, n, u, by rw [hX.K]; exact D.at_, by rw [hX.w]; exact D.lit, by rw [hX.K]; exact h1, h2⟩, q H0' _ Γ1 _ H1 s (f f0 h3) S1 rfl⟩
/-- f(..), f a local that holds the def y -/
theorem w_callLoc {ι : Type} {k : Nat} {x y : Str} {f : Addr} {args : ι → List Ar} {pre : ι → Prop} {post : ι → Ar → Prop} (i : Nat) (F : Fn c.g k y (spT args pre post)) (hf : c.g.mg y = some (.ref f)) (hi : Γ[i]? = some (.val (.ref f)))
    (h : WA c Γ (e :: es) fun rs Γ1 => ∃ i, AgIs Γ1 rs (args i) ∧ pre i ∧ ∀ r, post i r → Φ r Γ1)
    (hk : k ≤ c.k := by exact Nat.le_of_ble_eq_true rfl) (hN : c.N[i]? = some x := by rfl) (hv : Vis c.sc x := by first | exact Or.inl rfl | exact Or.inr (Or.inl rfl) | exact Or.inr (Or.inr rfl)) (hdb : (x == ("__debug__" : Str)) = false := by decide) (hcd : (x == ("__classdict__" : Str)) = false := by decide)
    (he : ∀ env : Env, starEach (e :: es) env = (false, eval e env) :: starEach es env := by intro _; rfl) (hpl : ∀ env : Env, (backTo pos (starEach es env)).any (·.1) = false := by intro _; rfl) : W c Γ (.Call (.Name x p) (e :: es) [] pos) Φ := fun X hX H0 σ H S Q q => by
  obtain ⟨f', fd, ps, F, gm, kp, bd⟩ := F.ex
  have ef : f' = f := by
    rw [gm] at hf
    cases hf
    rfl
  subst ef
  have F' : FnOk X.prog X.w X.K X.mg X.base CX0 k f' fd ps (spT args pre post) := by
    rw [hX.P, hX.w, hX.K, hX.mg, hX.base]
    exact F
  refine (pe_callL (ds := []) (dvs := []) F' (hX.room.mono hk) (hX.at_ hN) (hX.vis hv) (by rw [hX.K]; exact kp) (by rw [hX.K]; exact bd) .nil (pass0 (X := X)) pa_wa hdb hcd (he X.env) (hpl X.env)).we ?_
  refine ⟨S.slots i _ hi, ?_⟩
  refine h X hX H0 σ H S _ fun H0' rs Γ' vs H' s ⟨i, ag, hp, hq⟩ S' o => ?_
  refine ⟨i, hp, by rw [List.append_nil]; exact ag.ok S' o, fun r v H'' hr s' rk => ?_⟩
  exact q H0' r Γ' v H'' s (hq r hr) (S'.same s') (rk.ar S' (S'.same s'))
end
end K83
set_option maxRecDepth 100000
set_option maxHeartbeats 4000000
namespace K83
open PySem PySem.Spec PyProof.Rows L2

/-! ## defs that change their first argument -/
def AgB (H0 H : Hp) (v : V) : Ar → Prop
  | .dat d => Is H v d
  | .lst ds => ∃ p vs, v = .ref p ∧ H0 p = some (.lst vs) ∧ IsAll H vs ds
  | .nic ds => ∃ p vs, v = .ref p ∧ Nic H0 p vs ∧ IsAll H vs ds
  | _ => False
abbrev AgBs (H0 H : Hp) : List V → List Ar → Prop := Paired fun v r => AgB H0 H v r
/-- what comes, the own thing at p -/
def RsO (H0 H H' : Hp) (p : Addr) (v : V) : Ar → Prop
  | .dat d => Is H' v d
  | .new ds => ∃ q vs, v = .ref q ∧ H0 q = none ∧ q ≠ p ∧ H' q = some (.lst vs) ∧ IsAll H' vs ds
  | .lst ds => ∃ q vs, v = .ref q ∧ q ≠ p ∧ H' q = some (.lst vs) ∧ IsAll H' vs ds
  | _ => False
/-- own i: the first argument; args i: the others -/
def spO {ι : Type} (own : ι → Sv) (args : ι → List Ar) (pre : ι → Prop) (post : ι → Ar → Sv → Prop) : Sp := fun vs H Q _ => ∃ (i : ι) (v0 : V) (vs' : List V) (H0 : Hp) (p : Addr), vs = v0 :: vs' ∧ pre i ∧ (own i).ptr = some p ∧ Same H0 H ∧ SvOk H0 H (some (some v0)) (own i) ∧ AgBs H0 H vs' (args i) ∧
  ∀ r s' v H0' H', post i r s' → Same H0 H0' → Same H0' H' → SvOk H0' H' (some (some v0)) s' → RsO H0 H H' p v r → Q v H'
/-- the part of a slot's word that is told of the base comes from the old word -/
theorem SvOk.low {H0 H Hc H' : Hp} {o : Option (Option V)} {s s' : Sv} (h : SvOk H0 H o s) (h' : SvOk Hc H' o s') (k : s.key = s'.key) (e : s'.ptr = s.ptr) (np : s.ptr ≠ none) (b : Same H0 Hc) : SvOk H0 H' o s' := by
  cases s <;> cases s' <;> simp only [Sv.key, Sv.ptr, ne_eq, reduceCtorEq, not_true_eq_false, not_false_eq_true, Option.some.injEq, Sv.feed.injEq, Sv.fex.injEq, Sv.led.injEq, and_true, true_and] at k e np <;> try trivial
  case own.own p ds p' ds' =>
    subst e
    obtain ⟨e1, h0, _⟩ := h
    obtain ⟨_, _, r⟩ := h'
    exact ⟨e1, h0, r⟩
  case own.dic p ds p' ds' =>
    subst e
    obtain ⟨e1, h0, _⟩ := h
    obtain ⟨_, _, r⟩ := h'
    exact ⟨e1, h0, r⟩
  case own.dks p ds p' ds' =>
    subst e
    obtain ⟨e1, h0, _⟩ := h
    obtain ⟨_, _, r⟩ := h'
    exact ⟨e1, h0, r⟩
  case dic.own p ds p' ds' =>
    subst e
    obtain ⟨e1, h0, _⟩ := h
    obtain ⟨_, _, r⟩ := h'
    exact ⟨e1, h0, r⟩
  case dic.dic p ds p' ds' =>
    subst e
    obtain ⟨e1, h0, _⟩ := h
    obtain ⟨_, _, r⟩ := h'
    exact ⟨e1, h0, r⟩
  case dic.dks p ds p' ds' =>
    subst e
    obtain ⟨e1, h0, _⟩ := h
    obtain ⟨_, _, r⟩ := h'
    exact ⟨e1, h0, r⟩
  case dks.own p ds p' ds' =>
    subst e
    obtain ⟨e1, h0, _⟩ := h
    obtain ⟨_, _, r⟩ := h'
    exact ⟨e1, h0, r⟩
  case dks.dic p ds p' ds' =>
    subst e
    obtain ⟨e1, h0, _⟩ := h
    obtain ⟨_, _, r⟩ := h'
    exact ⟨e1, h0, r⟩
  case dks.dks p ds p' ds' =>
    subst e
    obtain ⟨e1, h0, _⟩ := h
    obtain ⟨_, _, r⟩ := h'
    exact ⟨e1, h0, r⟩
  case feed.feed f S n f' S' n' =>
    obtain ⟨k1, k2⟩ := k
    subst k1; subst k2
    obtain ⟨e1, h0, a, r, ns, h1, h2, _, _, _, h6⟩ := h
    obtain ⟨_, _, a', r', ns', g1, g2, g3, g4, g5, _⟩ := h'
    exact ⟨e1, h0, a', r', ns, g1, h2, g3, g4, g5, h6⟩
  case fex.fex f S a r ns f' S' a' r' ns' =>
    obtain ⟨k1, k2, k3⟩ := k
    subst k1; subst k2; subst k3
    obtain ⟨e1, h0, h1, h2⟩ := h
    obtain ⟨_, _, g1, _⟩ := h'
    exact ⟨e1, h0, g1, h2⟩
  case led.led C p q f1 f2 d ds C' p' q' f1' f2' d' ds' =>
    obtain ⟨k1, k2, k3, k4, k5, k6⟩ := k
    subst k1; subst k2; subst k3; subst k4; subst k5; subst k6
    obtain ⟨e1, h0, ⟨dx, v, h1, h2⟩, _⟩ := h
    obtain ⟨_, _, ⟨dx', v', g1, g2⟩, r⟩ := h'
    have := b _ _ h1
    rw [this] at g1
    cases g1
    exact ⟨e1, h0, ⟨dx, v, h1, g2⟩, r⟩
theorem start_knO {H0 H : Hp} {N : List Str} {v0 : V} {vs : List V} {s : Sv} {as : List Ar} (hb : Same H0 H) (h0 : SvOk H0 H (some (some v0)) s) (h : AgBs H0 H vs as) (hl : as.length + 1 ≤ N.length) : Kn H0 (s :: startG (N.length - 1) as) (L2.start N (v0 :: vs)) H := by
  have hlen : vs.length = as.length := Paired.length h
  have est : L2.start N (v0 :: vs) = some v0 :: (vs.map some ++ List.replicate (N.length - 1 - as.length) none) := by
    unfold L2.start
    rw [List.map_cons, List.cons_append, List.length_cons, hlen]
    congr 3
    omega
  have noptr : ∀ (m : Nat) (t : Sv), (startG (N.length - 1) as)[m]? = some t → t.ptr = none := fun m t hm => by
    unfold startG at hm
    rcases List.mem_append.mp (List.mem_of_getElem? hm) with z | z
    · obtain ⟨r, _, e⟩ := List.mem_map.mp z
      subst e
      cases r <;> rfl
    · rw [(List.mem_replicate.mp z).2] <;> rfl
  refine ⟨?_, hb, fun i t hi => ?_, fun i j si sj p hi hj pi pj => ?_⟩
  · rw [est, List.length_cons, List.length_cons]
    unfold startG
    rw [List.length_append, List.length_append, List.length_map, List.length_map, List.length_replicate, List.length_replicate, hlen]
  · rw [est]
    cases i with
    | zero =>
      cases hi
      exact h0
    | succ i =>
      have hi' : (startG (N.length - 1) as)[i]? = some t := hi
      show SvOk H0 H ((vs.map some ++ List.replicate (N.length - 1 - as.length) none)[i]?) t
      unfold startG at hi'
      by_cases hlt : i < as.length
      · rw [List.getElem?_append_left (by simpa using hlt), List.getElem?_map, List.getElem?_eq_getElem hlt] at hi'
        have key : ∀ {vs : List V} {as : List Ar} {i : Nat} {r : Ar}, AgBs H0 H vs as → as[i]? = some r → ∃ v, vs[i]? = some v ∧ AgB H0 H v r := by
          intro vs as i r h
          induction h generalizing i with
          | nil => intro e; simp at e
          | cons h1 _ ih =>
            intro e
            cases i with
            | zero => cases e; exact ⟨_, rfl, h1⟩
            | succ i => exact ih e
        obtain ⟨v, hv, o⟩ := key h (List.getElem?_eq_getElem hlt)
        have hs : (vs.map some ++ List.replicate (N.length - 1 - as.length) none)[i]? = some (some v) := by
          have hiv : i < vs.length := (List.getElem?_eq_some_iff.mp hv).1
          rw [List.getElem?_append_left (by simpa using hiv), List.getElem?_map, hv] <;> rfl
        have e : t = as[i].sv := (Option.some.inj hi').symm
        subst e
        rw [hs]
        generalize as[i] = r at o
        cases r with
        | dat d => exact ⟨v, rfl, o⟩
        | lst ds =>
          obtain ⟨p, us, rfl, hp, hi⟩ := o
          exact ⟨p, us, rfl, hp, hi⟩
        | nic ds =>
          obtain ⟨p, us, rfl, hp, hi⟩ := o
          exact ⟨p, us, rfl, hp, hi⟩
        | raw _ => exact o.elim
        | new _ => exact o.elim
        | fz _ => exact o.elim
      · rw [List.getElem?_append_right (by simpa using hlt), List.getElem?_replicate] at hi'
        split at hi'
        · cases hi'; trivial
        · cases hi'
  · cases i with
    | zero =>
      cases j with
      | zero => rfl
      | succ j =>
        rw [noptr j sj hj] at pj
        cases pj
    | succ i =>
      rw [noptr i si hi] at pi
      cases pi
/-- a result, from what the return gives, beside the own thing -/
def RetO (Γ : List Sv) (r r' : Ar) : Prop := (∃ d, r = .dat d ∧ r' = .dat d) ∨ (∃ ds, r = .new ds ∧ r' = .new ds) ∨ (∃ ds, r = .lst ds ∧ r' = .lst ds) ∨ ∃ (q : Addr) (j : Nat) (ds : List PyData), j ≠ 0 ∧ r = .raw (.ref q) ∧ Γ[j]? = some (.own q ds) ∧ r' = .new ds
theorem RetO.ok {H H0 H0' H' : Hp} {Γ : List Sv} {σ : L2.St} {v : V} {r r' : Ar} {p : Addr} {s' : Sv} (h : RetO Γ r r') (s : Same H0 H0') (S : Kn H0' Γ σ H') (e0 : Γ[0]? = some s') (ep : s'.ptr = some p) (o : ArOk H0' H' Γ v r) : RsO H0 H H' p v r' := by
  have pin : p ∈ ptrs Γ := mem_ptrs.mpr ⟨0, s', e0, ep⟩
  rcases h with ⟨d, rfl, rfl⟩ | ⟨ds, rfl, rfl⟩ | ⟨ds, rfl, rfl⟩ | ⟨q, j, ds, hj, rfl, e, rfl⟩
  · exact o
  · obtain ⟨q, vs, e, h0, hn, h1, i⟩ := o
    exact ⟨q, vs, e, Same.free s h0, fun z => hn (z ▸ pin), h1, i⟩
  · obtain ⟨q, vs, e, hn, h1, i⟩ := o
    exact ⟨q, vs, e, fun z => hn (z ▸ pin), h1, i⟩
  · obtain ⟨_, h0, vs, h1, i⟩ := S.slots j _ e
    exact ⟨q, vs, o, Same.free s h0, fun z => hj (S.apart j 0 _ s' q e e0 rfl (by rw [ep, z])), h1, i⟩
theorem fn_okO {g : Gv} {x qual : Str} {st : Stmt} {f : Addr} {fd : FuncData} {N ps : List Str} {k : Nat} {ι : Type} {own : ι → Sv} {args : ι → List Ar} {pre : ι → Prop} {post : ι → Ar → Sv → Prop} (F : FunD g.K x qual (defArgs st) (defBody st) (defScope st) [] [] f fd) (Sc : FnScope N ps (defScope st))
    (hlen : ∀ i, (args i).length + 1 = ps.length) (hb : ∀ i, pre i → Sd ⟨g, N, defScope st, k, true, false⟩ (own i :: startG (N.length - 1) (args i)) (defBody st)
      { ret := fun r Γ' => ∃ r' s', post i r' s' ∧ RetO Γ' r r' ∧ Γ'[0]? = some s' ∧ s'.ptr = (own i).ptr ∧ s'.key = (own i).key, nx := fun Γ' => ∃ s', post i (.dat .none) s' ∧ Γ'[0]? = some s' ∧ s'.ptr = (own i).ptr ∧ s'.key = (own i).key }) :
    FnOk g.P g.w g.K g.mg g.base CX0 (k + 1) f fd ps (spO own args pre post) := by
  refine F.ok Sc (fun vs H Q E ⟨i, v0, vs', H0, p, e, _, _, _, _, ag, _⟩ => by rw [e, List.length_cons, Paired.length ag]; exact hlen i) fun cdv A outer s H vs Q E hr ⟨i, v0, vs', H0, p, e, hp, ep, sb, ho, ag, q⟩ => ?_
  subst e
  have hle : (args i).length + 1 ≤ N.length := by
    have e := congrArg List.length Sc.pre
    rw [List.length_take] at e
    rw [hlen i]
    omega
  let X : Cx := (cxOf CX0 g.P g.w g.K g.mg g.base N qual (defScope st) f cdv A outer s H E).nox
  have hX : InC ⟨g, N, defScope st, k, true, false⟩ X := ⟨rfl, rfl, rfl, rfl, rfl, rfl, Sc.nd, rfl, rfl, hr, fun _ _ => rfl, (fun z => nomatch z), rfl⟩
  refine ⟨WSs X (defBody st), PSs.nox pss_ws, ?_⟩
  -- the own slot at the end tells of the same value
  have back : ∀ {H0' H' : Hp} {σ : L2.St} {Γ : List Sv} {s' : Sv}, Same H0 H0' → Kn H0' Γ σ H' → Γ[0]? = some s' → s'.ptr = (own i).ptr → s'.key = (own i).key → SvOk H0' H' (some (some v0)) s' := fun {H0' H' σ Γ s'} sb' S e0 e1 e2 => by
    have z := S.slots 0 s' e0
    have hv : σ[0]? = some (some v0) ∨ True := .inr trivial
    generalize hown : own i = s0 at ho e1 e2 ep
    cases s0 <;> cases s' <;> simp only [Sv.key, Sv.ptr, reduceCtorEq, Option.some.injEq, Sv.feed.injEq, Sv.fex.injEq, Sv.led.injEq, and_true, true_and] at e1 e2 ep
    all_goals first
      | (subst e1; exact ⟨ho.1, z.2⟩)
      | (obtain ⟨k1, k2⟩ := e2; subst k1; subst k2; exact ⟨ho.1, z.2⟩)
      | (obtain ⟨k1, k2, k3⟩ := e2; subst k1; subst k2; subst k3; exact ⟨ho.1, z.2⟩)
      | (obtain ⟨k1, k2, k3, k4, k5, k6⟩ := e2; subst k1; subst k2; subst k3; subst k4; subst k5; subst k6; exact ⟨ho.1, z.2⟩)
  refine hb i hp X hX H0 (L2.start N (v0 :: vs')) H (start_knO sb ho ag hle) _ ⟨fun H0' r v Γ σ H' s ⟨r', s', pr, ri, e0, e1, e2⟩ S o => q r' s' v H0' H' pr s S.base (back s S e0 e1 e2) (ri.ok s S e0 (by rw [e1, ep]) o), fun H0' Γ σ H' s ⟨s', pr, e0, e1, e2⟩ S => q _ s' _ H0' H' pr s S.base (back s S e0 e1 e2) (.non), fun _ _ _ _ _ z => z.elim, fun _ _ _ _ _ z => z.elim⟩
theorem fn_defO {g : Gv} {x : Str} {st : Stmt} {N ps : List Str} {k : Nat} {ι : Type} {own : ι → Sv} {args : ι → List Ar} {pre : ι → Prop} {post : ι → Ar → Sv → Prop} (D : ∃ f fd, FunD g.K x x (defArgs st) (defBody st) (defScope st) [] [] f fd ∧ g.mg x = some (.ref f) ∧ Binds g.K fd ps []) (Sc : FnScope N ps (defScope st))
    (hlen : ∀ i, (args i).length + 1 = ps.length) (hb : ∀ i, pre i → Sd ⟨g, N, defScope st, k, true, false⟩ (own i :: startG (N.length - 1) (args i)) (defBody st)
      { ret := fun r Γ' => ∃ r' s', post i r' s' ∧ RetO Γ' r r' ∧ Γ'[0]? = some s' ∧ s'.ptr = (own i).ptr ∧ s'.key = (own i).key, nx := fun Γ' => ∃ s', post i (.dat .none) s' ∧ Γ'[0]? = some s' ∧ s'.ptr = (own i).ptr ∧ s'.key = (own i).key }) : Fn g (k + 1) x (spO own args pre post) := by
  obtain ⟨f, fd, F, gm, bd⟩ := D
  exact ⟨f, fd, ps, fn_okO F Sc hlen hb, gm, F.kp, bd⟩

/-! ### the caller -/
section
variable {c : Ct} {Γ : List Sv} {a b e : Expr} {es : List Expr} {pos p : Pos} {Φ : Ar → List Sv → Prop}
/-- the base for the callee: all but the own thing -/
def cbase (H : Hp) (p : Addr) : Hp := fun b => if b = p then none else H b
theorem cbase_ne {H : Hp} {p b : Addr} (h : b ≠ p) : cbase H p b = H b := if_neg h
theorem cbase_same (H : Hp) (p : Addr) : Same (cbase H p) H := fun b u e => by
  unfold cbase at e
  split at e
  · cases e
  · exact e
theorem AgIs.okB {H0 H : Hp} {σ : L2.St} {j : Nat} {s : Sv} {p : Addr} (S : Kn H0 Γ σ H) (hj : Γ[j]? = some s) (hp : s.ptr = some p) : ∀ {rs as : List Ar} {vs : List V}, AgIs Γ rs as → (∀ q ds, Ar.raw (.ref q) ∈ rs → (Γ[j]?).bind Sv.lst? = some (q, ds) → False) → ArAll H0 H Γ vs rs → AgBs (cbase H p) H vs as
  | _, _, _, .nil, _, .nil => .nil
  | _, _, _, .cons h t, hn, .cons o ot => .cons (by
      have pin : p ∈ ptrs Γ := mem_ptrs.mpr ⟨j, s, hj, hp⟩
      rcases h with ⟨d, rfl, rfl⟩ | ⟨ds, rfl, rfl⟩ | ⟨ds, hr, rfl⟩
      · exact o
      · obtain ⟨q, vs, e, nq, ⟨o1, h1, h2⟩, i⟩ := o
        exact ⟨q, vs, e, ⟨o1, (cbase_ne fun z => nq (by rw [z]; exact pin)).trans h1, h2⟩, i⟩
      · rcases hr with rfl | rfl | ⟨q, j2, rfl, e2⟩
        · obtain ⟨q, vs, e, _, nq, h1, i⟩ := o
          exact ⟨q, vs, e, (cbase_ne fun z => nq (by rw [z]; exact pin)).trans h1, i⟩
        · obtain ⟨q, vs, e, nq, h1, i⟩ := o
          exact ⟨q, vs, e, (cbase_ne fun z => nq (by rw [z]; exact pin)).trans h1, i⟩
        · obtain ⟨s2, g1, g2, g3⟩ := lst_at e2
          obtain ⟨vs, h1, i⟩ := g3 _ _ _ (S.slots j2 s2 g1)
          refine ⟨q, vs, o, (cbase_ne fun z => ?_).trans h1, i⟩
          have ej := S.apart j2 j s2 s q g1 hj g2 (by rw [hp, z])
          rw [ej] at e2
          exact hn q ds List.mem_cons_self e2) (AgIs.okB S hj hp t (fun q ds m => hn q ds (List.mem_cons_of_mem _ m)) ot)
theorem ne_none {H0 : Hp} {p a : Addr} {u : HO} (h0 : H0 p = none) (h : H0 a = some u) : a ≠ p := fun z => by rw [z, h0] at h; cases h
/-- the slots behind such a call -/
theorem Kn.behind {H0 H Hc' H' : Hp} {σ : L2.St} {j : Nat} {s s' : Sv} {p : Addr} (S : Kn H0 Γ σ H) (hj : Γ[j]? = some s) (hp : s.ptr = some p) (b1 : Same (cbase H p) Hc') (b2 : Same Hc' H') (ok : SvOk Hc' H' σ[j]? s') (ek : s.key = s'.key) (ep : s'.ptr = s.ptr) : Kn H0 (Γ.set j s') σ H' := by
  have h0p : H0 p = none := (S.own_at (mem_ptrs.mpr ⟨j, s, hj, hp⟩)).1
  have keep : ∀ a u, a ≠ p → H a = some u → H' a = some u := fun a u hne e => b2 _ _ (b1 _ _ ((cbase_ne hne).trans e))
  have hjl : j < Γ.length := (List.getElem?_eq_some_iff.mp hj).1
  have base : Same H0 H' := fun a u e => keep a u (ne_none h0p e) (S.base a u e)
  have tk : Tk H H' := fun a xs e => keep a _ (fun z => by
    obtain ⟨_, u, hu, hn⟩ := S.own_at (mem_ptrs.mpr ⟨j, s, hj, hp⟩)
    rw [z, hu] at e
    cases e
    exact hn _ rfl) e
  have h0c : Same H0 Hc' := fun a u e => b1 _ _ ((cbase_ne (ne_none h0p e)).trans (S.base a u e))
  refine ⟨by rw [List.length_set]; exact S.len, base, fun i t hi => ?_, fun i k si sk q hi hk pi pk => ?_⟩
  · by_cases e : j = i
    · subst e
      rw [List.getElem?_set_self hjl] at hi
      cases hi
      exact (S.slots j s hj).low ok ek ep (by rw [hp]; simp) h0c
    · rw [List.getElem?_set_ne e] at hi
      have z := S.slots i t hi
      refine z.grow tk fun q hq => ?_
      obtain ⟨_, u, hu, _⟩ := z.own_at hq
      have hqp : q ≠ p := fun w => e (S.apart j i s t p hj hi hp (by rw [hq, w]))
      rw [hu]
      exact keep q u hqp hu
  · have inn : ∀ (m : Nat) (t : Sv), (Γ.set j s')[m]? = some t → t.ptr = some q → ∃ t', Γ[m]? = some t' ∧ t'.ptr = some q := fun m t hm ht => by
      by_cases e : j = m
      · subst e
        rw [List.getElem?_set_self hjl] at hm
        cases hm
        exact ⟨s, hj, by rw [← ep]; exact ht⟩
      · rw [List.getElem?_set_ne e] at hm
        exact ⟨t, hm, ht⟩
    obtain ⟨t1, h1, q1⟩ := inn i si hi pi
    obtain ⟨t2, h2, q2⟩ := inn k sk hk pk
    exact S.apart i k t1 t2 q h1 h2 q1 q2
/-- what the callee's result is to the caller -/
def CrO (Γ : List Sv) (p : Addr) : Ar → Prop
  | .lst _ => ptrs Γ = [p]
  | _ => True
theorem RsO.ar {H0 H H' : Hp} {σ : L2.St} {v : V} {r : Ar} {p : Addr} {Γ' : List Sv} (S : Kn H0 Γ σ H) (pin : p ∈ ptrs Γ) (h : RsO (cbase H p) H H' p v r) (ep : ∀ q, q ∈ ptrs Γ' → q ∈ ptrs Γ) (cr : CrO Γ p r) : ArOk H0 H' Γ' v r := by
  cases r with
  | dat d => exact h
  | new ds =>
    obtain ⟨q, vs, e, n, hne, h1, i⟩ := h
    have hn : H q = none := (cbase_ne hne).symm.trans n
    exact ⟨q, vs, e, Same.free S.base hn, fun z => S.not_own hn (ep q z), h1, i⟩
  | lst ds =>
    obtain ⟨q, vs, e, hne, h1, i⟩ := h
    refine ⟨q, vs, e, fun z => hne ?_, h1, i⟩
    have hm := ep q z
    have hc : ptrs Γ = [p] := cr
    rw [hc] at hm
    exact List.mem_singleton.mp hm
  | _ => exact h.elim
theorem ptrs_set {j : Nat} {s s' : Sv} (hj : Γ[j]? = some s) (ep : s'.ptr = s.ptr) : ∀ q, q ∈ ptrs (Γ.set j s') → q ∈ ptrs Γ := fun q hq => by
  obtain ⟨m, t, hm, ht⟩ := mem_ptrs.mp hq
  have hjl : j < Γ.length := (List.getElem?_eq_some_iff.mp hj).1
  by_cases e : j = m
  · subst e
    rw [List.getElem?_set_self hjl] at hm
    cases hm
    exact mem_ptrs.mpr ⟨j, s, hj, by rw [← ep]; exact ht⟩
  · rw [List.getElem?_set_ne e] at hm
    exact mem_ptrs.mpr ⟨m, t, hm, ht⟩
/-- f(x, ..), x one's own at the slot j -/
theorem w_callO {ι : Type} {k : Nat} {x : Str} {own : ι → Sv} {args : ι → List Ar} {pre : ι → Prop} {post : ι → Ar → Sv → Prop} (j : Nat) (F : Fn c.g k x (spO own args pre post))
    (h : WA c Γ (e :: es) fun rs Γ1 => ∃ (i : ι) (v0 : V) (rs' : List Ar) (p : Addr), rs = .raw v0 :: rs' ∧ Γ1[j]? = some (own i) ∧ (∀ H0 H o, SvOk H0 H o (own i) → o = some (some v0)) ∧ (own i).ptr = some p ∧ AgIs Γ1 rs' (args i) ∧ (∀ q ds, Ar.raw (.ref q) ∈ rs' → (Γ1[j]?).bind Sv.lst? = some (q, ds) → False) ∧ pre i ∧ ∀ r s', post i r s' → s'.key = (own i).key ∧ s'.ptr = (own i).ptr ∧ CrO Γ1 p r ∧ Φ r (Γ1.set j s'))
    (hk : k ≤ c.k := by exact Nat.le_of_ble_eq_true rfl) (hg : c.sc.names.lookup x = some .globalImplicit := by rfl) (hdb : (x == ("__debug__" : Str)) = false := by decide)
    (he : ∀ env : Env, starEach (e :: es) env = (false, eval e env) :: starEach es env := by intro _; rfl) (hpl : ∀ env : Env, (backTo pos (starEach es env)).any (·.1) = false := by intro _; rfl) : W c Γ (.Call (.Name x p) (e :: es) [] pos) Φ := fun X hX H0 σ H S Q q => by
  obtain ⟨f, fd, ps, F, gm, kp, bd⟩ := F.ex
  have F' : FnOk X.prog X.w X.K X.mg X.base CX0 k f fd ps (spO own args pre post) := by
    rw [hX.P, hX.w, hX.K, hX.mg, hX.base]
    exact F
  refine (pe_call (ds := []) (dvs := []) F' (hX.room.mono hk) (hX.gl hg) (by rw [hX.mg]; exact gm) (by rw [hX.K]; exact kp) (by rw [hX.K]; exact bd) .nil (pass0 (X := X)) pa_wa hdb (he X.env) (hpl X.env)).we ?_
  refine h X hX H0 σ H S _ fun H0' rs Γ' vs H' s ⟨i, v0, rs', p, e1, hj, hv, hp, ag, nraw, hpre, hq⟩ S' o => ?_
  subst e1
  cases o with
  | cons o1 ot =>
    cases (show _ = v0 from o1)
    have pin : p ∈ ptrs Γ' := mem_ptrs.mpr ⟨j, _, hj, hp⟩
    have sj := S'.slots j _ hj
    have hσ := hv _ _ _ sj
    have ok0 : SvOk (cbase H' p) H' (some (some v0)) (own i) := by
      rw [← hσ]
      refine sj.rebase (fun a u e => ?_) fun q hq => ?_
      · exact (cbase_ne (ne_none (S'.own_at pin).1 e)).trans (S'.base a u e)
      · rw [hp] at hq
        cases hq
        exact if_pos rfl
    refine ⟨i, v0, _, cbase H' p, p, rfl, hpre, hp, cbase_same H' p, ok0, by show AgBs (cbase H' p) H' (_ ++ []) (args i); rw [List.append_nil]; exact ag.okB S' hj hp nraw ot, fun r s' v Hc' H'' hr b1 b2 ok rk => ?_⟩
    obtain ⟨ek, ep, cr, ph⟩ := hq r s' hr
    rw [← hσ] at ok
    have S2 := S'.behind hj hp b1 b2 ok ek.symm ep
    exact q H0' r _ v H'' s ph S2 (rk.ar S' pin (ptrs_set hj ep) cr)
end
end K83
set_option maxRecDepth 100000
set_option maxHeartbeats 4000000
namespace K83
open PySem PySem.Spec PyProof.Rows L2
section
variable {c : Ct} {Γ : List Sv} {a b e t : Expr} {es : List Expr} {pos pos' p1 p2 spos : Pos} {Φ : Ar → List Sv → Prop} {po : Po} {rest body : List Stmt}

/-! ## the feed, told exactly -/
theorem atI0 (x y z : V) : L2.atI [x, y, z] 0 = some x := rfl
theorem atI1 (x y z : V) : L2.atI [x, y, z] 1 = some y := rfl
theorem atI2 (x y z : V) : L2.atI [x, y, z] 2 = some z := rfl
/-- feed[1], feed[2] -/
theorem w_fexI (i : Nat) {x : Str} {k : Int} {j : Nat} {f S : Addr} {av rv : Int} {ns : List Int} {u : Int} (h0 : Γ[i]? = some (.fex f S av rv ns)) (hk : (k = 1 ∧ u = av) ∨ (k = 2 ∧ u = rv)) (h : Φ (.dat (.int u)) Γ)
    (hN : c.N[i]? = some x := by rfl) (hv : Vis c.sc x := by first | exact Or.inl rfl | exact Or.inr (Or.inl rfl) | exact Or.inr (Or.inr rfl)) (hd : (x == ("__debug__" : Str)) = false := by decide) (hcd : (x == ("__classdict__" : Str)) = false := by decide) :
    W c Γ (.Subscript (.Name x p1) (.Constant (.int k) j p2) pos) Φ := fun X hX H0 σ H S Q q => by
  obtain ⟨e1, h1, h2, h3⟩ := S.slots i _ h0
  refine (pe_ix ix_list (pe_var (hX.at_ hN) (hX.vis hv) hd hcd) pe_int (fun _ _ => rfl)).we ⟨_, e1, f, _, k, .int u, rfl, rfl, SqL.of h2, ?_, q H0 _ Γ _ H (Same.refl H0) h S (.int u)⟩
  rcases hk with ⟨rfl, rfl⟩ | ⟨rfl, rfl⟩ <;> rfl
/-- feed[0]: the cells -/
theorem w_fexS (i : Nat) {x : Str} {j : Nat} {f S : Addr} {av rv : Int} {ns : List Int} (h0 : Γ[i]? = some (.fex f S av rv ns)) (h : Φ (.lst (ns.map PyData.int)) Γ)
    (hN : c.N[i]? = some x := by rfl) (hv : Vis c.sc x := by first | exact Or.inl rfl | exact Or.inr (Or.inl rfl) | exact Or.inr (Or.inr rfl)) (hd : (x == ("__debug__" : Str)) = false := by decide) (hcd : (x == ("__classdict__" : Str)) = false := by decide) :
    W c Γ (.Subscript (.Name x p1) (.Constant (.int 0) j p2) pos) Φ := fun X hX H0 σ H S1 Q q => by
  obtain ⟨e1, h1, h2, h3⟩ := S1.slots i _ h0
  refine (pe_ix ix_list (pe_var (hX.at_ hN) (hX.vis hv) hd hcd) pe_int (fun _ _ => rfl)).we ⟨_, e1, f, _, 0, .ref S, rfl, rfl, SqL.of h2, rfl, ?_⟩
  exact q H0 _ Γ _ H (Same.refl H0) h S1 ⟨S, _, rfl, S1.not_own0 h3, S1.base _ _ h3, all_ints ns⟩
/-- feed[1] = e, feed[2] = e -/
theorem sd_fexSet (i : Nat) {x : Str} {k : Int} {j : Nat} {f S : Addr} {ns : List Int} (h : W c Γ a fun r Γ1 => ∃ u av rv, r = .dat (.int u) ∧ Γ1[i]? = some (.fex f S av rv ns) ∧ ((k = 1 ∧ Sd c (Γ1.set i (.fex f S u rv ns)) rest po) ∨ (k = 2 ∧ Sd c (Γ1.set i (.fex f S av u ns)) rest po)))
    (hN : c.N[i]? = some x := by rfl) (hv : Vis c.sc x := by first | exact Or.inl rfl | exact Or.inr (Or.inl rfl) | exact Or.inr (Or.inr rfl)) (hd : (x == ("__debug__" : Str)) = false := by decide) (hcd : (x == ("__classdict__" : Str)) = false := by decide)
    (hs : ∀ env : Env, swapsWithSole [.Subscript (.Name x p1) (.Constant (.int k) j p2) pos'] a spos.line env = pure false := by intro _; rfl) (hw : ∀ env : Env, swappedStores [.Subscript (.Name x p1) (.Constant (.int k) j p2) pos'] a env = pure none := by intro _; rfl)
    (ha : ∀ (env : Env) v, assign (.Subscript (.Name x p1) (.Constant (.int k) j p2) pos') env v = (do
      let ov ← holding [v] (eval (.Name x p1) env)
      let iv ← holding [v, ov] (eval (.Constant (.int k) j p2) env)
      standAt pos'
      holding [v, ov, iv] (setItem ov iv v)
      release [v, ov, iv] []) := by intro _ _; rfl) : Sd c Γ (.Assign [.Subscript (.Name x p1) (.Constant (.int k) j p2) pos'] a spos :: rest) po := fun X hX H0 σ H S1 D F => by
  refine (pss_cons (ps_asg pe_we (pg_sub (pe_var (hX.at_ hN) (hX.vis hv) hd hcd) pe_int set_list (ha X.env)) (hs X.env) (hw X.env) rfl) pss_ws).wss ?_
  refine h X hX H0 σ H S1 _ fun H0' r Γ1 v H1 s ⟨u, av, rv, e1, e2, k1⟩ S2 o => ?_
  subst e1
  cases Is.intInv o
  obtain ⟨q1, q2, q3, q4⟩ := S2.slots i _ e2
  rcases k1 with ⟨rfl, kk⟩ | ⟨rfl, kk⟩
  · refine ⟨_, q1, f, _, 1, 1, rfl, rfl, q3, rfl, ?_⟩
    exact kk X hX H0' σ _ (S2.change (s' := .fex f S u rv ns) e2 rfl rfl ⟨q1, q2, upd_same, q4⟩) D (F.up s)
  · refine ⟨_, q1, f, _, 2, 2, rfl, rfl, q3, rfl, ?_⟩
    exact kk X hX H0' σ _ (S2.change (s' := .fex f S av u ns) e2 rfl rfl ⟨q1, q2, upd_same, q4⟩) D (F.up s)

/-! ## lists of one's own -/
/-- x[k] = e, x one's own -/
theorem sd_setOwn (i : Nat) {x : Str} {p : Addr} {ds0 : List PyData} (h0 : Γ[i]? = some (.own p ds0)) (h : W c Γ a fun r1 Γ1 => W c Γ1 b fun r2 Γ2 => ∃ (d : PyData) (k : Int) (ds : List PyData) (j : Nat), r1.weak = .dat d ∧ r2 = .dat (.int k) ∧ Γ2[i]? = some (.own p ds) ∧ ixN ds.length k = some j ∧ Sd c (Γ2.set i (.own p (ds.set j d))) rest po)
    (hN : c.N[i]? = some x := by rfl) (hv : Vis c.sc x := by first | exact Or.inl rfl | exact Or.inr (Or.inl rfl) | exact Or.inr (Or.inr rfl)) (hd : (x == ("__debug__" : Str)) = false := by decide) (hcd : (x == ("__classdict__" : Str)) = false := by decide)
    (hs : ∀ env : Env, swapsWithSole [.Subscript (.Name x p1) b pos'] a spos.line env = pure false := by intro _; rfl) (hw : ∀ env : Env, swappedStores [.Subscript (.Name x p1) b pos'] a env = pure none := by intro _; rfl)
    (ha : ∀ (env : Env) v, assign (.Subscript (.Name x p1) b pos') env v = (do
      let ov ← holding [v] (eval (.Name x p1) env)
      let iv ← holding [v, ov] (eval b env)
      standAt pos'
      holding [v, ov, iv] (setItem ov iv v)
      release [v, ov, iv] []) := by intro _ _; rfl) : Sd c Γ (.Assign [.Subscript (.Name x p1) b pos'] a spos :: rest) po := fun X hX H0 σ H S1 D F => by
  refine (pss_cons (ps_asg pe_we (pg_sub (pe_var (hX.at_ hN) (hX.vis hv) hd hcd) pe_we set_list (ha X.env)) (hs X.env) (hw X.env) rfl) pss_ws).wss ?_
  obtain ⟨es, _⟩ := S1.slots i _ h0
  refine WE.imp (Q := fun v H1 => WE X b σ H1 fun y H3 => rSetL (.ref p) y v H3 fun H4 => WSs X rest D σ H4) (seq2 (R := fun v y H3 => rSetL (.ref p) y v H3 fun H4 => WSs X rest D σ H4) hX S1 h fun H0' r1 r2 Γ2 v1 v2 H2 s ⟨d, k, ds, j, e1, e2, e3, hj, kk⟩ S2 o1 o2 => ?_) fun v H1 hw => ⟨_, es, hw⟩
  rw [e1] at o1
  subst e2
  cases Is.intInv o2
  obtain ⟨es', h0', vs, hp, hi⟩ := S2.slots i _ e3
  have tk : Tk H2 (upd H2 p (.lst (vs.set j v1))) := fun a xs q => by
    rw [upd_ne fun z => by rw [z, hp] at q; cases q]
    exact q
  refine ⟨p, vs, k, j, rfl, rfl, hp, by rw [hi.len]; exact hj, ?_⟩
  exact kk X hX H0' σ _ (S2.change (s' := .own p (ds.set j d)) e3 rfl rfl ⟨es', h0', _, upd_same, (IsAll.tk tk _ _ hi).set j (Is.tk tk _ _ o1)⟩) D (F.up s)
/-- x.extend(e), x one's own -/
theorem sd_extend (i : Nat) {x : Str} {ap cp : Pos} {p : Addr} {ds0 : List PyData} (h0 : Γ[i]? = some (.own p ds0)) (h : WA c Γ [e] fun rs Γ1 => ∃ r ds es, rs = [r] ∧ RdL Γ1 r es ∧ Γ1[i]? = some (.own p ds) ∧ ds.length + es.length ≤ 1000000 ∧ Sd c (Γ1.set i (.own p (ds ++ es))) rest po)
    (hN : c.N[i]? = some x := by rfl) (hv : Vis c.sc x := by first | exact Or.inl rfl | exact Or.inr (Or.inl rfl) | exact Or.inr (Or.inr rfl)) (hd : (x == ("__debug__" : Str)) = false := by decide) (hcd : (x == ("__classdict__" : Str)) = false := by decide)
    (hbase : ∀ env : Env, attributeBase (.Name x p1) "extend" env (eval (.Name x p1) env) = eval (.Name x p1) env := by intro _; rfl)
    (hfew : ∀ env : Env, ((backTo cp (starEach [e] env)).all (fun x => !x.1) && (backToKw cp (keywordEach [] env)).all (fun x => x.1.isSome)
      && decide ([e].length + ([] : List Keyword).length + (if ([] : List Keyword).isEmpty then 0 else 1) < 30)) = true := by intro _; rfl)
    (hline : (ap.endLine == cp.line) = true := by rfl) (hst : ∀ env : Env, starEach [e] env = (false, eval e env) :: starEach [] env := by intro _; rfl) (hsw : ∀ env : Env, swapsWith (.Call (.Attribute (.Name x p1) "extend" ap) [e] [] cp) none pos.line env = pure false := by intro _; rfl) :
    Sd c Γ (.Expr (.Call (.Attribute (.Name x p1) "extend" ap) [e] [] cp) pos :: rest) po := fun X hX H0 σ H S D F => by
  refine (pss_cons (ps_expr (pe_bm PySem.F.plainAttrs_list PySem.F.slot_list_extend PySem.F.type_list_extend mt_extend (pe_var (hX.at_ hN) (hX.vis hv) hd hcd) pa_wa (hbase X.env) (hfew X.env) hline (hst X.env) (by rfl)) (hsw X.env)) pss_ws).wss ?_
  obtain ⟨es, _, vs, hp, hi⟩ := S.slots i _ h0
  refine ⟨_, es, .inl ⟨rfl, _, SqL.of hp⟩, ?_⟩
  refine h X hX H0 σ H S _ fun H0' rs Γ' us H' s ⟨r, ds, zs, e1, e2, e3, hl, k⟩ S' o => ?_
  subst e1
  obtain ⟨v, rfl, o1⟩ := ArAll.one o
  obtain ⟨es', e0', vs', hp', hi'⟩ := S'.slots i _ e3
  obtain ⟨q, ws, rfl, hq, hz⟩ := e2.get S' o1
  refine ⟨p, q, vs', ws, rfl, rfl, hp', hq, Nat.le_trans (by rw [hi'.len, hz.len]; exact hl) (by decide), ?_⟩
  have tk : Tk H' (upd H' p (.lst (vs' ++ ws))) := fun a xs q => by
    rw [upd_ne fun z => by rw [z, hp'] at q; cases q]
    exact q
  exact k X hX H0' σ _ (S'.change e3 rfl rfl ⟨es', e0', _, upd_same, (IsAll.tk tk _ _ hi').app (IsAll.tk tk _ _ hz)⟩) D (F.up s)
theorem IsAll.erase {H : Hp} : ∀ {ds : List PyData} {vs : List V} (i : Nat), IsAll H vs ds → IsAll H (vs.eraseIdx i) (ds.eraseIdx i)
  | [], _, i, h => by cases h; exact .nil
  | d :: ds, _, 0, h => by
    cases h with
    | cons h1 h2 => exact h2
  | d :: ds, _, i + 1, h => by
    cases h with
    | cons h1 h2 => exact .cons h1 (IsAll.erase i h2)
/-- x.pop(e), x one's own -/
theorem w_popAt (i : Nat) {x : Str} {ap cp : Pos} {p : Addr} {ds0 : List PyData} (h0 : Γ[i]? = some (.own p ds0)) (h : WA c Γ [e] fun rs Γ1 => ∃ (k : Nat) (ds : List PyData) (d : PyData), rs = [.dat (.int k)] ∧ Γ1[i]? = some (.own p ds) ∧ ds[k]? = some d ∧ ds.length ≤ 1000000 ∧ Φ (.dat d) (Γ1.set i (.own p (ds.eraseIdx k))))
    (hN : c.N[i]? = some x := by rfl) (hv : Vis c.sc x := by first | exact Or.inl rfl | exact Or.inr (Or.inl rfl) | exact Or.inr (Or.inr rfl)) (hd : (x == ("__debug__" : Str)) = false := by decide) (hcd : (x == ("__classdict__" : Str)) = false := by decide)
    (hbase : ∀ env : Env, attributeBase (.Name x p1) "pop" env (eval (.Name x p1) env) = eval (.Name x p1) env := by intro _; rfl)
    (hfew : ∀ env : Env, ((backTo cp (starEach [e] env)).all (fun x => !x.1) && (backToKw cp (keywordEach [] env)).all (fun x => x.1.isSome)
      && decide ([e].length + ([] : List Keyword).length + (if ([] : List Keyword).isEmpty then 0 else 1) < 30)) = true := by intro _; rfl)
    (hline : (ap.endLine == cp.line) = true := by rfl) (hst : ∀ env : Env, starEach [e] env = (false, eval e env) :: starEach [] env := by intro _; rfl) :
    W c Γ (.Call (.Attribute (.Name x p1) "pop" ap) [e] [] cp) Φ := fun X hX H0 σ H S Q q => by
  refine (pe_bm PySem.F.plainAttrs_list PySem.F.slot_list_pop PySem.F.type_list_pop mt_popAt (pe_var (hX.at_ hN) (hX.vis hv) hd hcd) pa_wa (hbase X.env) (hfew X.env) hline (hst X.env) (by rfl)).we ?_
  obtain ⟨es, _, vs, hp, hi⟩ := S.slots i _ h0
  refine ⟨_, es, .inl ⟨rfl, _, SqL.of hp⟩, ?_⟩
  refine h X hX H0 σ H S _ fun H0' rs Γ' us H' s ⟨k, ds, d, e1, e2, e3, hl, ph⟩ S' o => ?_
  subst e1
  obtain ⟨v, rfl, o1⟩ := ArAll.one o
  cases Is.intInv o1
  obtain ⟨es', e0', vs', hp', hi'⟩ := S'.slots i _ e2
  obtain ⟨y, hy, iy⟩ := hi'.get e3
  have hk : k < vs'.length := (List.getElem?_eq_some_iff.mp hy).1
  have hlen : vs'.length ≤ 1000000 := by rw [hi'.len]; exact hl
  have sq : seqIndex? (k : Int) vs'.length = some k := (ixN_seq (n := vs'.length) (i := k) (j := k) (by
    unfold ixN
    rw [if_pos (by omega), if_pos (by omega), Int.toNat_natCast])).1
  refine ⟨p, vs', k, k, y, rfl, rfl, hp', by omega, by omega, sq, hy, ?_⟩
  have tk : Tk H' (upd H' p (.lst (vs'.eraseIdx k))) := fun a xs q => by
    rw [upd_ne fun z => by rw [z, hp'] at q; cases q]
    exact q
  exact q H0' _ _ y _ s ph (S'.change (s' := .own p (ds.eraseIdx k)) e2 rfl rfl ⟨es', e0', _, upd_same, (IsAll.tk tk _ _ hi').erase k⟩) (Is.tk tk _ _ iy)
/-- xs + ys, lists -/
theorem w_cat (h : W c Γ a fun r1 Γ1 => W c Γ1 b fun r2 Γ2 => ∃ ds es, RdL Γ2 r1.weak ds ∧ RdL Γ2 r2 es ∧ ds.length + es.length ≤ 1000000 ∧ Φ (.new (ds ++ es)) Γ2) : W c Γ (.BinOp a .Add b pos) Φ := fun X hX H0 σ H S Q q =>
  (pe_op op_cat pe_we pe_we).we (seq2 hX S h fun H0' r1 r2 Γ2 v1 v2 H2 s ⟨ds, es, e1, e2, hl, k⟩ S2 o1 o2 => by
    obtain ⟨t1, xs, rfl, h1, i1⟩ := e1.get S2 o1
    obtain ⟨t2, ys, rfl, h2, i2⟩ := e2.get S2 o2
    refine ⟨t1, t2, xs, ys, rfl, rfl, h1, h2, Nat.le_trans (by rw [i1.len, i2.len]; exact hl) (by decide), fun l hn => ?_⟩
    exact q H0' _ Γ2 _ _ s k (S2.same (Same.new hn)) ⟨l, _, rfl, Same.free S2.base hn, S2.not_own hn, upd_same, (IsAll.tk (Same.tk (Same.new hn)) _ _ i1).app (IsAll.tk (Same.tk (Same.new hn)) _ _ i2)⟩)

/-! ## several names at once -/
/-- x, y = e, e a tuple of data -/
theorem sd_tg (t : Tg) {tg : Expr} (tgo : TgOk c tg t) (h : W c Γ a fun r Γ1 => ∃ d, r = .dat d ∧ t.fits d ∧ Sd c (t.put d Γ1) rest po)
    (hs : ∀ env : Env, swapsWithSole [tg] a spos.line env = pure false := by intro _; rfl) (hw : ∀ env : Env, swappedStores [tg] a env = pure none := by intro _; rfl) (h1 : ∀ env : Env, (assignEach [tg] env).map (·.2) = [assign tg env] := by intro _; rfl) : Sd c Γ (.Assign [tg] a spos :: rest) po := fun X hX H0 σ H S D F =>
  (pss_cons (ps_asg pe_we (tgo.ok X hX) (hs X.env) (hw X.env) (h1 X.env)) pss_ws).wss (h X hX H0 σ H S _ fun H0' r Γ' v H' s ⟨d, e1, ft, k⟩ S' o => by
    subst e1
    exact t.run S' o ft fun σ' S2 _ => k X hX H0' σ' H' S2 D (F.up s))
/-- x, y = e, [] -/
theorem sd_parNew (i j : Nat) {x y : Str} {px py pt pl : Pos} {kt k2 : Nat} {pt2 : Pos} (h : W c Γ a fun r Γ1 => ∃ ds, r = .new ds ∧ ∀ p q, Sd c ((Γ1.set i (.own p ds)).set j (.own q [])) rest po)
    (hN : c.N[i]? = some x := by rfl) (hN2 : c.N[j]? = some y := by rfl) (hij : i ≠ j := by decide) (hx : c.sc.names.lookup x = some .local := by rfl) (hy : c.sc.names.lookup y = some .local := by rfl)
    (hw : ∀ env : Env, env.scope = c.sc → swappedStores [.Tuple [.Name x px, .Name y py] kt pt] (.Tuple [a, .List [] pl] k2 pt2) env = pure (some [x, y]) := by intro env h; cases env; cases h; rfl)
    (hs : ∀ env : Env, swapsWithSole [.Tuple [.Name x px, .Name y py] kt pt] (.Tuple [a, .List [] pl] k2 pt2) pos.line env = pure false := by intro _; rfl)
    (he : ∀ env : Env, starEach [a, .List [] pl] env = (false, eval a env) :: starEach [.List [] pl] env := by intro _; rfl) (hil : i < c.N.length := by exact Nat.lt_of_ble_eq_true rfl) (hjl : j < c.N.length := by exact Nat.lt_of_ble_eq_true rfl) : Sd c Γ (.Assign [.Tuple [.Name x px, .Name y py] kt pt] (.Tuple [a, .List [] pl] k2 pt2) pos :: rest) po := fun X hX H0 σ H S D F => by
  refine (pss_cons (ps_par hX.calm hX.ndX (hX.at_ hN) (hX.at_ hN2) hij (by rw [hX.sc]; exact hx) (by rw [hX.sc]; exact hy) (pa_cons pe_we (pa_cons (pe_lst pa_nil) pa_nil (by rfl)) (he X.env)) (hw X.env hX.sc) (hs X.env)) pss_ws).wss ?_
  refine h X hX H0 σ H S _ fun H0' r Γ' v H' s ⟨ds, e1, k⟩ S' o => ?_
  subst e1
  obtain ⟨p, vs, rfl, h0, hn, hp, hi⟩ := o
  refine ⟨Nat.zero_le _, fun q hq => ⟨.ref p, .ref q, rfl, ?_⟩⟩
  have hpq : q ≠ p := fun z => by rw [z, hp] at hq; cases hq
  have sm := Same.new (o := HO.lst []) hq
  have S2 := S'.same sm
  have hp2 : upd H' q (.lst []) p = some (.lst vs) := sm _ _ hp
  have S3 := S2.store (i := i) (v := .ref p) (s := .own p ds) (fun _ => ⟨rfl, h0, vs, hp2, IsAll.tk (Same.tk sm) _ _ hi⟩) fun z e => by cases e; exact hn
  have nq : q ∉ ptrs Γ' := S'.not_own hq
  refine k p q X hX H0' _ _ (S3.store (i := j) (v := .ref q) (s := .own q []) (fun _ => ⟨rfl, Same.free S'.base hq, [], upd_same, .nil⟩) fun z e => ?_) D (F.up s)
  cases e
  intro m
  obtain ⟨m1, t1, g1, g2⟩ := mem_ptrs.mp m
  by_cases e : i = m1
  · subst e
    by_cases hl : i < Γ'.length
    · rw [List.getElem?_set_self hl] at g1
      cases g1
      cases g2
      exact hpq rfl
    · rw [List.getElem?_eq_none (by rw [List.length_set]; omega)] at g1
      cases g1
  · rw [List.getElem?_set_ne e] at g1
    exact nq (mem_ptrs.mpr ⟨m1, t1, g1, g2⟩)
/-- while -/
theorem sd_while (G : Nat → List Sv → Prop) (M : List Sv → Prop) {n : Nat} (h0 : G n Γ) (hs : ∀ m Γ', G m Γ' → WT c Γ' t fun k Γ1 => (k = true → Sd c Γ1 body { po with nx := fun Γ2 => ∃ m', m' < m ∧ G m' Γ2, ct := fun Γ2 => ∃ m', m' < m ∧ G m' Γ2, bk := M }) ∧ (k = false → M Γ1)) (hr : ∀ Γ', M Γ' → Sd c Γ' rest po) :
    Sd c Γ (.While t body [] pos :: rest) po := fun X hX H0 σ H S D F => by
  refine (pss_cons (ps_while hX.pass pt_wt pss_ws) pss_ws).wss ?_
  refine ⟨fun m σ' H' => ∃ (H0k : Hp) (Γk : List Sv), Same H0 H0k ∧ G m Γk ∧ Kn H0k Γk σ' H', ⟨n, H0, Γ, Same.refl _, h0, S⟩, fun m σ' H' ⟨H0k, Γk, s1, g1, S1⟩ => ?_⟩
  refine hs m Γk g1 X hX H0k σ' H' S1 _ fun H0' b Γ1 H1 s2 ⟨ht, hf⟩ S2 => ?_
  cases b with
  | true =>
    rw [if_pos rfl]
    refine ⟨fun σ2 H2 => ∃ m', m' < m ∧ ∃ (H0k : Hp) (Γk : List Sv), Same H0 H0k ∧ G m' Γk ∧ Kn H0k Γk σ2 H2, fun σ2 H2 ⟨m', hm, z⟩ => ⟨m', hm, z⟩, ?_⟩
    exact ht rfl X hX H0' σ' H1 S2 _ ⟨fun H r v Γ σ H' s3 => F.ret H r v Γ σ H' ((s1.trans s2).trans s3), fun H Γ σ H' s3 ⟨m', hm, g⟩ S => ⟨m', hm, H, Γ, (s1.trans s2).trans s3, g, S⟩, fun H Γ σ H' s3 m S => hr Γ m X hX H σ H' S D (F.up ((s1.trans s2).trans s3)), fun H Γ σ H' s3 ⟨m', hm, g⟩ S => ⟨m', hm, H, Γ, (s1.trans s2).trans s3, g, S⟩⟩
  | false =>
    rw [if_neg Bool.false_ne_true]
    exact hr Γ1 (hf rfl) X hX H0' σ' H1 S2 D (F.up (s1.trans s2))
end
end K83
set_option maxRecDepth 100000
set_option maxHeartbeats 4000000
namespace K83
open PySem PySem.Spec PyProof.Rows L2
/-- a method of the class at C -/
def MethAt (g : Gv) (C : Addr) (m qual : Str) (st : Stmt) (ps : List Str) : Prop := ∃ f fd, Meth g.K C m f ∧ FunD g.K m qual (defArgs st) (defBody st) (defScope st) [] [] f fd ∧ Binds g.K fd ps []
structure LedAt (g : Gv) (C : Addr) : Prop where
  gl : g.mg "Ledger" = some (.ref C)
  cls : Cls g.K C
  house : NoAttr g.K C "house"
  tellings : NoAttr g.K C "tellings"
  made : ∃ f fd, Mk g.K C f ∧ FunD g.K "__init__" "Ledger.__init__" (defArgs (inClass (topS 50) 0)) (defBody (inClass (topS 50) 0)) (defScope (inClass (topS 50) 0)) [] [] f fd ∧ Binds g.K fd ["self", "office"] []
  m_tell : MethAt g C "tell" "Ledger.tell" (inClass (topS 50) 1) ["self", "page"]
  m_back : MethAt g C "back" "Ledger.back" (inClass (topS 50) 2) ["self"]
  m_book : MethAt g C "book" "Ledger.book" (inClass (topS 50) 3) ["self"]
  m_then : MethAt g C "then" "Ledger.then" (inClass (topS 50) 4) ["self", "k"]
  m_told : MethAt g C "told" "Ledger.told" (inClass (topS 50) 5) ["self"]
structure GL (g : Gv) : Prop extends GF g where
  t_DEEDS : Tbl g "DEEDS" [("move", "is_move"), ("bag", "is_bag"), ("read", "is_read"), ("count", "is_count"), ("void", "is_void")]
  led : ∃ C, LedAt g C
  l_feed : DefAt g "_law_feed" (topS 64) ["_law_script"]
  l_draw : DefAt g "_law_draw" (topS 65) ["_law_feed_here", "_law_many"]
  l_same : DefAt g "_law_same" (topS 66) ["_law_found", "_law_due"]
  l_words : DefAt g "_law_words" (topS 67) ["_law_feed_here"]
  l_office : DefAt g "_law_office" (topS 68) ["_law_feed_here"]
  l_runs_of : DefAt g "_law_runs_of" (topS 69) ["_law_notes"]
  l_runs : DefAt g "_law_runs" (topS 70) ["_law_feed_here", "_law_office_here"]
  l_name : DefAt g "_law_name" (topS 71) ["_law_feed_here"]
  l_deed : DefAt g "_law_deed" (topS 72) ["_law_feed_here", "_law_office_here", "_law_kind", "_law_names", "_law_bags"]
  l_book : DefAt g "_law_book" (topS 73) ["_law_feed_here", "_law_office_here", "_law_most"]
  l_seen : DefAt g "_law_seen" (topS 74) ["_law_office_here", "_law_book_here", "_law_day", "_law_notes"]
  l_stirred : DefAt g "_law_stirred" (topS 75) ["_law_feed_here", "_law_pages"]

/-! ## opening and closing the feed -/
section
variable {c : Ct} {Γ : List Sv} {e : Expr} {Φ : Ar → List Sv → Prop} {po : Po} {sts : List Stmt}
theorem Kn.word {H0 H : Hp} {σ : L2.St} {i : Nat} {s s' : Sv} (S : Kn H0 Γ σ H) (hi : Γ[i]? = some s) (ep : s'.ptr = s.ptr) (ok : SvOk H0 H σ[i]? s') : Kn H0 (Γ.set i s') σ H := by
  have hl : i < Γ.length := (List.getElem?_eq_some_iff.mp hi).1
  refine ⟨by rw [List.length_set]; exact S.len, S.base, fun j t hj => ?_, fun j k sj sk p hj hk pj pk => ?_⟩
  · by_cases e : i = j
    · subst e
      rw [List.getElem?_set_self hl] at hj
      cases hj
      exact ok
    · rw [List.getElem?_set_ne e] at hj
      exact S.slots j t hj
  · have inn : ∀ (m : Nat) (t : Sv), (Γ.set i s')[m]? = some t → t.ptr = some p → ∃ t', Γ[m]? = some t' ∧ t'.ptr = some p := fun m t hm ht => by
      by_cases e : i = m
      · subst e
        rw [List.getElem?_set_self hl] at hm
        cases hm
        exact ⟨s, hi, by rw [← ep]; exact ht⟩
      · rw [List.getElem?_set_ne e] at hm
        exact ⟨t, hm, ht⟩
    obtain ⟨t1, h1, q1⟩ := inn j sj hj pj
    obtain ⟨t2, h2, q2⟩ := inn k sk hk pk
    exact S.apart j k t1 t2 p h1 h2 q1 q2
theorem sd_open (i : Nat) {f S : Addr} {n : Nat} (h0 : Γ[i]? = some (.feed f S n)) (h : ∀ (a r : Int) (ns : List Int), 0 ≤ a → a ≤ (n : Int) → 0 ≤ r → ns.length ≤ 63 → Sd c (Γ.set i (.fex f S a r ns)) sts po) : Sd c Γ sts po := fun X hX H0 σ H S1 D F => by
  obtain ⟨e1, h1, a, r, ns, h2, h3, h4, h5, h6, h7⟩ := S1.slots i _ h0
  exact h a r ns h4 h5 h6 h7 X hX H0 σ H (S1.word h0 rfl ⟨e1, h1, h2, h3⟩) D F
theorem ar_set {H0 H : Hp} {v : V} {r : Ar} {i : Nat} {s s' : Sv} (hi : Γ[i]? = some s) (ep : s'.ptr = s.ptr) (o : ArOk H0 H Γ v r) : ArOk H0 H (Γ.set i s') v r := by
  have hl : i < Γ.length := (List.getElem?_eq_some_iff.mp hi).1
  have sub : ∀ q, q ∈ ptrs (Γ.set i s') → q ∈ ptrs Γ := ptrs_set hi ep
  have sub2 : ∀ q, q ∈ ptrs Γ → q ∈ ptrs (Γ.set i s') := fun q hq => by
    obtain ⟨m, t, hm, ht⟩ := mem_ptrs.mp hq
    by_cases e : i = m
    · subst e
      rw [hi] at hm
      cases hm
      exact mem_ptrs.mpr ⟨i, s', List.getElem?_set_self hl, by rw [ep]; exact ht⟩
    · exact mem_ptrs.mpr ⟨m, t, by rw [List.getElem?_set_ne e]; exact hm, ht⟩
  cases r with
  | dat d => exact o
  | raw u => exact o
  | new ds =>
    obtain ⟨p, vs, e, h0, hn, h1, i⟩ := o
    exact ⟨p, vs, e, h0, fun z => hn (sub p z), h1, i⟩
  | lst ds =>
    obtain ⟨p, vs, e, hn, h1, i⟩ := o
    exact ⟨p, vs, e, fun z => hn (sub p z), h1, i⟩
  | nic ds =>
    obtain ⟨p, vs, e, hn, h1, i⟩ := o
    exact ⟨p, vs, e, fun z => hn (sub p z), h1, i⟩
  | fz d =>
    refine Fz.on (fun a u z => ?_) _ _ o
    unfold reb at z ⊢
    split at z
    · cases z
    · rename_i hq
      rw [if_neg fun y => hq (sub a y)]
      exact z
theorem w_close (i : Nat) (h : W c Γ e fun r Γ1 => ∃ (f S : Addr) (a r' : Int) (ns : List Int) (n : Nat), Γ1[i]? = some (.fex f S a r' ns) ∧ 0 ≤ a ∧ a ≤ (n : Int) ∧ 0 ≤ r' ∧ ns.length ≤ 63 ∧ Φ r (Γ1.set i (.feed f S n))) : W c Γ e Φ := fun X hX H0 σ H S1 Q q =>
  h X hX H0 σ H S1 Q fun H0' r Γ' v H' s ⟨f, S, a, r', ns, n, e1, h1, h2, h3, h4, ph⟩ S2 o => by
    obtain ⟨g1, g2, g3, g4⟩ := S2.slots i _ e1
    exact q H0' r _ v H' s ph (S2.word e1 rfl ⟨g1, g2, a, r', ns, g3, g4, h1, h2, h3, h4⟩) (ar_set e1 rfl o)
end
end K83
set_option maxRecDepth 100000
set_option maxHeartbeats 4000000
namespace K83
open PySem PySem.Spec PyProof.Rows L2
/-! ## the draw -/
theorem emod_bd {x m : Int} (h : 0 < m) : 0 ≤ x % m ∧ x % m < m := ⟨Int.emod_nonneg _ (by omega), Int.emod_lt_of_pos _ h⟩
structure DrI where
  f : Addr
  S : Addr
  n : Nat
  m : Int
abbrev spDraw : Sp := spO (fun i : DrI => .feed i.f i.S i.n) (fun i => [.dat (.int i.m)]) (fun i => 0 < i.m ∧ i.m < 1073741824 ∧ i.n ≤ 100000) (fun i r s' => ∃ v, r = .dat (.int v) ∧ 0 ≤ v ∧ v < i.m ∧ s' = .feed i.f i.S (i.n + 1))
theorem sc_law_draw : FnScope ["_law_feed_here", "_law_many", "_law_found", "_law_at", "_law_cell", "_law_first"] ["_law_feed_here", "_law_many"] (defScope (topS 65)) := ⟨rfl, rfl, rfl, by decide +kernel, rfl, by decide +kernel, by decide +kernel⟩

theorem F_draw {g : Gv} (G : GL g) : Fn g 1 "_law_draw" spDraw := by
  refine fn_defO (k := 0) G.l_draw sc_law_draw (fun _ => rfl) fun i hi => ?_
  obtain ⟨f, S, n, m⟩ := i
  obtain ⟨hm, hm2, hn⟩ := hi
  have hn : n ≤ 100000 := hn
  have hm : 0 < m := hm
  have hm2 : m < 1073741824 := hm2
  have hdv : ∀ x : Int, CDiv x m := fun x => ⟨hm, hm2⟩
  show Sd _ [.feed f S n, .dat (.int m), .no, .no, .no, .no] [_, _, _, _, _, _, _, _] _
  refine sd_open 0 rfl fun a r ns ha1 ha2 hr hns => ?_
  show Sd _ [.fex f S a r ns, .dat (.int m), .no, .no, .no, .no] [_, _, _, _, _, _, _, _] _
  have hat : -(2 ^ 64) < a ∧ a < 2 ^ 64 := by omega
  refine sd_ifB (wt_cmp d_gt (w_fexI 0 (u := r) rfl (.inr ⟨rfl, rfl⟩) (w_int ⟨_, ⟨_, _, rfl, rfl, trivial, rfl⟩, fun h => ?a, fun h => ?b⟩)))
  case a =>
    refine sd_dat 2 (w_op d_mod (w_fexI 0 (u := r) rfl (.inr ⟨rfl, rfl⟩) (w_name 1 rfl ⟨_, ⟨_, _, rfl, rfl, hm, rfl⟩, ⟨_, rfl, ?_⟩⟩)))
    refine sd_fexSet 0 (w_op d_fdiv (w_fexI 0 (u := r) rfl (.inr ⟨rfl, rfl⟩) (w_name 1 rfl ⟨_, ⟨_, _, rfl, rfl, hdv _, rfl⟩, ⟨_, _, _, rfl, rfl, .inr ⟨rfl, ?_⟩⟩⟩)))
    refine sd_ret (w_close 0 (w_name 2 rfl ⟨_, _, _, _, _, n + 1, rfl, ha1, by omega, Int.ediv_nonneg hr (by omega), hns, _, _, ⟨_, rfl, (emod_bd hm).1, (emod_bd hm).2, rfl⟩, .inl ⟨_, rfl, rfl⟩, rfl, rfl, rfl⟩))
  case b =>
    refine sd_dat 3 (w_fexI 0 (u := a) rfl (.inl ⟨rfl, rfl⟩) ⟨_, rfl, ?_⟩)
    refine sd_fexSet 0 (w_op d_add (w_name 3 rfl (w_int ⟨_, ⟨_, _, rfl, rfl, trivial, rfl⟩, ⟨_, _, _, rfl, rfl, .inl ⟨rfl, ?_⟩⟩⟩)))
    show Sd _ [.fex f S (a + 1) r ns, .dat (.int m), .no, .dat (.int a), .no, .no] [_, _, _, _, _] _
    refine sd_dat 4 (W.imp (Φ := fun rr Γ' => ∃ u : Int, rr = .dat (.int u) ∧ Γ' = [.fex f S (a + 1) r ns, .dat (.int m), .no, .dat (.int a), .no, .no]) ?cell fun rr Γ' ⟨u, e1, e2⟩ => ⟨_, e1, ?rest⟩)
    case cell =>
      refine w_ifB (wt_cmp d_gt (w_callB c_len G.b_len (wa_cons (w_fexS 0 rfl (wa_nil ⟨_, .inl ⟨_, _, rfl, .inr (.inr (.inl rfl)), rfl⟩, w_int ⟨_, ⟨_, _, rfl, rfl, trivial, rfl⟩, fun h1 => ?y, fun h1 => w_int ⟨_, rfl, rfl⟩⟩⟩)))))
      case y =>
        have hl : 0 < ((ns.map PyData.int).length : Int) := of_decide_eq_true h1
        have bd := emod_bd (x := a) hl
        obtain ⟨k, hk⟩ := Int.eq_ofNat_of_zero_le bd.1
        have hkl : k < ns.length := by
          have hk2 := hk
          rw [List.length_map] at bd hk2
          omega
        have hix : L2.atI (ns.map PyData.int) (a % ((ns.map PyData.int).length : Int)) = some (PyData.int ns[k]) := by
          rw [hk]
          exact atI_nat (by rw [List.getElem?_map, List.getElem?_eq_getElem hkl] <;> rfl)
        exact w_ix (w_fexS 0 rfl (w_op d_mod (w_name 3 rfl (w_callB c_len G.b_len (wa_cons (w_fexS 0 rfl (wa_nil ⟨_, .inl ⟨_, _, rfl, .inr (.inr (.inl rfl)), rfl⟩, ⟨_, ⟨_, _, rfl, rfl, hl, rfl⟩, ⟨_, _, _, .inr (.inr (.inl rfl)), rfl, hix, ⟨_, rfl, rfl⟩⟩⟩⟩)))))))
    case rest =>
      subst e2
      show Sd _ [.fex f S (a + 1) r ns, .dat (.int m), .no, .dat (.int a), .dat (.int u), .no] [_, _, _, _] _
      refine sd_ifB (wt_ww (ww_andB (wt_cmp d_ge (w_name 4 rfl (w_op d_pow (w_int (w_int ⟨_, ⟨_, _, rfl, rfl, (by first | exact hdv _ | exact hm | exact .inl (by decide) | exact .inr (by decide) | exact .inr hat | exact .inl hff | decide | omega | exact And.intro (by omega) (by omega) | exact ⟨by decide, by decide, by decide⟩), rfl⟩, ⟨_, ⟨_, _, rfl, rfl, trivial, rfl⟩, ⟨fun h1 => ww_and1 (wt_cmp d_lt (w_name 3 rfl (w_callB c_len G.b_len (wa_cons (w_fexS 0 rfl (wa_nil ⟨_, .inl ⟨_, _, rfl, .inr (.inr (.inl rfl)), rfl⟩, ⟨_, ⟨_, _, rfl, rfl, trivial, rfl⟩, fun h2 => ?goP, fun h2 => ?goQ⟩⟩)))))), fun h1 => ⟨(fun z => by cases z), fun _ => ?goR⟩⟩⟩⟩)))))))
      case goP =>
        have hu : (10 : Int) ^ 18 ≤ u := of_decide_eq_true h1
        refine sd_fexSet 0 (w_op d_fdiv (w_name 4 rfl (w_name 1 rfl ⟨_, ⟨_, _, rfl, rfl, (by first | exact hdv _ | exact hm | exact .inl (by decide) | exact .inr (by decide) | exact .inr hat | exact .inl hff | decide | omega | exact And.intro (by omega) (by omega) | exact ⟨by decide, by decide, by decide⟩), rfl⟩, ⟨_, _, _, rfl, rfl, .inr ⟨rfl, ?_⟩⟩⟩)))
        refine sd_ret (w_close 0 (w_op d_mod (w_name 4 rfl (w_name 1 rfl ⟨_, ⟨_, _, rfl, rfl, (by first | exact hdv _ | exact hm | exact .inl (by decide) | exact .inr (by decide) | exact .inr hat | exact .inl hff | decide | omega | exact And.intro (by omega) (by omega) | exact ⟨by decide, by decide, by decide⟩), rfl⟩, ⟨_, _, _, _, _, n + 1, rfl, by omega, by omega, Int.ediv_nonneg (Int.le_trans (by decide) hu) (by omega), hns, _, _, ⟨_, rfl, (emod_bd hm).1, (emod_bd hm).2, rfl⟩, .inl ⟨_, rfl, rfl⟩, rfl, rfl, rfl⟩⟩))))
      all_goals
        refine sd_dat 5 (w_op d_mod (w_op d_mul (w_op d_add (w_op d_add (w_op d_add (w_op d_mod (w_name 4 rfl (w_int ⟨_, ⟨_, _, rfl, rfl, (by first | exact hdv _ | exact hm | exact .inl (by decide) | exact .inr (by decide) | exact .inr hat | exact .inl hff | decide | omega | exact And.intro (by omega) (by omega) | exact ⟨by decide, by decide, by decide⟩), rfl⟩, (w_op d_mul (w_op d_mul (w_int (w_name 3 rfl ⟨_, ⟨_, _, rfl, rfl, (by first | exact hdv _ | exact hm | exact .inl (by decide) | exact .inr (by decide) | exact .inr hat | exact .inl hff | decide | omega | exact And.intro (by omega) (by omega) | exact ⟨by decide, by decide, by decide⟩), rfl⟩, (w_name 3 rfl ⟨_, ⟨_, _, rfl, rfl, (by first | exact hdv _ | exact hm | exact .inl (by decide) | exact .inr (by decide) | exact .inr hat | exact .inl hff | decide | omega | exact And.intro (by omega) (by omega) | exact ⟨by decide, by decide, by decide⟩), rfl⟩, ⟨_, ⟨_, _, rfl, rfl, trivial, rfl⟩, (w_op d_mul (w_int (w_name 3 rfl ⟨_, ⟨_, _, rfl, rfl, (by first | exact hdv _ | exact hm | exact .inl (by decide) | exact .inr (by decide) | exact .inr hat | exact .inl hff | decide | omega | exact And.intro (by omega) (by omega) | exact ⟨by decide, by decide, by decide⟩), rfl⟩, ⟨_, ⟨_, _, rfl, rfl, trivial, rfl⟩, (w_int ⟨_, ⟨_, _, rfl, rfl, trivial, rfl⟩, (w_int ⟨_, ⟨_, _, rfl, rfl, (by first | exact hdv _ | exact hm | exact .inl (by decide) | exact .inr (by decide) | exact .inr hat | exact .inl hff | decide | omega | exact And.intro (by omega) (by omega) | exact ⟨by decide, by decide, by decide⟩), rfl⟩, (w_int ⟨_, ⟨_, _, rfl, rfl, (by first | exact hdv _ | exact hm | exact .inl (by decide) | exact .inr (by decide) | exact .inr hat | exact .inl hff | decide | omega | exact And.intro (by omega) (by omega) | exact ⟨by decide, by decide, by decide⟩), rfl⟩, ⟨_, rfl, ?_⟩⟩)⟩)⟩)⟩⟩)))⟩⟩)⟩))))⟩))))))))
        have hb := emod_bd (x := (u % 1000003 + 53 * a * a + 29 * a + 811) * 40009) (m := 2147483629) (by decide)
        have hff : -(2 ^ 64) < (u % 1000003 + 53 * a * a + 29 * a + 811) * 40009 % 2147483629 ∧ (u % 1000003 + 53 * a * a + 29 * a + 811) * 40009 % 2147483629 < 2 ^ 64 := ⟨Int.lt_of_lt_of_le (by decide) hb.1, Int.lt_trans hb.2 (by decide)⟩
        refine sd_dat 5 (w_op d_mod (w_op d_add (w_op d_add (w_op d_mul (w_name 5 rfl (w_name 5 rfl ⟨_, ⟨_, _, rfl, rfl, (by first | exact hdv _ | exact hm | exact .inl (by decide) | exact .inr (by decide) | exact .inr hat | exact .inl hff | decide | omega | exact And.intro (by omega) (by omega) | exact ⟨by decide, by decide, by decide⟩), rfl⟩, (w_op d_mul (w_int (w_name 3 rfl ⟨_, ⟨_, _, rfl, rfl, (by first | exact hdv _ | exact hm | exact .inl (by decide) | exact .inr (by decide) | exact .inr hat | exact .inl hff | decide | omega | exact And.intro (by omega) (by omega) | exact ⟨by decide, by decide, by decide⟩), rfl⟩, ⟨_, ⟨_, _, rfl, rfl, trivial, rfl⟩, (w_int ⟨_, ⟨_, _, rfl, rfl, trivial, rfl⟩, (w_int ⟨_, ⟨_, _, rfl, rfl, (by first | exact hdv _ | exact hm | exact .inl (by decide) | exact .inr (by decide) | exact .inr hat | exact .inl hff | decide | omega | exact And.intro (by omega) (by omega) | exact ⟨by decide, by decide, by decide⟩), rfl⟩, ⟨_, rfl, ?_⟩⟩)⟩)⟩⟩)))⟩))))))
        refine sd_ret (w_close 0 (w_op d_mod (w_op d_fdiv (w_op d_mod (w_op d_mul (w_name 5 rfl (w_int ⟨_, ⟨_, _, rfl, rfl, (by first | exact hdv _ | exact hm | exact .inl (by decide) | exact .inr (by decide) | exact .inr hat | exact .inl hff | decide | omega | exact And.intro (by omega) (by omega) | exact ⟨by decide, by decide, by decide⟩), rfl⟩, (w_int ⟨_, ⟨_, _, rfl, rfl, (by first | exact hdv _ | exact hm | exact .inl (by decide) | exact .inr (by decide) | exact .inr hat | exact .inl hff | decide | omega | exact And.intro (by omega) (by omega) | exact ⟨by decide, by decide, by decide⟩), rfl⟩, (w_int ⟨_, ⟨_, _, rfl, rfl, (by first | exact hdv _ | exact hm | exact .inl (by decide) | exact .inr (by decide) | exact .inr hat | exact .inl hff | decide | omega | exact And.intro (by omega) (by omega) | exact ⟨by decide, by decide, by decide⟩), rfl⟩, (w_name 1 rfl ⟨_, ⟨_, _, rfl, rfl, (by first | exact hdv _ | exact hm | exact .inl (by decide) | exact .inr (by decide) | exact .inr hat | exact .inl hff | decide | omega | exact And.intro (by omega) (by omega) | exact ⟨by decide, by decide, by decide⟩), rfl⟩, ⟨_, _, _, _, _, n + 1, rfl, by omega, by omega, hr, hns, _, _, ⟨_, rfl, (emod_bd hm).1, (emod_bd hm).2, rfl⟩, .inl ⟨_, rfl, rfl⟩, rfl, rfl, rfl⟩⟩)⟩)⟩)⟩)))))))
end K83
set_option maxRecDepth 100000
set_option maxHeartbeats 4000000
namespace K83
open PySem PySem.Spec PyProof.Rows L2

/-! ## defs over the feed -/
structure FdI (ι : Type) where
  f : Addr
  S : Addr
  n : Nat
  i : ι
abbrev spF {ι γ : Type} (K : Nat) (args : ι → List Ar) (pre : ι → Prop) (P : ι → γ → Prop) (g : γ → Ar) : Sp :=
  spO (fun i : FdI ι => .feed i.f i.S i.n) (fun i => args i.i) (fun i => pre i.i ∧ i.n + K ≤ 100000) (fun i r s' => ∃ x n', P i.i x ∧ r = g x ∧ n' ≤ i.n + K ∧ s' = .feed i.f i.S n')
/-- what a return owes -/
def FRet {γ : Type} (K : Nat) (P : γ → Prop) (g : γ → Ar) (f S : Addr) (n : Nat) (r : Ar) (Γ' : List Sv) : Prop := ∃ x n', P x ∧ n' ≤ n + K ∧ RetO Γ' r (g x) ∧ Γ'[0]? = some (.feed f S n')
theorem fn_defF {gv : Gv} {x : Str} {st : Stmt} {N ps : List Str} {k K : Nat} {ι γ : Type} {args : ι → List Ar} {pre : ι → Prop} {P : ι → γ → Prop} {g : γ → Ar} (D : ∃ f fd, FunD gv.K x x (defArgs st) (defBody st) (defScope st) [] [] f fd ∧ gv.mg x = some (.ref f) ∧ Binds gv.K fd ps []) (Sc : FnScope N ps (defScope st))
    (hlen : ∀ i, (args i).length + 1 = ps.length) (hb : ∀ f S n i, pre i → n + K ≤ 100000 → Sd ⟨gv, N, defScope st, k, true, false⟩ (.feed f S n :: startG (N.length - 1) (args i)) (defBody st) { ret := FRet K (P i) g f S n, nx := fun _ => False }) :
    Fn gv (k + 1) x (spF K args pre P g) :=
  fn_defO D Sc (fun i => hlen i.i) fun i hi => by
    intro X hX H0 σ H S1 D1 F
    refine hb i.f i.S i.n i.i hi.1 hi.2 X hX H0 σ H S1 D1 ?_
    exact { F with
      ret := fun H0' r v Γ σ H' s ⟨x, n', h1, h2, h3, h4⟩ => F.ret H0' r v Γ σ H' s ⟨g x, _, ⟨x, n', h1, rfl, h2, rfl⟩, h3, h4, rfl, rfl⟩
      nx := fun _ _ _ _ _ z => z.elim }
theorem fret_dat {γ : Type} {K : Nat} {P : γ → Prop} {g : γ → Ar} {f S : Addr} {n n' : Nat} {d : PyData} {Γ' : List Sv} (x : γ) (h : P x) (hg : g x = .dat d) (hn : n' ≤ n + K) (e : Γ'[0]? = some (.feed f S n')) : FRet K P g f S n (.dat d) Γ' := ⟨x, n', h, hn, .inl ⟨_, rfl, hg⟩, e⟩
section
variable {c : Ct} {Γ : List Sv} {a b e t : Expr} {es : List Expr} {pos pos' p p1 p2 spos : Pos} {Φ : Ar → List Sv → Prop} {po : Po} {rest body : List Stmt}
theorem w_callF {ι γ : Type} {k K : Nat} {x : Str} {args : ι → List Ar} {pre : ι → Prop} {P : ι → γ → Prop} {g : γ → Ar} (j : Nat) (F : Fn c.g k x (spF K args pre P g))
    (h : WA c Γ (e :: es) fun rs Γ1 => ∃ (f S : Addr) (n : Nat) (i : ι) (rs' : List Ar), rs = .raw (.ref f) :: rs' ∧ Γ1[j]? = some (.feed f S n) ∧ n + K ≤ 100000 ∧ AgIs Γ1 rs' (args i) ∧ pre i ∧ ∀ x n', P i x → n' ≤ n + K → CrO Γ1 f (g x) ∧ Φ (g x) (Γ1.set j (.feed f S n')))
    (hk : k ≤ c.k := by exact Nat.le_of_ble_eq_true rfl) (hg : c.sc.names.lookup x = some .globalImplicit := by rfl) (hdb : (x == ("__debug__" : Str)) = false := by decide)
    (he : ∀ env : Env, starEach (e :: es) env = (false, eval e env) :: starEach es env := by intro _; rfl) (hpl : ∀ env : Env, (backTo pos (starEach es env)).any (·.1) = false := by intro _; rfl) : W c Γ (.Call (.Name x p) (e :: es) [] pos) Φ :=
  w_callO j F (fun X hX H0 σ H S Q q => h X hX H0 σ H S Q fun H0' rs Γ' vs H' s ⟨f, S1, n, i, rs', e1, e2, e3, e4, e5, e6⟩ => q H0' rs Γ' vs H' s ⟨⟨f, S1, n, i⟩, .ref f, rs', f, e1, e2, fun _ _ _ z => z.1, rfl, e4, (fun _ _ _ z => by rw [e2] at z; exact nomatch z), ⟨e5, e3⟩, fun r s' hr => by
    obtain ⟨x, n', g1, rfl, g2, rfl⟩ := hr
    obtain ⟨c1, c2⟩ := e6 x n' g1 g2
    exact ⟨rfl, rfl, c1, c2⟩⟩) hk hg hdb he hpl
theorem w_draw (j : Nat) (F : Fn c.g 1 "_law_draw" spDraw)
    (h : WA c Γ [a, b] fun rs Γ1 => ∃ (f S : Addr) (n : Nat) (m : Int), rs = [.raw (.ref f), .dat (.int m)] ∧ Γ1[j]? = some (.feed f S n) ∧ (0 < m ∧ m < 1073741824 ∧ n ≤ 100000) ∧ ∀ v : Nat, (v : Int) < m → Φ (.dat (.int v)) (Γ1.set j (.feed f S (n + 1))))
    (hk : 1 ≤ c.k := by exact Nat.le_of_ble_eq_true rfl) (hg : c.sc.names.lookup ("_law_draw" : Str) = some .globalImplicit := by rfl)
    (he : ∀ env : Env, starEach [a, b] env = (false, eval a env) :: starEach [b] env := by intro _; rfl) (hpl : ∀ env : Env, (backTo pos (starEach [b] env)).any (·.1) = false := by intro _; rfl) : W c Γ (.Call (.Name "_law_draw" p) [a, b] [] pos) Φ :=
  w_callO j F (fun X hX H0 σ H S Q q => h X hX H0 σ H S Q fun H0' rs Γ' vs H' s ⟨f, S1, n, m, e1, e2, e3, e4⟩ => q H0' rs Γ' vs H' s ⟨⟨f, S1, n, m⟩, .ref f, _, f, e1, e2, fun _ _ _ z => z.1, rfl, agis_dat agis_nil, (fun _ _ _ z => by rw [e2] at z; exact nomatch z), e3, fun r s' hr => by
    obtain ⟨v, rfl, g1, g2, rfl⟩ := hr
    obtain ⟨u, rfl⟩ := Int.eq_ofNat_of_zero_le g1
    exact ⟨rfl, rfl, trivial, e4 u g2⟩⟩) hk hg (by decide) he hpl
end

/-! ## a comprehension over the feed -/
theorem keys_set {Γ : List Sv} {i : Nat} {s : Sv} : keys (Γ.set i s) = (keys Γ).set i s.key := by
  unfold keys
  rw [List.map_set]
theorem keys_wipe {Γ Γ' : List Sv} (h : keys Γ = keys Γ') : ∀ vs : List Nat, keys (wipeG Γ vs) = keys (wipeG Γ' vs)
  | [] => h
  | v :: vs => by
    show keys ((wipeG Γ vs).set v .no) = keys ((wipeG Γ' vs).set v .no)
    rw [keys_set, keys_set, keys_wipe h vs]
theorem keys_feed {Γ : List Sv} {j : Nat} {f S : Addr} {n n' : Nat} (h : Γ[j]? = some (.feed f S n)) : keys (Γ.set j (.feed f S n')) = keys Γ := by
  rw [keys_set]
  refine List.ext_getElem? fun m => ?_
  by_cases e : j = m
  · subst e
    have hl : j < (keys Γ).length := by
      unfold keys
      rw [List.length_map]
      exact (List.getElem?_eq_some_iff.mp h).1
    rw [List.getElem?_set_self hl]
    unfold keys
    rw [List.getElem?_map, h] <;> rfl
  · rw [List.getElem?_set_ne e]
section
variable {c : Ct} {Γ : List Sv} {pos : Pos} {tg iter elt e : Expr} {scope : Scope} {own : List (Str × Nat)} {t : Tg} {Φ : Ar → List Sv → Prop}
theorem set_back {Γ : List Sv} {j : Nat} {s : Sv} (h : Γ[j]? = some s) : Γ.set j s = Γ := by
  obtain ⟨hl, e⟩ := List.getElem?_eq_some_iff.mp h
  rw [← e]
  exact List.set_getElem_self hl
theorem lcF {β : Type} {bs : List β} {f : β → PyData} {K : Nat} {fa S : Addr} {n : Nat} (j : Nat) (Good : β → PyData → Prop) (hj : Γ[j]? = some (.feed fa S n)) (hlen : bs.length ≤ 100000)
    (hb : ∀ b ∈ bs, ∀ n', n' + K ≤ n + K * bs.length → t.fits (f b) ∧ W (c.blk scope) (t.put (f b) (wipeG (Γ.set j (.feed fa S n')) (own.map (·.2)))) elt fun r Γ'' => ∃ e n'', r = .dat e ∧ Good b e ∧ n'' ≤ n' + K ∧ wipeG Γ'' (own.map (·.2)) = wipeG (Γ.set j (.feed fa S n'')) (own.map (·.2)))
    (h : ∀ es n', Paired Good bs es → n' ≤ n + K * bs.length → Φ (.new es) (wipeG (Γ.set j (.feed fa S n')) (own.map (·.2)))) : LcJ c scope t (own.map (·.2)) [] elt (bs.map f) Γ Φ := by
  refine ⟨fun k acc Γ' => ∃ n', n' ≤ n + K * k ∧ Paired Good (bs.take k) acc ∧ wipeG Γ' (own.map (·.2)) = wipeG (Γ.set j (.feed fa S n')) (own.map (·.2)), by rw [List.length_map]; exact hlen, ⟨n, Nat.le_refl _, .nil, by rw [set_back hj]⟩, fun k acc Γ' ⟨n', _, _, e⟩ => ?_, fun k d acc Γk hk ⟨n', h1, h2, h3⟩ => ?_, fun acc Γ' ⟨n', h1, h2, h3⟩ => ?_⟩
  · rw [e]
    exact keys_wipe (keys_feed hj) _
  · rw [List.getElem?_map] at hk
    obtain ⟨b, eb, ed⟩ := Option.map_eq_some_iff.mp hk
    subst ed
    have hkl : k < bs.length := (List.getElem?_eq_some_iff.mp eb).1
    have hK : K * k + K ≤ K * bs.length := by
      have := Nat.mul_le_mul_left K (Nat.succ_le_of_lt hkl)
      rw [Nat.mul_succ] at this
      exact this
    obtain ⟨g1, g2⟩ := hb b (List.mem_of_getElem? eb) n' (by omega)
    rw [h3]
    refine ⟨g1, ?_⟩
    refine W.imp g2 fun r Γ'' ⟨e, n'', r1, r2, r3, r4⟩ => ⟨e, r1, n'', ?_, ?_, r4⟩
    · rw [Nat.mul_succ]; omega
    · rw [take_next eb]
      exact Paired.snoc' h2 r2
  · rw [List.length_map] at h1 h2
    rw [List.take_length] at h2
    rw [h3]
    exact h acc n' h2 h1
end
theorem paired_map {β γ : Type} {g : γ → PyData} {P : β → γ → Prop} : ∀ {bs : List β} {es : List PyData}, Paired (fun b e => ∃ x, e = g x ∧ P b x) bs es → ∃ xs : List γ, es = xs.map g ∧ Paired P bs xs
  | _, _, .nil => ⟨[], rfl, .nil⟩
  | _, _, .cons ⟨x, e, h⟩ t => by
    obtain ⟨xs, e2, h2⟩ := paired_map t
    exact ⟨x :: xs, by rw [e, e2] <;> rfl, .cons h h2⟩

/-! ## data with lists -/
section
variable {c : Ct} {Γ : List Sv} {a b e : Expr} {es : List Expr} {pos pos' : Pos} {Φ : Ar → List Sv → Prop} {po : Po} {rest : List Stmt}
theorem ArOk.fzl {H0 H : Hp} {v : V} {ds : List PyData} (o : ArOk H0 H Γ v (.lst ds)) (tk : Tk H (reb Γ H)) : Fz (reb Γ H) v (.list ds) := by
  obtain ⟨p, vs, rfl, hn, hp, hi⟩ := o
  exact .lst (by rw [reb_out hn]; exact hp) (IsAll.fz tk _ _ hi)
/-- data, or a list of data -/
def FzR (r : Ar) (d : PyData) : Prop := r.weak = .dat d ∨ r.weak = .fz d ∨ ∃ ds, r.weak = .lst ds ∧ d = .list ds
theorem FzR.get {H0 H : Hp} {σ : L2.St} {v : V} {r : Ar} {d : PyData} (S : Kn H0 Γ σ H) (h : FzR r d) (o : ArOk H0 H Γ v r) : Fz (reb Γ H) v d := by
  have o' := o.weaken
  rcases h with e | e | ⟨ds, e, rfl⟩
  · rw [e] at o'
    exact Is.fz S.tkb _ _ o'
  · rw [e] at o'
    exact o'
  · rw [e] at o'
    exact ArOk.fzl o' S.tkb
theorem FzR.all {H0 H : Hp} {σ : L2.St} (S : Kn H0 Γ σ H) : ∀ {rs : List Ar} {vs : List V} {ds : List PyData}, Paired FzR rs ds → ArAll H0 H Γ vs rs → FzAll (reb Γ H) vs ds
  | _, _, _, .nil, .nil => .nil
  | _, _, _, .cons h t, .cons o ot => .cons (h.get S o) (FzR.all S t ot)
/-- [..], lists among them -/
theorem w_lstF (h : WA c Γ es fun rs Γ1 => ∃ ds, Paired FzR rs ds ∧ ds.length ≤ 100 ∧ Φ (.fz (.list ds)) Γ1) : W c Γ (.List es pos) Φ := fun X hX H0 σ H S Q q =>
  (pe_lst pa_wa).we (h X hX H0 σ H S _ fun H0' rs Γ' vs H' s ⟨ds, e1, hl, ph⟩ S' o => by
    have fa := FzR.all S' e1 o
    refine ⟨Nat.le_trans (by rw [fa.len]; exact hl) (by decide), fun t ht => ?_⟩
    have nt : t ∉ ptrs Γ' := S'.not_own ht
    refine q H0' _ Γ' _ _ s ph (S'.same (Same.new ht)) (Fz.lst (xs := vs) (by rw [reb_out nt]; exact upd_same) (FzAll.on (fun z u hz => ?_) _ _ fa))
    by_cases m : z ∈ ptrs Γ'
    · rw [reb_in m] at hz; cases hz
    · rw [reb_out m] at hz ⊢
      exact Same.new ht _ _ hz)
theorem Fz.lstInv {H : Hp} {v : V} {ds : List PyData} (h : Fz H v (.list ds)) : ∃ p vs, v = .ref p ∧ H p = some (.lst vs) ∧ FzAll H vs ds := by
  cases h with
  | lst h1 h2 => exact ⟨_, _, rfl, h1, h2⟩
/-- x + y, lists of lists -/
theorem w_catF (h : W c Γ a fun r1 Γ1 => W c Γ1 b fun r2 Γ2 => ∃ ds es, r1.weak = .fz (.list ds) ∧ r2 = .fz (.list es) ∧ ds.length + es.length ≤ 1000000 ∧ Φ (.fz (.list (ds ++ es))) Γ2) : W c Γ (.BinOp a .Add b pos) Φ := fun X hX H0 σ H S Q q =>
  (pe_op op_cat pe_we pe_we).we (seq2 hX S h fun H0' r1 r2 Γ2 v1 v2 H2 s ⟨ds, es, e1, e2, hl, ph⟩ S2 o1 o2 => by
    rw [e1] at o1
    subst e2
    obtain ⟨t1, xs, rfl, h1, i1⟩ := Fz.lstInv o1
    obtain ⟨t2, ys, rfl, h2, i2⟩ := Fz.lstInv o2
    refine ⟨t1, t2, xs, ys, rfl, rfl, reb_some h1, reb_some h2, Nat.le_trans (by rw [i1.len, i2.len]; exact hl) (by decide), fun l hn => ?_⟩
    have nt : l ∉ ptrs Γ2 := S2.not_own hn
    refine q H0' _ Γ2 _ _ s ph (S2.same (Same.new hn)) (Fz.lst (xs := xs ++ ys) (by rw [reb_out nt]; exact upd_same) (FzAll.on (fun z u hz => ?_) _ _ (i1.app i2)))
    by_cases m : z ∈ ptrs Γ2
    · rw [reb_in m] at hz; cases hz
    · rw [reb_out m] at hz ⊢
      exact Same.new hn _ _ hz)
/-- flat data in a list that nobody changes -/
theorem FzAll.flat {H : Hp} : ∀ {ds : List PyData} {vs : List V}, (∀ d ∈ ds, flatD d = true ∧ ∀ xs, d ≠ .tuple xs) → FzAll H vs ds → IsAll H vs ds
  | [], _, _, h => by cases h; exact .nil
  | d :: ds, _, hf, h => by
    cases h with
    | cons h1 h2 =>
      refine .cons ?_ (FzAll.flat (fun x hx => hf x (List.mem_cons_of_mem _ hx)) h2)
      have hd := hf d List.mem_cons_self
      cases h1 with
      | non => exact .non
      | bl b => exact .bl b
      | int i => exact .int i
      | str x => exact .str x
      | tup _ _ => exact absurd rfl (hd.2 _)
      | nic _ _ => exact absurd rfl (hd.2 _)
      | lst _ _ => exact absurd hd.1 (by simp [flatD])
theorem FzAll.atI {H : Hp} {ds : List PyData} {vs : List V} {i : Int} {d : PyData} (h : FzAll H vs ds) (e : L2.atI ds i = some d) : ∃ v, L2.atI vs i = some v ∧ Fz H v d := by
  obtain ⟨j, h1, h2, h3, h4, h5⟩ := atI_get e
  obtain ⟨v, hv, hi⟩ := h.get h2
  refine ⟨v, ?_, hi⟩
  unfold L2.atI at e ⊢
  rw [h.len]
  cases q : ixN ds.length i with
  | none => rw [q] at e; cases e
  | some j' =>
    rw [q] at e
    obtain ⟨h6, _, _, _⟩ := ixN_seq q
    rw [h1] at h6
    cases h6
    exact hv
/-- x[i], x a list of lists of flat data -/
theorem w_ixF (h : W c Γ a fun r1 Γ1 => W c Γ1 b fun r2 Γ2 => ∃ ds i es, r1.weak = .fz (.list ds) ∧ r2 = .dat (.int i) ∧ atI ds i = some (.list es) ∧ (∀ d ∈ es, flatD d = true ∧ ∀ xs, d ≠ .tuple xs) ∧ Φ (.lst es) Γ2) (hs : PlainIx b := by exact fun _ _ => rfl) : W c Γ (.Subscript a b pos) Φ := fun X hX H0 σ H S Q q =>
  (pe_ix ix_list pe_we pe_we hs).we (seq2 hX S h fun H0' r1 r2 Γ2 v1 v2 H2 s ⟨ds, i, es, e1, e2, e3, e4, ph⟩ S2 o1 o2 => by
    subst e2
    have ei := Is.intInv o2
    rw [e1] at o1
    obtain ⟨t, xs, et, ht, hi⟩ := Fz.lstInv o1
    obtain ⟨v, ev, fv⟩ := hi.atI e3
    obtain ⟨t2, ys, e2, ht2, hi2⟩ := Fz.lstInv fv
    refine ⟨t, xs, i, v, et, ei, SqL.of (reb_some ht), ev, ?_⟩
    have np : t2 ∉ ptrs Γ2 := fun z => by rw [reb_in z] at ht2; cases ht2
    have ia := FzAll.flat e4 hi2
    have tk : Tk (reb Γ2 H2) H2 := fun x xs z => reb_some z
    exact q H0' _ Γ2 v H2 s ph S2 ⟨t2, ys, e2, np, reb_some ht2, IsAll.tk tk _ _ ia⟩)
/-- x = e, data with lists -/
theorem sd_fz (i : Nat) {x : Str} (h : W c Γ e fun r Γ1 => ∃ d, r = .fz d ∧ Sd c (Γ1.set i (.fz d)) rest po) (hs : ∀ env : Env, env.scope = c.sc → swapsWith e (some (.Name x pos')) pos.line env = pure false := by intro _ _; rfl)
    (hN : c.N[i]? = some x := by rfl) (hx : Loc c.sc x := by first | exact Or.inl rfl | exact Or.inr rfl) (ht : c.top = true := by rfl) : Sd c Γ (.Assign [.Name x pos'] e pos :: rest) po := fun X hX H0 σ H S D F =>
  (pss_cons (ps_set hX.ndX (hX.at_ hN) (by rw [hX.sc]; exact hx) pe_we (hs X.env hX.sc) (.inl (hX.fn ht x))) pss_ws).wss (h X hX H0 σ H S _ fun H0' r Γ' v H' s ⟨d, e1, ph⟩ S' o => by
    subst e1
    exact ph X hX _ _ H' (S'.rebase.store (s := .fz d) (fun _ => ⟨v, rfl, o⟩) fun p e => nomatch e) D (F.up (s.trans S'.under)))
end
end K83
set_option maxRecDepth 100000
set_option maxHeartbeats 4000000
namespace K83
open PySem PySem.Spec PyProof.Rows L2

/-! ## defs that are called where nothing is being shown -/
structure FnGOk (g : Gv) (k : Nat) (f : Addr) (fd : FuncData) (ps : List Str) (sp : Sp) : Prop where
  len : ∀ vs H Q E, sp vs H Q E → vs.length = ps.length
  run : ∀ (A : Around) (st : List Env) (s : Shared) (H : Hp) (ag : Args) (us : List Value) (vs : List V) (Q : VK) (E : XK), A.guards = some [] → Room k A → Env0 g.P g.w g.K g.mg g.base A st s H → BindsTo s fd ag (ps.zip us) → Vals vs us → sp vs H Q E →
    codeAny (model g.P g.w) A (.call (.ref f) ag) (CR CX0 st g.P g.w H s Q E) s
/-- such a def, from its body -/
theorem fnG_of {g : Gv} {x qual : Str} {st : Stmt} {f : Addr} {fd : FuncData} {N ps : List Str} {k : Nat} {sp : Sp} (F : FunD g.K x qual (defArgs st) (defBody st) (defScope st) [] [] f fd) (Sc : FnScope N ps (defScope st))
    (len : ∀ vs H Q E, sp vs H Q E → vs.length = ps.length)
    (hb : ∀ vs H Q E, sp vs H Q E → ∀ X, InC ⟨g, N, defScope st, k, true, true⟩ X → WSs X (defBody st) { nx := fun _ H' => Q .non H', rt := Q } (L2.start N vs) H) : FnGOk g (k + 1) f fd ps sp := by
  obtain ⟨oc, od, dV, kV, doc, pm, an, cdv, ct, osl, rfl, lk, hcd, _, _⟩ := F.ex
  refine ⟨len, fun A out s H ag us vs Q E gd room env bind vals hsp => ?_⟩
  have inK : g.K.In s.heap := env.mod.kin.keeps fun b o z => (env.bs b o z).1
  have nol : s.heap.NoLimit := env.mod.nolimit.keeps fun b o z => (env.bs b o z).1
  have kinds : ∀ y ∈ ps.zip us, (defScope st).names.lookup y.1 = some .local ∨ ((defScope st).names.lookup y.1 = some .cell ∧ ((cellsFrom (s.heap.objs.size + 1) (defScope st).names []).lookup y.1).isSome = true) := by
    intro y hy
    obtain ⟨n, v⟩ := y
    rcases Sc.par n (List.of_mem_zip hy).1 with z | z
    · left; exact z
    · right; exact ⟨z, PySem.W.cellsFrom_some _ _ _ (.inl z)⟩
  refine codeAny_call_function room.depth (inK _ _ lk) rfl Sc.co Sc.gen rfl (PySem.W.codeRec_of inK hcd) (bind _ _ _ _ ?_)
  refine wpAny_newFunctionEnv_cells Sc.kind kinds fun env1 he1 s1 x1 => ?_
  subst he1
  refine ⟨nol.keeps x1.toInCall.keep, codeAny_func ?_⟩
  let Y : Cx := cxOf CX0 g.P g.w g.K g.mg g.base N qual (defScope st) f cdv A out s H E
  have hX : InC ⟨g, N, defScope st, k, true, true⟩ Y.nox := ⟨rfl, rfl, rfl, rfl, rfl, rfl, Sc.nd, rfl, rfl, room.deeper _, fun _ _ => rfl, fun _ => gd, rfl⟩
  have I : Inv Y [] (L2.start N vs) H s1 := inv_start Sc room.hd env (len _ _ _ _ hsp) vals x1
  have pb : PSs Y (defBody st) (WSs Y.nox (defBody st)) := PSs.nox pss_ws
  refine wpAny_mono (pb.run [] s1 (L2.start N vs) H _ I (hb vs H Q E hsp Y.nox hX)) (fun fl s2 hs => ?_) fun e s2 hs => hs
  have done : ∀ {σ2 : L2.St} {H2 : Hp} {v : V} {u : Value}, Inv Y [] σ2 H2 s2 → RelV v u → Q v H2 → CE out g.P g.w H s Q u s2 := by
    intro σ2 H2 v u J rv q
    exact ⟨v, H2, J.os, J.bare, J.base, J.hok, rv, q⟩
  cases fl with
  | next =>
    obtain ⟨σ2, H2, J, q⟩ := hs
    exact done (v := V.non) (u := Value.none) J rfl q
  | ret u =>
    obtain ⟨v, σ2, H2, J, rv, q⟩ := hs
    exact done J rv q
  | brk =>
    obtain ⟨_, _, _, q⟩ := hs
    exact q.elim
  | cont =>
    obtain ⟨_, _, _, q⟩ := hs
    exact q.elim
structure FnG (g : Gv) (k : Nat) (x : Str) (sp : Sp) : Prop where
  ex : ∃ (f : Addr) (fd : FuncData) (ps : List Str), FnGOk g k f fd ps sp ∧ g.mg x = some (.ref f) ∧ PySem.W.keepIn g.K (.ref f) = true ∧ Binds g.K fd ps []
theorem fn_defG {g : Gv} {x : Str} {st : Stmt} {N ps : List Str} {k : Nat} {sp : Sp} (D : DefAt g x st ps) (Sc : FnScope N ps (defScope st)) (len : ∀ vs H Q E, sp vs H Q E → vs.length = ps.length)
    (hb : ∀ vs H Q E, sp vs H Q E → ∀ X, InC ⟨g, N, defScope st, k, true, true⟩ X → WSs X (defBody st) { nx := fun _ H' => Q .non H', rt := Q } (L2.start N vs) H) : FnG g (k + 1) x sp := by
  obtain ⟨f, fd, F, gm, bd⟩ := D
  exact ⟨f, fd, ps, fnG_of F Sc len hb, gm, F.kp, bd⟩
section
variable {c : Ct} {Γ : List Sv} {a b e : Expr} {es : List Expr} {pos p : Pos} {Φ : Ar → List Sv → Prop}
/-- a call of such a def -/
theorem pe_callG {X : Cx} {k : Nat} {f : Addr} {fd : FuncData} {ps : List Str} {sp : Sp} {x : Str} {t : TA} (hX : InC c X) (hgd : c.gd = true) (F : FnGOk c.g k f fd ps sp) (hk : k ≤ c.k) (hg : Gl X x) (hm : X.mg x = some (.ref f)) (kp : PySem.W.keepIn X.K (.ref f) = true) (bd : Binds X.K fd ps [])
    (ha : PA X (e :: es) t) (hdb : (x == ("__debug__" : Str)) = false) (he : starEach (e :: es) X.env = (false, eval e X.env) :: starEach es X.env) (hpl : (backTo pos (starEach es X.env)).any (·.1) = false) :
    PE X (.Call (.Name x p) (e :: es) [] pos) (tCall sp [] E0 t) := by
  constructor
  intro pins s σ H Q I h
  refine wpAny_Call_Name_kw (ld_glob I hg hm ?_ hdb)
  refine PySem.W.callWith_K (h₀ := X.base) I.ok.mod.kin kp (thn (ha.run pos pins s σ H _ I h) fun us s1 => ?_) he hpl
  rintro ⟨vs, H1, I1, r, q⟩
  refine ⟨I1.kIn, ?_⟩
  have q' : sp vs H1 Q E0 := by rw [← List.append_nil vs]; exact q
  have hl : us.length = ps.length := by rw [← r.length]; exact F.len _ _ _ _ q'
  have bd' := bd s1 us I1.kIn (by rw [List.append_nil]; exact hl)
  rw [List.append_nil] at bd'
  have ev : Env0 c.g.P c.g.w c.g.K c.g.mg c.g.base X.A X.stack s1 H1 := by
    have := I1.env0
    rw [hX.P, hX.w, hX.K, hX.mg, hX.base] at this
    exact this
  have go := F.run X.A X.stack s1 H1 ⟨us, []⟩ us vs Q E0 (hX.gd hgd) (hX.room.mono hk) ev bd' r q'
  rw [← hX.P, ← hX.w] at go
  refine wpAny_call (codeAny_mono go fun r s' hq => ?_)
  cases r with
  | error e => exact pass0 (X := X) pins σ H1 s1 e s' I1 hq
  | ok fl =>
    cases fl with
    | ret u => exact I1.after hq
    | next => exact hq.elim
    | brk => exact hq.elim
    | cont => exact hq.elim
end
end K83
set_option maxRecDepth 100000
set_option maxHeartbeats 400000
namespace K83
open PySem PySem.Spec PyProof.Rows L2
def tx (s : Str) (h : s.length ≤ 8 ∧ PyData.strOk s = true := by decide +kernel) : Tx := ⟨s, h⟩
def strL (l : List Tx) : List PyData := l.map fun y => .str y.1
def wordsL : List (List Tx) := [[tx "a", tx "aa", tx "aaa", tx "ab", tx "b"], [tx "move", tx "bag", tx "read", tx "count", tx "void"], [tx "vault", tx "press", tx "out", tx "ash", tx "till"], [tx "banka", tx "bankb", tx "bankc", tx "tell", tx "office"]]
def seriesL : List (List Tx) := [[tx "a", tx "b", tx "c"], [tx "ab", tx "abc", tx "b"], [tNone, tx "move", tx "x"]]
theorem strL_flat (l : List Tx) : ∀ d ∈ strL l, flatD d = true ∧ ∀ xs, d ≠ .tuple xs := fun d hd => by
  obtain ⟨y, _, rfl⟩ := List.mem_map.mp hd
  exact ⟨rfl, fun xs h => by cases h⟩
theorem lists_at {l : List (List Tx)} {v : Nat} (h : v < l.length) : ∃ ws ∈ l, L2.atI (l.map fun ws => PyData.list (strL ws)) (v : Int) = some (.list (strL ws)) :=
  ⟨l[v], List.getElem_mem h, atI_nat (by rw [List.getElem?_map, List.getElem?_eq_getElem h] <;> rfl)⟩
theorem words_eq : (wordsL.map fun ws => PyData.list (strL ws)) = [PyData.list [.str "a", .str "aa", .str "aaa", .str "ab", .str "b"], .list [.str "move", .str "bag", .str "read", .str "count", .str "void"]] ++ [PyData.list [.str "vault", .str "press", .str "out", .str "ash", .str "till"], .list [.str "banka", .str "bankb", .str "bankc", .str "tell", .str "office"]] := by
  simp only [wordsL, strL, tx, List.map_cons, List.map_nil, List.cons_append, List.nil_append]
theorem series_eq : (seriesL.map fun ws => PyData.list (strL ws)) = [PyData.list [.str "a", .str "b", .str "c"], .list [.str "ab", .str "abc", .str "b"], .list [.str "none", .str "move", .str "x"]] := by
  simp only [seriesL, strL, tx, tNone, List.map_cons, List.map_nil, List.cons_append, List.nil_append]
theorem swaps_list {es : List Expr} {p : Pos} {t : Option Expr} {l : Nat} {env : Env} : swapsWith (.List es p) t l env = pure false := by
  unfold swapsWith
  rfl
theorem swaps_bin {a b : Expr} {o : Operator} {p : Pos} {t : Option Expr} {l : Nat} {env : Env} : swapsWith (.BinOp a o b p) t l env = pure false := by
  unfold swapsWith
  rfl

theorem sc_law_words : FnScope ["_law_feed_here", "_law_some"] ["_law_feed_here"] (defScope (topS 67)) := ⟨rfl, rfl, rfl, by decide +kernel, rfl, by decide +kernel, by decide +kernel⟩
theorem F_law_words {g : Gv} (G : GL g) : Fn g 2 "_law_words" (spF 1 (fun _ : Unit => []) (fun _ => True) (fun _ ws => ws ∈ wordsL) fun ws : List Tx => .lst (strL ws)) := by
  refine fn_defF (k := 1) G.l_words sc_law_words (fun _ => rfl) fun f S n _ _ hn => ?_
  show Sd _ [.feed f S n, .no] [_, _, _] _
  refine @sd_fz _ _ _ _ _ _ _ 1 _ ?h1 ?h2 ?h3 ?h4 ?h5
  case h2 => intro _ _; exact swaps_list
  case h3 => rfl
  case h4 => exact Or.inl rfl
  case h5 => rfl
  refine (w_lstF (wa_cons (w_lst (wa_cons (w_str (wa_cons (w_str (wa_cons (w_str (wa_cons (w_str (wa_cons (w_str (wa_nil ⟨[_, _, _, _, _], rfl, by exact Nat.le_of_ble_eq_true rfl, (wa_cons (w_lst (wa_cons (w_str (wa_cons (w_str (wa_cons (w_str (wa_cons (w_str (wa_cons (w_str (wa_nil ⟨[_, _, _, _, _], rfl, by exact Nat.le_of_ble_eq_true rfl, (wa_nil ⟨_, .cons (.inr (.inr ⟨_, rfl, rfl⟩)) (.cons (.inr (.inr ⟨_, rfl, rfl⟩)) (.nil)), by exact Nat.le_of_ble_eq_true rfl, ⟨_, rfl, ?_⟩⟩)⟩)))))))))))))⟩))))))))))))))
  refine @sd_fz _ _ _ _ _ _ _ 1 _ ?k1 ?k2 ?k3 ?k4 ?k5
  case k2 => intro _ _; exact swaps_bin
  case k3 => rfl
  case k4 => exact Or.inl rfl
  case k5 => rfl
  refine (w_catF (w_name 1 rfl (w_lstF (wa_cons (w_lst (wa_cons (w_str (wa_cons (w_str (wa_cons (w_str (wa_cons (w_str (wa_cons (w_str (wa_nil ⟨[_, _, _, _, _], rfl, by exact Nat.le_of_ble_eq_true rfl, (wa_cons (w_lst (wa_cons (w_str (wa_cons (w_str (wa_cons (w_str (wa_cons (w_str (wa_cons (w_str (wa_nil ⟨[_, _, _, _, _], rfl, by exact Nat.le_of_ble_eq_true rfl, (wa_nil ⟨_, .cons (.inr (.inr ⟨_, rfl, rfl⟩)) (.cons (.inr (.inr ⟨_, rfl, rfl⟩)) (.nil)), by exact Nat.le_of_ble_eq_true rfl, ⟨_, _, rfl, rfl, by exact Nat.le_of_ble_eq_true rfl, ⟨_, rfl, ?_⟩⟩⟩)⟩)))))))))))))⟩))))))))))))))))
  refine sd_ret (w_ixF (w_name 1 rfl (w_draw 0 (F_draw G) (wa_cons (w_name 0 rfl (wa_cons (w_int (wa_nil ⟨_, _, _, _, rfl, rfl, (by refine ⟨?_, ?_, ?_⟩ <;> first | omega | (simp only [List.length_map, List.length_append, List.length_cons, List.length_nil, List.length_take] at *; omega)), fun v hv => ?_⟩))))))))
  obtain ⟨ws, hw, hat⟩ := lists_at (l := wordsL) (v := v) (by show v < 4; omega)
  rw [words_eq] at hat
  exact ⟨_, _, _, rfl, rfl, hat, strL_flat ws, ⟨ws, _, hw, Nat.le_refl _, .inr (.inr (.inl ⟨_, rfl, rfl⟩)), rfl⟩⟩
end K83
set_option maxRecDepth 100000
set_option maxHeartbeats 400000
namespace K83
open PySem PySem.Spec PyProof.Rows L2
theorem ints_at {l : List Int} {v : Nat} (h : v < l.length) : ∃ x ∈ l, L2.atI (l.map PyData.int) (v : Int) = some (.int x) :=
  ⟨l[v], List.getElem_mem h, atI_nat (by rw [List.getElem?_map, List.getElem?_eq_getElem h] <;> rfl)⟩
theorem txs_at {l : List Tx} {v : Nat} (h : v < l.length) : ∃ x ∈ l, L2.atI (strL l) (v : Int) = some (.str x.1) :=
  ⟨l[v], List.getElem_mem h, atI_nat (by unfold strL; rw [List.getElem?_map, List.getElem?_eq_getElem h] <;> rfl)⟩
def handsL : List Tx := [tx "a", tx "ab", tx "b", tx "bcdefghi"]
theorem hands_eq : strL handsL = [.str "a", .str "ab", .str "b", .str "bcdefghi"] := by
  simp only [handsL, strL, tx, List.map_cons, List.map_nil]
theorem hands_word : ∀ w ∈ handsL, Word w := by
  intro w hw
  simp only [handsL, List.mem_cons, List.not_mem_nil, or_false] at hw
  rcases hw with rfl | rfl | rfl | rfl <;> exact ⟨by decide +kernel, by decide +kernel⟩

theorem sc_law_name : FnScope ["_law_feed_here", "_law_days", "_law_hand"] ["_law_feed_here"] (defScope (topS 71)) := ⟨rfl, rfl, rfl, by decide +kernel, rfl, by decide +kernel, by decide +kernel⟩
theorem F_law_name {g : Gv} (G : GL g) : Fn g 2 "_law_name" (spF 5 (fun _ : Unit => []) (fun _ => True) (fun _ n => NmOk n) fun n : Nm => .dat (nmD n)) := by
  refine fn_defF (k := 1) G.l_name sc_law_name (fun _ => rfl) fun f S n _ _ hn => ?_
  show Sd _ [.feed f S n, .no, .no] [_, _, _] _
  refine sd_own 1 (w_lst (wa_cons (w_draw 0 (F_draw G) (wa_cons (w_name 0 rfl (wa_cons (w_int (wa_nil ⟨_, _, _, _, rfl, rfl, (by refine ⟨?_, ?_, ?_⟩ <;> first | omega | (simp only [List.length_map, List.length_append, List.length_cons, List.length_nil, List.length_take] at *; omega)), fun u hu => (wa_cons (w_op d_add (w_int (w_draw 0 (F_draw G) (wa_cons (w_name 0 rfl (wa_cons (w_int (wa_nil ⟨_, _, _, _, rfl, rfl, (by refine ⟨?_, ?_, ?_⟩ <;> first | omega | (simp only [List.length_map, List.length_append, List.length_cons, List.length_nil, List.length_take] at *; omega)), fun v hv => ⟨_, ⟨_, _, rfl, rfl, trivial, rfl⟩, (wa_cons (w_int (wa_nil ⟨[_, _, _], rfl, by exact Nat.le_of_ble_eq_true rfl, ⟨_, rfl, fun p => ?_⟩⟩)))⟩⟩)))))))))⟩))))))))
  refine sd_dat 2 (w_ix (w_lst (wa_cons (w_str (wa_cons (w_str (wa_cons (w_str (wa_cons (w_str (wa_nil ⟨[_, _, _, _], rfl, by exact Nat.le_of_ble_eq_true rfl, (w_draw 0 (F_draw G) (wa_cons (w_name 0 rfl (wa_cons (w_int (wa_nil ⟨_, _, _, _, rfl, rfl, (by refine ⟨?_, ?_, ?_⟩ <;> first | omega | (simp only [List.length_map, List.length_append, List.length_cons, List.length_nil, List.length_take] at *; omega)), fun w hw => ?_⟩))))))⟩)))))))))))
  obtain ⟨hd, hhd, hat⟩ := txs_at (l := handsL) (v := w) (by show w < 4; omega)
  rw [hands_eq] at hat
  refine ⟨_, _, _, .inr (.inr (.inl rfl)), rfl, hat, _, rfl, ?_⟩
  show Sd _ [.feed f S (n + 1 + 1 + 1), .own p [.int u, .int (8 + v), .int 99999], .dat (.str hd.1)] [_] _
  refine sd_ret (w_tup (wa_cons (w_ix (w_name 1 rfl (w_ix (w_lst (wa_cons (w_int (wa_cons (w_int (wa_cons (w_int (wa_cons (w_int (wa_cons (w_int (wa_nil ⟨[_, _, _, _, _], rfl, by exact Nat.le_of_ble_eq_true rfl, (w_draw 0 (F_draw G) (wa_cons (w_name 0 rfl (wa_cons (w_int (wa_nil ⟨_, _, _, _, rfl, rfl, (by refine ⟨?_, ?_, ?_⟩ <;> first | omega | (simp only [List.length_map, List.length_append, List.length_cons, List.length_nil, List.length_take] at *; omega)), fun a ha => ?_⟩))))))⟩)))))))))))))))))
  obtain ⟨ix, hix, hat2⟩ := ints_at (l := [0, 0, 1, 1, 2]) (v := a) (by show a < 5; omega)
  have hday : ∃ dd : Int, L2.atI [PyData.int u, .int (8 + v), .int 99999] ix = some (.int dd) ∧ 0 ≤ dd ∧ dd ≤ 99999 := by
    simp only [List.mem_cons, List.not_mem_nil, or_false] at hix
    rcases hix with rfl | rfl | rfl | rfl | rfl
    · exact ⟨u, rfl, by omega, by omega⟩
    · exact ⟨u, rfl, by omega, by omega⟩
    · exact ⟨8 + v, rfl, by omega, by omega⟩
    · exact ⟨8 + v, rfl, by omega, by omega⟩
    · exact ⟨99999, rfl, by decide, by decide⟩
  obtain ⟨dd, hat3, hd0, hd1⟩ := hday
  refine ⟨_, _, _, .inr (.inr (.inl rfl)), rfl, hat2, ?_⟩
  refine ⟨_, _, _, .inr (.inr (.inr ⟨_, 1, rfl, rfl⟩)), rfl, hat3, ?_⟩
  refine wa_cons (w_ix (w_lst (wa_cons (w_int (wa_cons (w_int (wa_cons (w_int (wa_cons (w_int (wa_nil ⟨[_, _, _, _], rfl, by exact Nat.le_of_ble_eq_true rfl, (w_draw 0 (F_draw G) (wa_cons (w_name 0 rfl (wa_cons (w_int (wa_nil ⟨_, _, _, _, rfl, rfl, (by refine ⟨?_, ?_, ?_⟩ <;> first | omega | (simp only [List.length_map, List.length_append, List.length_cons, List.length_nil, List.length_take] at *; omega)), fun b hb => ?_⟩))))))⟩)))))))))))
  obtain ⟨nn, hnn, hat4⟩ := ints_at (l := [0, 2, 10, 999]) (v := b) (by show b < 4; omega)
  refine ⟨_, _, _, .inr (.inr (.inl rfl)), rfl, hat4, ?_⟩
  have hn0 : 0 ≤ nn ∧ nn ≤ 999 := by
    simp only [List.mem_cons, List.not_mem_nil, or_false] at hnn
    omega
  exact (wa_cons (w_name 2 rfl (wa_nil ⟨[_, _, _], rfl, by exact Nat.le_of_ble_eq_true rfl, fret_dat ⟨dd, nn, hd⟩ ⟨hd0, hd1, hn0.1, hn0.2, hands_word hd hhd⟩ rfl (Nat.le_refl _) rfl⟩)))
end K83
set_option maxRecDepth 100000
set_option maxHeartbeats 400000
namespace K83
open PySem PySem.Spec PyProof.Rows L2
/-! ## notes in order -/
def NLt (x y : Note) : Prop := x.s.1.cps.toList < y.s.1.cps.toList ∨ (x.s = y.s ∧ x.k < y.k)
theorem tx_ext {x y : Tx} (h : x.1.cps.toList = y.1.cps.toList) : x = y := by
  obtain ⟨⟨a⟩, hx⟩ := x
  obtain ⟨⟨b⟩, hy⟩ := y
  have : a = b := Array.toList_inj.mp h
  subst this
  rfl
theorem note_lt (x y : Note) : PySem.W.dataLt (noteD x) (noteD y) = true ↔ NLt x y := by
  unfold noteD NLt
  rw [PySem.W.dataLt_pair (by simp [PySem.W.alike]) (by simp [PySem.W.alike]), PySem.W.dataLt_str, PySem.W.dataLt_int, eqv_tx, eqv_int]
  by_cases h1 : x.s = y.s
  · have hi : ¬ (y.s.1.cps.toList < y.s.1.cps.toList) := List.lt_irrefl _
    rw [if_pos (decide_eq_true h1), h1]
    by_cases h2 : x.k = y.k
    · rw [if_pos (decide_eq_true h2), h2]
      exact ⟨(fun z => by cases z), fun z => z.elim (fun w => absurd w hi) (fun w => absurd w.2 (Int.lt_irrefl _))⟩
    · rw [if_neg (by rw [decide_eq_false h2]; decide), decide_eq_true_eq]
      exact ⟨fun z => .inr ⟨rfl, z⟩, fun z => z.elim (fun w => absurd w hi) (fun w => w.2)⟩
  · rw [if_neg (by rw [decide_eq_false h1]; decide), decide_eq_true_eq]
    exact ⟨fun z => .inl z, fun z => z.elim id fun w => absurd w.1 h1⟩
theorem note_le {x y : Note} (h : PySem.W.dataLe false noteD x y = true) (hne : x ≠ y) : NLt x y := by
  have h' : (!PySem.W.dataLt (noteD y) (noteD x)) = true := h
  have h2 : ¬ NLt y x := fun z => by
    rw [(note_lt y x).mpr z] at h'
    cases h'
  unfold NLt at h2 ⊢
  rcases Classical.em (x.s.1.cps.toList < y.s.1.cps.toList) with z | z
  · exact .inl z
  · rcases Classical.em (x.s = y.s) with e | e
    · refine .inr ⟨e, ?_⟩
      rcases Int.lt_trichotomy x.k y.k with q | q | q
      · exact q
      · exact absurd (by cases x; cases y; simp only at e q; rw [e, q]) hne
      · exact absurd (.inr ⟨e.symm, q⟩) h2
    · exact absurd (.inl (Std.lt_of_le_of_ne (Std.not_lt.mp z) fun w => e (tx_ext w.symm))) h2
theorem note_sort {l : List Note} (nd : l.Nodup) : (l.mergeSort (PySem.W.dataLe false noteD)).Pairwise NLt := by
  have h1 := PySem.W.sort_pairwise (le := PySem.W.dataLe false noteD) (PySem.W.sortLe_total _ _ _) l
  have h2 : (l.mergeSort (PySem.W.dataLe false noteD)).Nodup := (List.mergeSort_perm _ _).nodup_iff.mpr nd
  exact (h1.and h2).imp fun ⟨a, b⟩ => note_le a b
end K83
set_option maxRecDepth 100000
set_option maxHeartbeats 1000000
namespace K83
open PySem PySem.Spec PyProof.Rows L2
/-! ## _law_runs_of -/
def noteK (n : Note) : List Key := [.inr n.s.1, .inl n.k]
def NoteOk (n : Note) : Prop := Word n.s ∧ 0 ≤ n.k ∧ n.k ≤ 999999999
theorem alike_note (x y : Note) : PySem.W.alike (noteD x) (noteD y) = true := by simp [noteD, PySem.W.alike, PySem.W.alikeAll]
theorem note_depth (n : Note) : (noteD n).depth ≤ 64 := Nat.le_trans (lay_note n).2 (by decide)
theorem noteK_inj {m n : Note} (h : noteK m = noteK n) : m = n := by
  obtain ⟨a, b⟩ := m
  obtain ⟨a', b'⟩ := n
  unfold noteK at h
  injection h with h1 h2
  injection h2 with h2 h3
  injection h1 with h1
  injection h2 with h2
  have e : a = a' := Subtype.ext h1
  rw [e, show b = b' from h2]
theorem keyT_note (l : List Note) : (l.map noteK).map keyT = l.map noteD := by
  rw [List.map_map] <;> rfl
/-- runs in a chain -/
inductive Ch : List Run → Run → Prop
  | one (r : Run) : Ch [] r
  | more {l : List Run} {q r : Run} : Ch l q → Ahead q r → Ch (l ++ [q]) r
/-- what the walk keeps, behind the note n: the runs init ++ [r] -/
structure RInv (ns : List Note) (init : List Run) (r : Run) (n : Note) : Prop where
  ch : Ch init r
  ok : ∀ q ∈ init ++ [r], RunOk q ∧ ∃ m ∈ ns, q.s = m.s
  s : r.s = n.s
  b : r.b = n.k + 1
theorem run_one {ns : List Note} {n : Note} (h : NoteOk n) (hm : n ∈ ns) : RunOk ⟨n.s, n.k, n.k + 1⟩ ∧ ∃ m ∈ ns, (⟨n.s, n.k, n.k + 1⟩ : Run).s = m.s :=
  ⟨⟨h.1, h.2.1, h.2.2, by show 1 ≤ n.k + 1; have := h.2.1; omega, by show n.k + 1 ≤ 1000000000; have := h.2.2; omega, by show n.k < n.k + 1; omega⟩, n, hm, rfl⟩
theorem rinv_first {ns : List Note} {n : Note} (h : NoteOk n) (hm : n ∈ ns) : RInv ns [] ⟨n.s, n.k, n.k + 1⟩ n :=
  ⟨.one _, fun q hq => by rw [List.mem_singleton.mp hq]; exact run_one h hm, rfl, rfl⟩
theorem rinv_more {ns : List Note} {init : List Run} {r : Run} {m n : Note} (I : RInv ns init r m) (h : NoteOk n) (hm : n ∈ ns) (lt : NLt m n) (hne : ¬ (r.s = n.s ∧ r.b = n.k)) : RInv ns (init ++ [r]) ⟨n.s, n.k, n.k + 1⟩ n := by
  refine ⟨.more I.ch ?_, fun q hq => ?_, rfl, rfl⟩
  · rcases lt with z | ⟨z1, z2⟩
    · left
      rw [I.s]
      exact z
    · right
      refine ⟨by rw [I.s]; exact z1, ?_⟩
      show r.b < n.k
      have hb := I.b
      have : ¬ r.b = n.k := fun w => hne ⟨by rw [I.s]; exact z1, w⟩
      omega
  · rcases List.mem_append.mp hq with z | z
    · exact I.ok q z
    · rw [List.mem_singleton.mp z]
      exact run_one h hm
theorem ch_last {l : List Run} {q r r' : Run} (h : Ch (l ++ [q]) r) : Ch l q ∧ Ahead q r := by
  generalize e : l ++ [q] = z at h
  cases h with
  | one _ => simp at e
  | more h1 h2 =>
    obtain ⟨e1, e2⟩ := List.append_inj' e rfl
    cases e2
    subst e1
    exact ⟨h1, h2⟩
theorem ch_set {l : List Run} {r r' : Run} (h : Ch l r) (hs : r'.s = r.s) (ha : r'.a = r.a) : Ch l r' := by
  cases h with
  | one _ => exact .one _
  | more h1 h2 =>
    refine .more h1 ?_
    unfold Ahead at h2 ⊢
    rw [hs, ha]
    exact h2
theorem rinv_grow {ns : List Note} {init : List Run} {r : Run} {m n : Note} (I : RInv ns init r m) (h : NoteOk n) (hs : r.s = n.s) (hb : r.b = n.k) : RInv ns init ⟨n.s, r.a, n.k + 1⟩ n := by
  refine ⟨ch_set I.ch hs.symm rfl, fun q hq => ?_, rfl, rfl⟩
  rcases List.mem_append.mp hq with z | z
  · exact I.ok q (List.mem_append_left _ z)
  · rw [List.mem_singleton.mp z]
    obtain ⟨⟨o1, o2, o3, o4, o5, o6⟩, k, hk, ek⟩ := I.ok r (List.mem_append_right _ (List.mem_singleton.mpr rfl))
    have hk2 := h.2.2
    refine ⟨⟨by rw [hs] at o1; exact o1, o2, o3, ?_, ?_, ?_⟩, k, hk, by rw [← ek, hs]⟩
    · show 1 ≤ n.k + 1; have := h.2.1; omega
    · show n.k + 1 ≤ 1000000000; omega
    · show r.a < n.k + 1; omega
theorem ch_chain {l : List Run} {r : Run} (h : Ch l r) : ∀ (i : Nat) (p q : Run), (l ++ [r])[i]? = some p → (l ++ [r])[i + 1]? = some q → Ahead p q := by
  induction h with
  | one r =>
    intro i p q _ h2
    rw [List.nil_append, List.getElem?_eq_none (by simp)] at h2
    cases h2
  | @more l q0 r h1 h2 ih =>
    intro i p q hp hq
    by_cases hi : i + 1 < (l ++ [q0]).length
    · rw [List.getElem?_append_left hi] at hq
      rw [List.getElem?_append_left (by omega)] at hp
      exact ih i p q hp hq
    · have hlt := (List.getElem?_eq_some_iff.mp hq).1
      rw [List.length_append] at hlt
      have e : i + 1 = (l ++ [q0]).length := by
        have : ([r] : List Run).length = 1 := rfl
        omega
      rw [e, List.getElem?_append_right (Nat.le_refl _), Nat.sub_self] at hq
      cases hq
      rw [List.length_append] at e
      have e2 : i = l.length := by
        have : ([q0] : List Run).length = 1 := rfl
        omega
      subst e2
      rw [List.append_assoc, List.getElem?_append_right (Nat.le_refl _), Nat.sub_self] at hp
      cases hp
      exact h2
theorem keys_notes {ml : List (List Key)} {ns : List Note} (nd : ml.Nodup) (h : ∀ k, k ∈ ml ↔ k ∈ ns.map noteK) : ∃ ms : List Note, ml = ms.map noteK ∧ ms.Nodup ∧ ∀ m, m ∈ ms ↔ m ∈ ns := by
  have key : ∀ l : List (List Key), (∀ k ∈ l, ∃ m : Note, k = noteK m) → ∃ ms : List Note, l = ms.map noteK := by
    intro l
    induction l with
    | nil => exact fun _ => ⟨[], rfl⟩
    | cons k l ih =>
      intro hk
      obtain ⟨m, e⟩ := hk k List.mem_cons_self
      obtain ⟨ms, e2⟩ := ih fun k h => hk k (List.mem_cons_of_mem _ h)
      exact ⟨m :: ms, by rw [e, e2] <;> rfl⟩
  obtain ⟨ms, e⟩ := key ml fun k hk => by
    obtain ⟨m, _, e⟩ := List.mem_map.mp ((h k).mp hk)
    exact ⟨m, e.symm⟩
  subst e
  refine ⟨ms, rfl, List.Pairwise.of_map noteK (fun a b h e => h (by rw [e])) nd, fun m => ?_⟩
  constructor
  · intro hm
    obtain ⟨m', h1, h2⟩ := List.mem_map.mp ((h (noteK m)).mp (List.mem_map.mpr ⟨m, hm, rfl⟩))
    rw [← noteK_inj h2]
    exact h1
  · intro hm
    obtain ⟨m', h1, h2⟩ := List.mem_map.mp ((h (noteK m)).mpr (List.mem_map.mpr ⟨m, hm, rfl⟩))
    rw [← noteK_inj h2]
    exact h1

theorem sc_law_runs_of : FnScope ["_law_notes", "_law_found", "_law_series", "_law_number"] ["_law_notes"] (defScope (topS 69)) := ⟨rfl, rfl, rfl, by decide +kernel, rfl, by decide +kernel, by decide +kernel⟩
theorem F_law_runs_of {g : Gv} (G : GL g) : Fn g 1 "_law_runs_of" (spT (fun ns : List Note => [.lst (ns.map noteD)]) (fun ns => ns ≠ [] ∧ ns.length < 64 ∧ ∀ n ∈ ns, NoteOk n) fun ns r => ∃ rs, r = .dat (runsD rs) ∧ RunsOk rs ∧ ∀ q ∈ rs, ∃ m ∈ ns, q.s = m.s) := by
  refine fn_def (k := 0) G.l_runs_of sc_law_runs_of (fun _ => rfl) fun ns hi => ?_
  obtain ⟨hne, hl, hok⟩ := hi
  show Sd _ [.shr (ns.map noteD), .no, .no, .no] [_, _, _] _
  refine sd_own 1 (w_lst (wa_nil ⟨[], rfl, by exact Nat.le_of_ble_eq_true rfl, ⟨_, rfl, fun q => ?_⟩⟩))
  refine sd_for (.many [2, 3]) (fun Γ' => ∃ x y rs, Γ' = [.shr (ns.map noteD), .own q (rs.map runD), x, y] ∧ RunsOk rs ∧ ∀ r ∈ rs, ∃ m ∈ ns, r.s = m.s)
    (wi_lst (w_sortSetT G.b_sorted G.b_set (wa_cons (w_name 0 rfl (wa_nil ⟨_, ns.map noteK, rfl, by rw [keyT_note]; exact .inr (.inl rfl), by rw [List.length_map]; exact hl, by rw [keyT_note]; exact PySem.W.AllAlike.of alike_note, by rw [keyT_note]; exact PySem.W.Sortable.tuples (fun m => ⟨_, _, rfl⟩), fun k hk => ?dep, fun ml nd hm => ?go⟩))))) ?_ (tg_two 2 3)
  case dep =>
    obtain ⟨m, _, rfl⟩ := List.mem_map.mp hk
    exact note_depth m
  case go =>
    obtain ⟨ms, rfl, nd2, hmem⟩ := keys_notes nd hm
    have es : sortD ((ms.map noteK).map keyT) = (ms.mergeSort (PySem.W.dataLe false noteD)).map noteD := by
      rw [keyT_note]
      unfold sortD
      exact (List.map_mergeSort (r := PySem.W.dataLe false noteD) (s := PySem.W.dataLe false id) (f := noteD) (l := ms) (fun a _ b _ => rfl)).symm
    have pw := note_sort nd2
    have pm : (ms.mergeSort (PySem.W.dataLe false noteD)).Perm ms := List.mergeSort_perm _ _
    have hlm : ms.length ≤ ns.length := List.Nodup.length_le_of_subset nd2 fun m h => (hmem m).mp h
    have hll := pm.length_eq
    have hin : ∀ m ∈ ms.mergeSort (PySem.W.dataLe false noteD), m ∈ ns := fun m h => (hmem m).mp (pm.mem_iff.mp h)
    have hne2 : ms.mergeSort (PySem.W.dataLe false noteD) ≠ [] := fun z => by
      obtain ⟨m, hm0⟩ := List.exists_mem_of_ne_nil ns hne
      have := pm.mem_iff.mpr ((hmem m).mpr hm0)
      rw [z] at this
      cases this
    rw [es]
    generalize ms.mergeSort (PySem.W.dataLe false noteD) = ls at pw hll hin hne2
    refine ⟨_, .inl rfl, fun k Γk => ∃ x y rs, Γk = [.shr (ns.map noteD), .own q (rs.map runD), x, y] ∧ rs.length ≤ k ∧ ((k = 0 ∧ rs = []) ∨ ∃ init r n j, k = j + 1 ∧ ls[j]? = some n ∧ rs = init ++ [r] ∧ RInv ns init r n), ⟨_, _, [], rfl, Nat.le_refl _, .inl ⟨rfl, rfl⟩⟩, ?step, ?last⟩
    case step =>
      intro k d Γk hk ⟨x, y, rs, e, hrl, inv⟩
      subst e
      obtain ⟨n, hn, rfl⟩ := map_at hk
      have hkl : k < ls.length := (List.getElem?_eq_some_iff.mp hn).1
      have hnm := hin n (List.mem_of_getElem? hn)
      have hno := hok n hnm
      refine ⟨⟨_, rfl, rfl⟩, ?_⟩
      show Sd _ [.shr (ns.map noteD), .own q (rs.map runD), .dat (.str n.s.1), .dat (.int n.k)] [_] _
      refine sd_ifM (fun Γ' => ∃ x y rs, Γ' = [.shr (ns.map noteD), .own q (rs.map runD), x, y] ∧ rs.length ≤ k + 1 ∧ ((k + 1 = 0 ∧ rs = []) ∨ ∃ init r n j, k + 1 = j + 1 ∧ ls[j]? = some n ∧ rs = init ++ [r] ∧ RInv ns init r n)) (wt_ww (ww_andB (wt_cmp d_gt (w_callB c_len G.b_len (wa_cons (w_name 1 rfl (wa_nil ⟨_, .inl ⟨_, _, rfl, .inr (by first | exact .inr (.inl rfl) | exact .inr (.inr ⟨_, 1, rfl, rfl⟩)), rfl⟩, (w_int ⟨_, ⟨_, _, rfl, rfl, trivial, rfl⟩, ⟨fun h => ?A, fun h => ⟨(fun z => by cases z), fun _ => ?B⟩⟩⟩)⟩))))))) (fun Γ' e => sd_nil e)
      case B =>
        rcases inv with ⟨hk0, hr0⟩ | ⟨init, r, n', j, _, _, hr0, I⟩
        · subst hr0
          refine sd_append 1 rfl (wa_cons (w_tup (wa_cons (w_name 2 rfl (wa_cons (w_name 3 rfl (wa_cons (w_op d_add (w_name 3 rfl (w_int ⟨_, ⟨_, _, rfl, rfl, trivial, rfl⟩, (wa_nil ⟨[_, _, _], rfl, by exact Nat.le_of_ble_eq_true rfl, (wa_nil ⟨_, _, rfl, rfl, Nat.zero_le _, sd_nil ⟨_, _, [⟨n.s, n.k, n.k + 1⟩], rfl, by simp, .inr ⟨[], _, n, k, rfl, hn, rfl, rinv_first hno hnm⟩⟩⟩)⟩)⟩))))))))))
        · subst hr0
          exact absurd h (by simp)
      case A =>
        rcases inv with ⟨hk0, hr0⟩ | ⟨init, r, n', j, ej, hj, hr0, I⟩
        · subst hr0
          exact absurd h (by simp)
        · subst hr0
          have hlast : ((init ++ [r]).map runD).getLast? = some (runD r) := by simp
          have hlt : NLt n' n := by
            obtain ⟨hjl, ej2⟩ := List.getElem?_eq_some_iff.mp hj
            obtain ⟨hnl, en⟩ := List.getElem?_eq_some_iff.mp hn
            rw [← ej2, ← en]
            exact List.pairwise_iff_getElem.mp pw j k hjl hnl (by omega)
          have hlen : ((init ++ [r]).map runD).length ≤ 1000000 := by
            rw [List.length_map]
            have : ls.length ≤ 64 := by omega
            omega
          refine ww_andB (wt_cmp d_eq (w_ixk 0 (w_ix (w_name 1 rfl (w_neg (w_int ⟨_, rfl, ⟨_, _, _, (.inr (by first | exact .inr (.inl rfl) | exact .inr (.inr ⟨_, 1, rfl, rfl⟩))), rfl, atI_last hlast, ⟨_, _, (.inl rfl), rfl, (w_name 2 rfl ⟨_, ⟨_, _, rfl, rfl, (by first | rfl | decide +kernel | exact sh_tx _ | exact sh_word _ | exact sh_nm _ | exact sh_deed _ | exact sh_page _ | exact sh_runs _ | exact sh_road _ _ | exact sh_roads _ | exact sh_names _ | exact sh_namesT _ | exact sh_txs _), (by first | rfl | decide +kernel | exact sh_tx _ | exact sh_word _ | exact sh_nm _ | exact sh_deed _ | exact sh_page _ | exact sh_runs _ | exact sh_road _ _ | exact sh_roads _ | exact sh_names _ | exact sh_namesT _ | exact sh_txs _), rfl⟩, ⟨fun h1 => ww_and1 (wt_cmp d_eq (w_ixk 2 (w_ix (w_name 1 rfl (w_neg (w_int ⟨_, rfl, ⟨_, _, _, (.inr (by first | exact .inr (.inl rfl) | exact .inr (.inr ⟨_, 1, rfl, rfl⟩))), rfl, atI_last hlast, ⟨_, _, (.inl rfl), rfl, (w_name 3 rfl ⟨_, ⟨_, _, rfl, rfl, (by first | rfl | decide +kernel | exact sh_tx _ | exact sh_word _ | exact sh_nm _ | exact sh_deed _ | exact sh_page _ | exact sh_runs _ | exact sh_road _ _ | exact sh_roads _ | exact sh_names _ | exact sh_namesT _ | exact sh_txs _), (by first | rfl | decide +kernel | exact sh_tx _ | exact sh_word _ | exact sh_nm _ | exact sh_deed _ | exact sh_page _ | exact sh_runs _ | exact sh_road _ _ | exact sh_roads _ | exact sh_names _ | exact sh_namesT _ | exact sh_txs _), rfl⟩, ⟨fun h2 => ?grow, fun h2 => ?m1⟩⟩)⟩⟩⟩)))))), fun h1 => ⟨(fun z => by cases z), fun _ => ?m2⟩⟩⟩)⟩⟩⟩))))))
          case m1 =>
            refine sd_append 1 rfl (wa_cons (w_tup (wa_cons (w_name 2 rfl (wa_cons (w_name 3 rfl (wa_cons (w_op d_add (w_name 3 rfl (w_int ⟨_, ⟨_, _, rfl, rfl, trivial, rfl⟩, (wa_nil ⟨[_, _, _], rfl, by exact Nat.le_of_ble_eq_true rfl, (wa_nil ⟨_, _, rfl, rfl, hlen, sd_nil ⟨_, _, (init ++ [r]) ++ [⟨n.s, n.k, n.k + 1⟩], by rw [List.map_append (l₁ := init ++ [r])] <;> rfl, by rw [List.length_append]; exact Nat.succ_le_succ hrl, .inr ⟨init ++ [r], _, n, k, rfl, hn, rfl, rinv_more I hno hnm hlt ?ne1⟩⟩⟩)⟩)⟩))))))))))
            intro z
            have h3 : PyData.eqv (.int r.b) (.int n.k) = false := h2
            rw [eqv_int, decide_eq_true z.2] at h3
            cases h3
          case m2 =>
            refine sd_append 1 rfl (wa_cons (w_tup (wa_cons (w_name 2 rfl (wa_cons (w_name 3 rfl (wa_cons (w_op d_add (w_name 3 rfl (w_int ⟨_, ⟨_, _, rfl, rfl, trivial, rfl⟩, (wa_nil ⟨[_, _, _], rfl, by exact Nat.le_of_ble_eq_true rfl, (wa_nil ⟨_, _, rfl, rfl, hlen, sd_nil ⟨_, _, (init ++ [r]) ++ [⟨n.s, n.k, n.k + 1⟩], by rw [List.map_append (l₁ := init ++ [r])] <;> rfl, by rw [List.length_append]; exact Nat.succ_le_succ hrl, .inr ⟨init ++ [r], _, n, k, rfl, hn, rfl, rinv_more I hno hnm hlt ?ne2⟩⟩⟩)⟩)⟩))))))))))
            intro z
            have h3 : PyData.eqv (.str r.s.1) (.str n.s.1) = false := h1
            rw [eqv_tx, decide_eq_true z.1] at h3
            cases h3
          case grow =>
            have h3 : PyData.eqv (.str r.s.1) (.str n.s.1) = true := h1
            have h4 : PyData.eqv (.int r.b) (.int n.k) = true := h2
            rw [eqv_tx] at h3
            rw [eqv_int] at h4
            have hix : ixN ((init ++ [r]).map runD).length (-1) = some init.length := by
              rw [List.length_map, List.length_append]
              unfold ixN
              rw [if_neg (by omega), if_pos (by simp only [List.length_cons, List.length_nil]; omega)]
              simp only [List.length_cons, List.length_nil]
              congr 1
              omega
            refine sd_setOwn 1 rfl (w_tup (wa_cons (w_name 2 rfl (wa_cons (w_ixk 1 (w_ix (w_name 1 rfl (w_neg (w_int ⟨_, rfl, ⟨_, _, _, (.inr (by first | exact .inr (.inl rfl) | exact .inr (.inr ⟨_, 1, rfl, rfl⟩))), rfl, atI_last hlast, ⟨_, _, (.inl rfl), rfl, (wa_cons (w_op d_add (w_name 3 rfl (w_int ⟨_, ⟨_, _, rfl, rfl, trivial, rfl⟩, (wa_nil ⟨[_, _, _], rfl, by exact Nat.le_of_ble_eq_true rfl, (w_neg (w_int ⟨_, rfl, ⟨_, _, _, init.length, rfl, rfl, rfl, hix, sd_nil ⟨.dat (.str n.s.1), .dat (.int n.k), init ++ [⟨n.s, r.a, n.k + 1⟩], ?set, by rw [List.length_append] at hrl ⊢; exact Nat.le_succ_of_le hrl, .inr ⟨init, _, n, k, rfl, hn, rfl, rinv_grow I hno (of_decide_eq_true h3) (of_decide_eq_true h4)⟩⟩⟩⟩))⟩)⟩))))⟩⟩⟩)))))))))
            have es2 : ((init ++ [r]).map runD).set init.length (runD ⟨n.s, r.a, n.k + 1⟩) = (init ++ [(⟨n.s, r.a, n.k + 1⟩ : Run)]).map runD := by
              rw [List.map_append, List.map_append, ← List.length_map (f := runD), List.set_append_right _ _ (Nat.le_refl _), Nat.sub_self] <;> rfl
            rw [← es2] <;> rfl
    case last =>
      intro Γ' ⟨x, y, rs, e, hrl, inv⟩
      refine ⟨x, y, rs, e, ?_⟩
      rw [List.length_map] at inv
      rcases inv with ⟨z, _⟩ | ⟨init, r, n, j, _, _, rfl, I⟩
      · exact absurd (List.length_eq_zero_iff.mp z) hne2
      · exact ⟨⟨by simp, by rw [List.length_map] at hrl; omega, fun r' h => (I.ok r' h).1, ch_chain I.ch⟩, fun r' h => (I.ok r' h).2⟩
  · intro Γ' ⟨x, y, rs, e, h1, h2⟩
    subst e
    exact sd_ret (w_callTy c_tupleL G.b_tuple (wa_cons (w_name 1 rfl (wa_nil ⟨_, ⟨_, _, rfl, (by first | exact .inr (.inl rfl) | exact .inr (.inr ⟨_, 1, rfl, rfl⟩)), rfl⟩, ⟨_, ⟨rs, rfl, h1, h2⟩, .inl ⟨_, rfl, rfl⟩⟩⟩))))
end K83
set_option maxRecDepth 100000
set_option maxHeartbeats 1000000
namespace K83
open PySem PySem.Spec PyProof.Rows L2
/-! ## _law_runs -/
structure GoodOff (o : Office) : Prop where
  ok : OffOk o
  ws : o.ws ≠ []
  wsok : ∀ w ∈ o.ws, Word w.1 ∧ 0 < worthOf o.ws w.1
  rd : o.rds ≠ []
  rdok : ∀ r ∈ o.rds, r.2 ≠ tNone
theorem data_at {α : Type} {f : α → PyData} {l : List α} {v : Nat} (h : v < l.length) : ∃ x ∈ l, L2.atI (l.map f) (v : Int) = some (f x) :=
  ⟨l[v], List.getElem_mem h, atI_nat (by rw [List.getElem?_map, List.getElem?_eq_getElem h] <;> rfl)⟩


theorem sc_law_runs : FnScope ["_law_feed_here", "_law_office_here", "_law_notes", "_law_k", "_law_series", "_law_first", "_law_j"] ["_law_feed_here", "_law_office_here"] (defScope (topS 70)) := ⟨rfl, rfl, rfl, by decide +kernel, rfl, by decide +kernel, by decide +kernel⟩
theorem F_law_runs {g : Gv} (G : GL g) : Fn g 2 "_law_runs" (spF 20 (fun o : Office => [.dat (officeD o)]) GoodOff (fun o rs => Named o rs) fun rs : List Run => .dat (runsD rs)) := by
  refine fn_defF (k := 1) G.l_runs sc_law_runs (fun _ => rfl) fun f S n o ho hn => ?_
  have hwl : 0 < o.ws.length := List.length_pos_iff.mpr ho.ws
  have hw100 := ho.ok.1
  show Sd _ [.feed f S n, .dat (officeD o), .no, .no, .no, .no, .no] [_, _, _, _] _
  refine sd_ifB (wt_cmp d_eq (w_draw 0 (F_draw G) (wa_cons (w_name 0 rfl (wa_cons (w_int (wa_nil ⟨_, _, _, _, rfl, rfl, (by refine ⟨?_, ?_, ?_⟩ <;> first | omega | (simp only [List.length_map, List.length_append, List.length_cons, List.length_nil, List.length_take] at *; omega)), fun v hv => (w_int ⟨_, ⟨_, _, rfl, rfl, (by first | rfl | decide +kernel | exact sh_tx _ | exact sh_word _ | exact sh_nm _ | exact sh_deed _ | exact sh_page _ | exact sh_runs _ | exact sh_road _ _ | exact sh_roads _ | exact sh_names _ | exact sh_namesT _ | exact sh_txs _), (by first | rfl | decide +kernel | exact sh_tx _ | exact sh_word _ | exact sh_nm _ | exact sh_deed _ | exact sh_page _ | exact sh_runs _ | exact sh_road _ _ | exact sh_roads _ | exact sh_names _ | exact sh_namesT _ | exact sh_txs _), rfl⟩, ⟨fun h => ?A, fun h => ?B⟩⟩)⟩)))))))
  case A =>
    obtain ⟨w, hw⟩ : ∃ w, o.ws[0]? = some w := ⟨o.ws[0], List.getElem?_eq_getElem hwl⟩
    have hw0 := ho.wsok w (List.mem_of_getElem? hw)
    have hix : (o.ws.map worthD)[0]? = some (worthD w) := by rw [List.getElem?_map, hw] <;> rfl
    refine sd_ret (w_tup (wa_cons (w_tup (wa_cons (w_ixk 0 (w_ixk 0 (w_ixk 0 (w_name 1 rfl ⟨_, _, (.inl rfl), rfl, ⟨_, _, (.inl rfl), (hix), ⟨_, _, (.inl rfl), rfl, (wa_cons (w_int (wa_cons (w_op d_pow (w_int (w_int ⟨_, ⟨_, _, rfl, rfl, (by first | trivial | decide | exact .inl (by decide) | exact ⟨by decide, by decide, by decide⟩), rfl⟩, (wa_nil ⟨[_, _, _], rfl, by exact Nat.le_of_ble_eq_true rfl, (wa_nil ⟨[_], rfl, by exact Nat.le_of_ble_eq_true rfl, (fret_dat [⟨w.1, 0, 1000000000⟩] ?_ ?_ (by omega) rfl)⟩)⟩)⟩))))))⟩⟩⟩))))))))
    · refine ⟨⟨by simp, by simp, fun r hr => ?_, fun i r q h1 h2 => ?_⟩, fun r hr => ?_⟩
      · rw [List.mem_singleton.mp hr]
        exact ⟨hw0.1, by show (0 : Int) ≤ 0; decide, by show (0 : Int) ≤ 999999999; decide, by show (1 : Int) ≤ 1000000000; decide, by show (1000000000 : Int) ≤ 1000000000; decide, by show (0 : Int) < 1000000000; decide⟩
      · rw [List.getElem?_eq_none (by simp)] at h2
        cases h2
      · rw [List.mem_singleton.mp hr]
        exact hw0.2
    · rfl
  case B =>
    refine sd_own 2 (w_lst (wa_nil ⟨[], rfl, by exact Nat.le_of_ble_eq_true rfl, ⟨_, rfl, fun q => ?_⟩⟩))
    refine sd_for (.one 3) (fun Γ' => ∃ n' x3 x4 x5 x6 ns, Γ' = [.feed f S n', .dat (officeD o), .own q (ns.map noteD), x3, x4, x5, x6] ∧ n' ≤ n + 20 ∧ ns ≠ [] ∧ ns.length < 64 ∧ ∀ m ∈ ns, NoteOk m ∧ 0 < worthOf o.ws m.s)
      (wi_range G.b_range (wa_cons (w_op d_add (w_int (w_draw 0 (F_draw G) (wa_cons (w_name 0 rfl (wa_cons (w_int (wa_nil ⟨_, _, _, _, rfl, rfl, (by refine ⟨?_, ?_, ?_⟩ <;> first | omega | (simp only [List.length_map, List.length_append, List.length_cons, List.length_nil, List.length_take] at *; omega)), fun u hu => ⟨_, ⟨_, _, rfl, rfl, trivial, rfl⟩, (wa_nil ⟨1 + u, rfl, by omega, fun k Γk => ∃ n' x3 x4 x5 x6 ns, Γk = [.feed f S n', .dat (officeD o), .own q (ns.map noteD), x3, x4, x5, x6] ∧ n' ≤ n + 2 + 4 * k ∧ (0 < k → ns ≠ []) ∧ ns.length ≤ 6 * k ∧ ∀ m ∈ ns, NoteOk m ∧ 0 < worthOf o.ws m.s, ⟨_, _, _, _, _, [], rfl, by omega, (fun z => absurd z (by decide)), by simp, (fun m hm => by cases hm)⟩, ?step, ?last⟩)⟩⟩)))))))))) ?rest (tg_one 3)
    case step =>
      intro k d Γk hk ⟨n', x3, x4, x5, x6, ns, e, hn', hne, hl, hok⟩
      subst e
      have hk4 : k < 4 := by
        have z := (List.getElem?_eq_some_iff.mp hk).1
        unfold rangeD at z
        rw [List.length_map, List.length_range] at z
        omega
      refine ⟨trivial, ?_⟩
      show Sd _ [.feed f S n', .dat (officeD o), .own q (ns.map noteD), .dat d, x4, x5, x6] [_, _, _] _
      refine sd_dat 4 (w_ixk 0 (w_ix (w_ixk 0 (w_name 1 rfl ⟨_, _, (.inl rfl), rfl, (w_draw 0 (F_draw G) (wa_cons (w_name 0 rfl (wa_cons (w_callB c_len G.b_len (wa_cons (w_ixk 0 (w_name 1 rfl ⟨_, _, (.inl rfl), rfl, (wa_nil ⟨_, .inl ⟨_, _, rfl, .inl rfl, rfl⟩, (wa_nil ⟨_, _, _, _, rfl, rfl, (by refine ⟨?_, ?_, ?_⟩ <;> first | omega | (simp only [List.length_map, List.length_append, List.length_cons, List.length_nil, List.length_take] at *; omega)), fun v hv => (?s1)⟩)⟩)⟩))))))))⟩))))
      obtain ⟨w, hw, hat⟩ := data_at (f := worthD) (l := o.ws) (v := v) (by rw [List.length_map] at hv; omega)
      have hw0 := ho.wsok w hw
      refine ⟨_, _, _, .inl rfl, rfl, hat, ⟨_, _, .inl rfl, rfl, ⟨_, rfl, ?_⟩⟩⟩
      show Sd _ [.feed f S (n' + 1), .dat (officeD o), .own q (ns.map noteD), .dat d, .dat (.str w.1.1), x5, x6] [_, _] _
      refine sd_dat 5 (w_ix (w_lst (wa_cons (w_draw 0 (F_draw G) (wa_cons (w_name 0 rfl (wa_cons (w_int (wa_nil ⟨_, _, _, _, rfl, rfl, (by refine ⟨?_, ?_, ?_⟩ <;> first | omega | (simp only [List.length_map, List.length_append, List.length_cons, List.length_nil, List.length_take] at *; omega)), fun a ha => (wa_cons (w_op d_sub (w_op d_pow (w_int (w_int ⟨_, ⟨_, _, rfl, rfl, (by first | trivial | decide | exact .inl (by decide) | exact ⟨by decide, by decide, by decide⟩), rfl⟩, (w_int ⟨_, ⟨_, _, rfl, rfl, trivial, rfl⟩, (wa_nil ⟨[_, _], rfl, by exact Nat.le_of_ble_eq_true rfl, (w_callTy c_intB G.b_int (wa_cons (w_cmp d_eq (w_draw 0 (F_draw G) (wa_cons (w_name 0 rfl (wa_cons (w_int (wa_nil ⟨_, _, _, _, rfl, rfl, (by refine ⟨?_, ?_, ?_⟩ <;> first | omega | (simp only [List.length_map, List.length_append, List.length_cons, List.length_nil, List.length_take] at *; omega)), fun b hb => (w_int ⟨_, ⟨_, _, rfl, rfl, (by first | rfl | decide +kernel | exact sh_tx _ | exact sh_word _ | exact sh_nm _ | exact sh_deed _ | exact sh_page _ | exact sh_runs _ | exact sh_road _ _ | exact sh_roads _ | exact sh_names _ | exact sh_namesT _ | exact sh_txs _), (by first | rfl | decide +kernel | exact sh_tx _ | exact sh_word _ | exact sh_nm _ | exact sh_deed _ | exact sh_page _ | exact sh_runs _ | exact sh_road _ _ | exact sh_roads _ | exact sh_names _ | exact sh_namesT _ | exact sh_txs _), rfl⟩, (wa_nil ⟨_, ⟨_, rfl, rfl⟩, (?s2)⟩)⟩)⟩)))))))))⟩)⟩)⟩)))))⟩)))))))))
      obtain ⟨z, hz, hz0, hz1⟩ : ∃ z : Int, L2.atI [PyData.int a, .int ((10 : Int) ^ (9 : Int).toNat - 6)] (if PyData.eqv (.int b) (.int 0) = true then 1 else 0) = some (.int z) ∧ 0 ≤ z ∧ z ≤ 999999994 := by
        cases PyData.eqv (.int b) (.int 0)
        · exact ⟨a, rfl, by omega, by omega⟩
        · exact ⟨_, rfl, by decide, by decide⟩
      refine ⟨_, _, _, .inr (.inr (.inl rfl)), rfl, hz, ⟨_, rfl, ?_⟩⟩
      show Sd _ [.feed f S (n' + 1 + 1 + 1), .dat (officeD o), .own q (ns.map noteD), .dat d, .dat (.str w.1.1), .dat (.int z), x6] [_] _
      refine sd_extend 2 rfl (wa_cons (w_lc (.one 6) [("_law_j", 6)] (wi_range G.b_range (wa_cons (w_op d_add (w_int (w_draw 0 (F_draw G) (wa_cons (w_name 0 rfl (wa_cons (w_int (wa_nil ⟨_, _, _, _, rfl, rfl, (by refine ⟨?_, ?_, ?_⟩ <;> first | omega | (simp only [List.length_map, List.length_append, List.length_cons, List.length_nil, List.length_take] at *; omega)), fun c hc => ⟨_, ⟨_, _, rfl, rfl, trivial, rfl⟩, (wa_nil ⟨1 + c, rfl, by omega, lcM (bs := List.range (1 + c)) (f := fun j : Nat => PyData.int j) (g := fun j : Nat => noteD ⟨w.1, z + j⟩) ?e1 ?e2 (by decide) (wa_nil ⟨_, _, _, rfl, .inr (.inl rfl), rfl, ?e3, sd_nil ⟨n' + 1 + 1 + 1 + 1, .dat d, .dat (.str w.1.1), .dat (.int z), .no, ns ++ (List.range (1 + c)).map fun j : Nat => (⟨w.1, z + j⟩ : Note), ?e4, ?e5, ?e6, ?e7, ?e8⟩⟩)⟩)⟩⟩)))))))))) (tg_one 6) (by show BlkOk ["_law_feed_here", "_law_office_here", "_law_notes", "_law_k", "_law_series", "_law_first", "_law_j"] (defScope (topS 70)) _ _; exact ⟨rfl, by decide +kernel, by decide +kernel, by decide +kernel, by decide +kernel⟩)))
      case e1 => rw [List.length_range]; omega
      case e2 =>
        intro j hj
        exact ⟨trivial, (w_tup (wa_cons (w_name 4 rfl (wa_cons (w_op d_add (w_name 5 rfl (w_name 6 rfl ⟨_, ⟨_, _, rfl, rfl, trivial, rfl⟩, (wa_nil ⟨[_, _], rfl, by exact Nat.le_of_ble_eq_true rfl, ⟨rfl, rfl⟩⟩)⟩)))))))⟩
      case e3 =>
        rw [List.length_map, List.length_map, List.length_range]
        omega
      case e4 =>
        rw [List.map_append, List.map_map] <;> rfl
      case e5 => omega
      case e6 =>
        intro _ y
        have := congrArg List.length y
        rw [List.length_append, List.length_map, List.length_range, List.length_nil] at this
        omega
      case e7 =>
        rw [List.length_append, List.length_map, List.length_range]
        omega
      case e8 =>
        intro m hm
        rcases List.mem_append.mp hm with y | y
        · exact hok m y
        · obtain ⟨j, hj, rfl⟩ := List.mem_map.mp y
          have hj2 : j < 1 + c := List.mem_range.mp hj
          refine ⟨⟨hw0.1, ?_, ?_⟩, hw0.2⟩
          · show 0 ≤ z + (j : Int)
            omega
          · show z + (j : Int) ≤ 999999999
            omega
    case last =>
      intro Γ' ⟨n', x3, x4, x5, x6, ns, e, hn', hne, hl, hok⟩
      have el : (rangeD (1 + u)).length = 1 + u := by
        unfold rangeD
        rw [List.length_map, List.length_range]
      rw [el] at hn' hne hl
      exact ⟨n', x3, x4, x5, x6, ns, e, by omega, hne (by omega), by omega, hok⟩
    case rest =>
      intro Γ' ⟨n', x3, x4, x5, x6, ns, e, hn', hne, hl, hok⟩
      subst e
      refine sd_ret (w_call (F_law_runs_of G) (wa_cons (w_name 2 rfl (wa_nil ⟨ns, agis_lst (.inr (.inr ⟨_, 2, rfl, rfl⟩)) agis_nil, ⟨hne, hl, fun m hm => (hok m hm).1⟩, fun r ⟨rs, e, h1, h2⟩ => ?_⟩))))
      subst e
      refine fret_dat rs ⟨h1, fun q hq => ?_⟩ rfl hn' rfl
      obtain ⟨m, hm, em⟩ := h2 q hq
      rw [em]
      exact (hok m hm).2
end K83
set_option maxRecDepth 100000
set_option maxHeartbeats 1000000
namespace K83
open PySem PySem.Spec PyProof.Rows L2
/-! ## _law_deed -/
structure DdI where
  o : Office
  kind : Int
  names : List Nm
  bags : List Nm
structure DdOk (i : DdI) : Prop where
  o : GoodOff i.o
  ne : i.names ≠ []
  nl : i.names.length ≤ 64
  bl : i.bags.length ≤ 64
  nok : ∀ n ∈ i.names, NmOk n
  bok : ∀ n ∈ i.bags, NmOk n
theorem pick_int (A B : Int) (c : Bool) : L2.atI [PyData.int A, .int B] (if c = true then 1 else 0) = some (.int (if c = true then B else A)) := by
  cases c <;> rfl
theorem nm_lt {l : List Nm} {x : Nat} (h : (x : Int) < ((l.map nmD).length : Int)) : x < l.length := by
  rw [List.length_map] at h
  omega
theorem nm_pick {l : List Nm} {x : Nat} (h : (x : Int) < ((l.map nmD).length : Int)) : L2.atI (l.map nmD) (x : Int) = some (nmD (l[x]'(nm_lt h))) :=
  atI_nat (by rw [List.getElem?_map, List.getElem?_eq_getElem (nm_lt h)] <;> rfl)


theorem sc_law_deed : FnScope ["_law_feed_here", "_law_office_here", "_law_kind", "_law_names", "_law_bags", "_law_one", "_law_other", "_law_some"] ["_law_feed_here", "_law_office_here", "_law_kind", "_law_names", "_law_bags"] (defScope (topS 72)) := ⟨rfl, rfl, rfl, by decide +kernel, rfl, by decide +kernel, by decide +kernel⟩
theorem F_law_deed {g : Gv} (G : GL g) : Fn g 3 "_law_deed" (spF 30 (fun i : DdI => [.dat (officeD i.o), .dat (.int i.kind), .lst (i.names.map nmD), .lst (i.bags.map nmD)]) DdOk (fun i d => DeedOk i.o d) fun d : Deed => .dat (deedD d)) := by
  refine fn_defF (k := 2) G.l_deed sc_law_deed (fun _ => rfl) fun f S n i hi hn => ?_
  obtain ⟨o, kind, names, bags⟩ := i
  obtain ⟨ho, hne, hnl, hbl, hnok, hbok⟩ := hi
  have ho : GoodOff o := ho
  have hne : names ≠ [] := hne
  have hnl : names.length ≤ 64 := hnl
  have hbl : bags.length ≤ 64 := hbl
  have hr30 := ho.ok.2
  have hrl : 0 < o.rds.length := List.length_pos_iff.mpr ho.rd
  have hnp : 0 < names.length := List.length_pos_iff.mpr hne
  show Sd _ [.feed f S n, .dat (officeD o), .dat (.int kind), .shr (names.map nmD), .shr (bags.map nmD), .no, .no, .no] [_, _, _, _, _, _] _
  refine sd_tg (.many [5, 6]) (tg_two 5 6) (w_ix (w_ixk 1 (w_name 1 rfl ⟨_, _, (.inl rfl), rfl, (w_draw 0 (F_draw G) (wa_cons (w_name 0 rfl (wa_cons (w_callB c_len G.b_len (wa_cons (w_ixk 1 (w_name 1 rfl ⟨_, _, (.inl rfl), rfl, (wa_nil ⟨_, .inl ⟨_, _, rfl, .inl rfl, rfl⟩, (wa_nil ⟨_, _, _, _, rfl, rfl, (by refine ⟨?_, ?_, ?_⟩ <;> first | omega | (simp only [List.length_map, List.length_append, List.length_cons, List.length_nil, List.length_take] at *; omega)), fun v hv => (?s1)⟩)⟩)⟩))))))))⟩)))
  obtain ⟨w, hw, hat⟩ := data_at (f := roadD) (l := o.rds) (v := v) (by rw [List.length_map] at hv; omega)
  refine ⟨_, _, _, .inl rfl, rfl, hat, ⟨_, rfl, ⟨_, rfl, rfl⟩, ?_⟩⟩
  show Sd _ [.feed f S (n + 1), .dat (officeD o), .dat (.int kind), .shr (names.map nmD), .shr (bags.map nmD), .dat (.str w.1.1), .dat (.str w.2.1), .no] [_, _, _, _, _] _
  refine sd_ifB (WT.imp (ΦT := fun k Γ' => Γ' = [.feed f S (n + 1), .dat (officeD o), .dat (.int kind), .shr (names.map nmD), .shr (bags.map nmD), .dat (.str w.1.1), .dat (.str w.2.1), .no] ∧ (k = false → kind < 6 → w.1 ≠ tNone)) ?cond fun k Γ' ⟨e, hk⟩ => ⟨fun h => ?mv, fun h => ?rest⟩)
  case cond =>
    refine wt_ww (ww_orB (wt_cmp d_lt (w_name 2 rfl (w_int ⟨_, ⟨_, _, rfl, rfl, trivial, rfl⟩, ⟨fun h => ⟨rfl, (fun z => by cases z)⟩, fun h => ww_or1 (wt_ww (ww_andB (wt_cmp d_lt (w_name 2 rfl (w_int ⟨_, ⟨_, _, rfl, rfl, trivial, rfl⟩, ⟨fun h1 => ww_and1 (wt_cmp d_eq (w_name 5 rfl (w_str ⟨_, ⟨_, _, rfl, rfl, (by first | rfl | decide +kernel | exact sh_tx _ | exact sh_word _ | exact sh_nm _ | exact sh_deed _ | exact sh_page _ | exact sh_runs _ | exact sh_road _ _ | exact sh_roads _ | exact sh_names _ | exact sh_namesT _ | exact sh_txs _), (by first | rfl | decide +kernel | exact sh_tx _ | exact sh_word _ | exact sh_nm _ | exact sh_deed _ | exact sh_page _ | exact sh_runs _ | exact sh_road _ _ | exact sh_roads _ | exact sh_names _ | exact sh_namesT _ | exact sh_txs _), rfl⟩, ⟨rfl, fun z _ => ?nn⟩⟩))), fun h1 => ⟨rfl, fun _ z => ?n6⟩⟩⟩)))))⟩⟩))))
    case nn =>
      intro y
      have z' : PyData.eqv (.str w.1.1) (.str tNone.1) = false := z
      rw [eqv_tx, decide_eq_true y] at z'
      cases z'
    case n6 => exact absurd z (of_decide_eq_false h1)
  case mv =>
    subst e
    exact sd_ret (w_tup (wa_cons (w_str (wa_cons (w_name 5 rfl (wa_cons (w_name 6 rfl (wa_cons (w_callF 0 (F_law_runs G) (wa_cons (w_name 0 rfl (wa_cons (w_name 1 rfl (wa_nil ⟨_, _, _, o, _, rfl, rfl, (by omega), agis_dat (agis_nil), ho, fun rs n1 hrs hn1 => ⟨by first | exact trivial | rfl, (wa_nil ⟨[_, _, _, _], rfl, by exact Nat.le_of_ble_eq_true rfl, (fret_dat (.move w.1 w.2 rs) ⟨hw, hrs⟩ rfl (by omega) rfl)⟩)⟩⟩))))))))))))))
  case rest =>
    have hk' := hk h
    subst e
    refine sd_ifB (wt_cmp d_lt (w_name 2 rfl (w_int ⟨_, ⟨_, _, rfl, rfl, trivial, rfl⟩, ⟨fun h6 => ?bag, fun h6 => ?r2⟩⟩)))
    case bag =>
      refine sd_ret (w_tup (wa_cons (w_str (wa_cons (w_name 5 rfl (wa_cons (w_name 6 rfl (wa_cons (w_ix (w_lst (wa_cons (w_op d_add (w_int (w_draw 0 (F_draw G) (wa_cons (w_name 0 rfl (wa_cons (w_int (wa_nil ⟨_, _, _, _, rfl, rfl, (by refine ⟨?_, ?_, ?_⟩ <;> first | omega | (simp only [List.length_map, List.length_append, List.length_cons, List.length_nil, List.length_take] at *; omega)), fun a ha => ⟨_, ⟨_, _, rfl, rfl, trivial, rfl⟩, (wa_cons (w_op d_pow (w_int (w_int ⟨_, ⟨_, _, rfl, rfl, (by first | trivial | decide | exact .inl (by decide) | exact ⟨by decide, by decide, by decide⟩), rfl⟩, (wa_nil ⟨[_, _], rfl, by exact Nat.le_of_ble_eq_true rfl, (w_callTy c_intB G.b_int (wa_cons (w_cmp d_eq (w_draw 0 (F_draw G) (wa_cons (w_name 0 rfl (wa_cons (w_int (wa_nil ⟨_, _, _, _, rfl, rfl, (by refine ⟨?_, ?_, ?_⟩ <;> first | omega | (simp only [List.length_map, List.length_append, List.length_cons, List.length_nil, List.length_take] at *; omega)), fun b hb => (w_int ⟨_, ⟨_, _, rfl, rfl, (by first | rfl | decide +kernel | exact sh_tx _ | exact sh_word _ | exact sh_nm _ | exact sh_deed _ | exact sh_page _ | exact sh_runs _ | exact sh_road _ _ | exact sh_roads _ | exact sh_names _ | exact sh_namesT _ | exact sh_txs _), (by first | rfl | decide +kernel | exact sh_tx _ | exact sh_word _ | exact sh_nm _ | exact sh_deed _ | exact sh_page _ | exact sh_runs _ | exact sh_road _ _ | exact sh_roads _ | exact sh_names _ | exact sh_namesT _ | exact sh_txs _), rfl⟩, (wa_nil ⟨_, ⟨_, rfl, rfl⟩, ⟨_, _, _, (.inr (by first | exact .inl rfl | exact .inr (.inl rfl))), rfl, pick_int _ _ _, (wa_nil ⟨[_, _, _, _], rfl, by exact Nat.le_of_ble_eq_true rfl, (fret_dat (.bag w.1 w.2 (if PyData.eqv (.int b) (.int 0) = true then (10 : Int) ^ (9 : Int).toNat else 1 + a)) ⟨hw, hk' (of_decide_eq_true h6), ?b1, ?b2⟩ rfl (by omega) rfl)⟩)⟩⟩)⟩)⟩)))))))))⟩)⟩))))⟩⟩)))))))))))))))))))
      case b1 => split <;> first | decide | omega
      case b2 => split <;> first | decide | omega
    case r2 =>
      refine sd_ifB (wt_cmp d_lt (w_name 2 rfl (w_int ⟨_, ⟨_, _, rfl, rfl, trivial, rfl⟩, ⟨fun h8 => ?rd, fun h8 => ?r3⟩⟩)))
      case rd =>
        refine sd_shr 7 (W.imp (Φ := fun r Γ' => ∃ (l : List Nm) (n' : Nat), r = .lst (l.map nmD) ∧ Γ' = [.feed f S n', .dat (officeD o), .dat (.int kind), .shr (names.map nmD), .shr (bags.map nmD), .dat (.str w.1.1), .dat (.str w.2.1), .no] ∧ 0 < l.length ∧ l.length ≤ 64 ∧ (∀ x ∈ l, NmOk x) ∧ n' ≤ n + 2) ?sel fun r Γ' ⟨l, n', e1, e2, hl0, hl1, hlk, hn'⟩ => ⟨_, .inr e1, ?go⟩)
        case sel =>
          exact w_ifB (wt_ww (ww_andB (wt_cmp d_gt (w_callB c_len G.b_len (wa_cons (w_name 4 rfl (wa_nil ⟨_, .inl ⟨_, _, rfl, .inr (by first | exact .inr (.inl rfl) | exact .inr (.inr ⟨_, 4, rfl, rfl⟩)), rfl⟩, (w_int ⟨_, ⟨_, _, rfl, rfl, trivial, rfl⟩, ⟨fun h1 => ww_and1 (wt_cmp d_gt (w_draw 0 (F_draw G) (wa_cons (w_name 0 rfl (wa_cons (w_int (wa_nil ⟨_, _, _, _, rfl, rfl, (by refine ⟨?_, ?_, ?_⟩ <;> first | omega | (simp only [List.length_map, List.length_append, List.length_cons, List.length_nil, List.length_take] at *; omega)), fun b hb => (w_int ⟨_, ⟨_, _, rfl, rfl, trivial, rfl⟩, ⟨fun h2 => (w_name 4 rfl ⟨bags, _, rfl, rfl, (by have z := of_decide_eq_true h1; rw [List.length_map] at z; omega), hbl, hbok, by omega⟩), fun h2 => (w_name 3 rfl ⟨names, _, rfl, rfl, hnp, hnl, hnok, by omega⟩)⟩⟩)⟩))))))), fun h1 => ⟨(fun z => by cases z), fun _ => (w_name 3 rfl ⟨names, _, rfl, rfl, hnp, hnl, hnok, by omega⟩)⟩⟩⟩)⟩)))))))
        case go =>
          subst e2
          show Sd _ [.feed f S n', .dat (officeD o), .dat (.int kind), .shr (names.map nmD), .shr (bags.map nmD), .dat (.str w.1.1), .dat (.str w.2.1), .shr (l.map nmD)] [_] _
          exact sd_ret (w_tup (wa_cons (w_str (wa_cons (w_ix (w_name 7 rfl (w_draw 0 (F_draw G) (wa_cons (w_name 0 rfl (wa_cons (w_callB c_len G.b_len (wa_cons (w_name 7 rfl (wa_nil ⟨_, .inl ⟨_, _, rfl, .inr (by first | exact .inr (.inl rfl) | exact .inr (.inr ⟨_, 7, rfl, rfl⟩)), rfl⟩, (wa_nil ⟨_, _, _, _, rfl, rfl, (by refine ⟨?_, ?_, ?_⟩ <;> first | omega | (simp only [List.length_map, List.length_append, List.length_cons, List.length_nil, List.length_take] at *; omega)), fun x hx => ⟨_, _, _, (.inr (by first | exact .inr (.inl rfl) | exact .inr (.inr ⟨_, 7, rfl, rfl⟩))), rfl, (nm_pick hx), (wa_cons (w_callF 0 (F_law_runs G) (wa_cons (w_name 0 rfl (wa_cons (w_name 1 rfl (wa_nil ⟨_, _, _, o, _, rfl, rfl, (by omega), agis_dat (agis_nil), ho, fun rs n1 hrs hn1 => ⟨by first | exact trivial | rfl, (wa_nil ⟨[_, _, _], rfl, by exact Nat.le_of_ble_eq_true rfl, (fret_dat (.read (l[x]'(nm_lt hx)) rs) ⟨hlk _ (List.getElem_mem _), hrs⟩ rfl (by omega) rfl)⟩)⟩⟩)))))))⟩⟩)⟩))))))))))))))
      case r3 =>
        refine sd_ifB (wt_cmp d_lt (w_name 2 rfl (w_int ⟨_, ⟨_, _, rfl, rfl, trivial, rfl⟩, ⟨fun h11 => ?ct, fun h11 => ?vd⟩⟩)))
        case ct =>
          refine sd_ret (w_tup (wa_cons (w_str (wa_cons (w_name 6 rfl (wa_cons (w_ix (w_lst (wa_cons (w_draw 0 (F_draw G) (wa_cons (w_name 0 rfl (wa_cons (w_int (wa_nil ⟨_, _, _, _, rfl, rfl, (by refine ⟨?_, ?_, ?_⟩ <;> first | omega | (simp only [List.length_map, List.length_append, List.length_cons, List.length_nil, List.length_take] at *; omega)), fun a ha => (wa_cons (w_op d_pow (w_int (w_int ⟨_, ⟨_, _, rfl, rfl, (by first | trivial | decide | exact .inl (by decide) | exact ⟨by decide, by decide, by decide⟩), rfl⟩, (wa_nil ⟨[_, _], rfl, by exact Nat.le_of_ble_eq_true rfl, (w_callTy c_intB G.b_int (wa_cons (w_cmp d_eq (w_draw 0 (F_draw G) (wa_cons (w_name 0 rfl (wa_cons (w_int (wa_nil ⟨_, _, _, _, rfl, rfl, (by refine ⟨?_, ?_, ?_⟩ <;> first | omega | (simp only [List.length_map, List.length_append, List.length_cons, List.length_nil, List.length_take] at *; omega)), fun b hb => (w_int ⟨_, ⟨_, _, rfl, rfl, (by first | rfl | decide +kernel | exact sh_tx _ | exact sh_word _ | exact sh_nm _ | exact sh_deed _ | exact sh_page _ | exact sh_runs _ | exact sh_road _ _ | exact sh_roads _ | exact sh_names _ | exact sh_namesT _ | exact sh_txs _), (by first | rfl | decide +kernel | exact sh_tx _ | exact sh_word _ | exact sh_nm _ | exact sh_deed _ | exact sh_page _ | exact sh_runs _ | exact sh_road _ _ | exact sh_roads _ | exact sh_names _ | exact sh_namesT _ | exact sh_txs _), rfl⟩, (wa_nil ⟨_, ⟨_, rfl, rfl⟩, ⟨_, _, _, (.inr (by first | exact .inl rfl | exact .inr (.inl rfl))), rfl, pick_int _ _ _, (wa_nil ⟨[_, _, _], rfl, by exact Nat.le_of_ble_eq_true rfl, (fret_dat (.count w.2 (if PyData.eqv (.int b) (.int 0) = true then (10 : Int) ^ (12 : Int).toNat else a)) ⟨⟨w.1, hw⟩, ho.rdok w hw, ?b1, ?b2⟩ rfl (by omega) rfl)⟩)⟩⟩)⟩)⟩)))))))))⟩)⟩))))⟩)))))))))))))))
          case b1 => split <;> first | decide | omega
          case b2 => split <;> first | decide | omega
        case vd =>
          exact sd_ret (w_tup (wa_cons (w_str (wa_cons (w_ix (w_name 3 rfl (w_draw 0 (F_draw G) (wa_cons (w_name 0 rfl (wa_cons (w_callB c_len G.b_len (wa_cons (w_name 3 rfl (wa_nil ⟨_, .inl ⟨_, _, rfl, .inr (by first | exact .inr (.inl rfl) | exact .inr (.inr ⟨_, 3, rfl, rfl⟩)), rfl⟩, (wa_nil ⟨_, _, _, _, rfl, rfl, (by refine ⟨?_, ?_, ?_⟩ <;> first | omega | (simp only [List.length_map, List.length_append, List.length_cons, List.length_nil, List.length_take] at *; omega)), fun x hx => ⟨_, _, _, (.inr (by first | exact .inr (.inl rfl) | exact .inr (.inr ⟨_, 3, rfl, rfl⟩))), rfl, (nm_pick hx), (wa_nil ⟨[_, _], rfl, by exact Nat.le_of_ble_eq_true rfl, (fret_dat (.void (names[x]'(nm_lt hx))) (hnok _ (List.getElem_mem _)) rfl (by omega) rfl)⟩)⟩⟩)⟩))))))))))))))
end K83
set_option maxRecDepth 100000
set_option maxHeartbeats 4000000
namespace K83
open PySem PySem.Spec PyProof.Rows L2
/-! ## book_of, is_page -/
def pgSort (l : List Page) : List Page := l.mergeSort (PySem.W.dataLe false fun p => nmD p.nm)
def bkP (l : List Page) : List (List Key × PyData) := l.map fun p => (nmK p.nm, pageD p)
theorem bkP_keys (l : List Page) : ((bkP l).map fun q => keyT q.1) = (l.map Page.nm).map nmD := by
  unfold bkP
  rw [List.map_map, List.map_map] <;> rfl
theorem nm_alike (l : List Nm) : PySem.W.AllAlike (l.map nmD) := PySem.W.AllAlike.of alike_nm
theorem nm_sortable (l : List Nm) : PySem.W.Sortable (l.map nmD) := PySem.W.Sortable.tuples (fun m => ⟨_, _, rfl⟩)
theorem nm_depth (n : Nm) : (nmD n).depth ≤ 64 := Nat.le_trans (lay_nm n).2 (by decide)
theorem bk_sort (l : List Page) : sortD ((bkP l).map fun q => keyT q.1) = (pgSort l).map fun p => nmD p.nm := by
  rw [bkP_keys, List.map_map]
  unfold sortD pgSort
  exact (List.map_mergeSort (r := PySem.W.dataLe false fun p : Page => nmD p.nm) (s := PySem.W.dataLe false id) (f := nmD ∘ Page.nm) (l := l) (fun a _ b _ => rfl)).symm
theorem lk_bkP {l : List Page} (hnd : (l.map Page.nm).Nodup) {p : Page} (hp : p ∈ l) : lk (bkP l) (nmK p.nm) = some (pageD p) := by
  unfold lk bkP
  rw [List.find?_map, Option.map_map]
  induction l with
  | nil => cases hp
  | cons q l ih =>
    rw [List.map_cons, List.nodup_cons] at hnd
    rw [List.find?_cons]
    by_cases z : q.nm = p.nm
    · have : q = p := by
        rcases List.mem_cons.mp hp with rfl | h
        · rfl
        · exact absurd (List.mem_map.mpr ⟨p, h, z.symm⟩) hnd.1
      subst this
      simp
    · have hne : ¬ nmK q.nm = nmK p.nm := fun y => z (nmK_inj y)
      simp only [Function.comp_apply, hne, decide_false]
      rcases List.mem_cons.mp hp with rfl | h
      · exact absurd rfl z
      · exact ih hnd.2 h
theorem lk_none {l : List Page} {n : Nm} (h : n ∉ l.map Page.nm) : lk (bkP l) (nmK n) = none := by
  unfold lk bkP
  rw [List.find?_map, Option.map_map]
  rw [List.find?_eq_none.mpr fun p hp => ?_]
  · rfl
  · simp only [Function.comp_apply, decide_eq_true_eq]
    exact fun y => h (List.mem_map.mpr ⟨p, hp, nmK_inj y⟩)
theorem pgSort_perm (l : List Page) : (pgSort l).Perm l := List.mergeSort_perm _ _
theorem sc_book_of : FnScope ["pages", "found", "unlike", "page", "name"] ["pages"] (defScope (topS 43)) := ⟨rfl, rfl, rfl, by decide +kernel, rfl, by decide +kernel, by decide +kernel⟩
theorem F_book_of {g : Gv} (G : GF g) : Fn g 1 "book_of" (spD (fun l : List Page => [.lst (l.map pageD)]) (fun l => (l.map Page.nm).Nodup ∧ l.length ≤ 1000) fun l => .dat (bookD (pgSort l))) := by
  refine fn_def (k := 0) G.d_book_of sc_book_of (fun _ => rfl) fun l hi => ?_
  obtain ⟨hnd, hl⟩ := hi
  have hl : l.length ≤ 1000 := hl
  show Sd _ _ [_, _, _, _, _] _
  refine sd_dnew 1 (fun p => ?_)
  refine sd_own 2 (w_lst (wa_nil ⟨[], rfl, by exact Nat.le_of_ble_eq_true rfl, ⟨_, rfl, fun q => ?_⟩⟩))
  refine sd_for (.one 3) (fun Γ' => ∃ x, Γ' = [.shr (l.map pageD), .dic p (bkP l), .own q [], x, .no])
    (wi_lst (w_name 0 rfl ⟨_, .inr rfl, fun k Γk => ∃ x, Γk = [.shr (l.map pageD), .dic p (bkP (l.take k)), .own q [], x, .no], ⟨_, rfl⟩, ?_, ?_⟩)) ?_ (tg_one 3)
  · intro k d Γk hk ⟨x, e⟩
    subst e
    obtain ⟨pg, hpg, rfl⟩ := map_at hk
    have hkl : k < l.length := (List.getElem?_eq_some_iff.mp hpg).1
    refine ⟨trivial, ?_⟩
    show Sd _ [.shr (l.map pageD), .dic p (bkP (l.take k)), .own q [], .dat (pageD pg), .no] [_] _
    have hlen : (bkP (l.take k)).length ≤ 100000 := by
      unfold bkP
      rw [List.length_map, List.length_take]
      omega
    have hnone : lk (bkP (l.take k)) (nmK pg.nm) = none := lk_none fun z => by
      have e : l = l.take k ++ l.drop k := (List.take_append_drop k l).symm
      rw [e, List.map_append] at hnd
      have hd := (List.nodup_append.mp hnd).2.2
      refine hd _ z _ ?_ rfl
      refine List.mem_map.mpr ⟨pg, ?_, rfl⟩
      refine List.mem_of_getElem? (i := 0) ?_
      rw [List.getElem?_drop]
      exact hpg
    have hst : bkP (l.take (k + 1)) = bkP (l.take k) ++ [(nmK pg.nm, pageD pg)] := by
      unfold bkP
      rw [take_next hpg, List.map_append] <;> rfl
    refine sd_ifM (fun Γ' => ∃ x, Γ' = [.shr (l.map pageD), .dic p (bkP (l.take (k + 1))), .own q [], x, .no]) (wt_cmp d_ne (w_setd 1 rfl (w_ixk 0 (w_name 3 rfl ⟨_, _, (.inl rfl), rfl, (w_name 3 rfl ⟨nmK pg.nm, pageD pg, _, rfl, rfl, rfl, hlen, (fun d' h => by rw [hnone] at h; cases h), (fun _ => (w_name 3 rfl ⟨_, ⟨_, _, rfl, rfl, sh_page _, sh_page _, rfl⟩, (fun h => ?a), (fun h => sd_nil ⟨.dat (pageD pg), ?b⟩)⟩))⟩)⟩)))) (fun Γ' e => sd_nil e)
    case a =>
      have h' : (!PyData.eqv (pageD pg) (pageD pg)) = true := h
      rw [eqv_page, decide_eq_true rfl] at h'
      cases h'
    case b => rw [hst] <;> rfl
  · intro Γ' ⟨x, e⟩
    rw [List.length_map, List.take_length] at e
    exact ⟨x, e⟩
  · intro Γ' ⟨x, e⟩
    subst e
    refine sd_ifB (wt_cmp d_gt (w_callB c_len G.b_len (wa_cons (w_name 2 rfl (wa_nil ⟨_, .inl ⟨_, _, rfl, .inr (by first | exact .inr (.inl rfl) | exact .inr (.inr ⟨_, 2, rfl, rfl⟩)), rfl⟩, (w_int ⟨_, ⟨_, _, rfl, rfl, trivial, rfl⟩, ⟨fun h => absurd (of_decide_eq_true h) (by decide), fun h => ?_⟩⟩)⟩)))))
    refine sd_ret (w_callTy c_tupleL G.b_tuple (wa_cons (w_lc (.one 4) [("name", 4)] (wi_lst (w_callB c_sortDT G.b_sorted (wa_cons (w_name 1 rfl (wa_nil ⟨_, ⟨_, 1, _, rfl, rfl, (by rw [bkP_keys]; exact nm_alike _), (by rw [bkP_keys]; exact nm_sortable _), (fun z hz => by obtain ⟨y, _, rfl⟩ := List.mem_map.mp hz; exact nm_depth y.nm), rfl⟩, ⟨_, (by first | exact .inl rfl | exact .inr rfl), lcE (bk_sort l) <| lcM (bs := pgSort l) (f := fun p => nmD p.nm) (g := pageD) ?_ ?_ (by decide) (wa_nil ⟨_, ⟨_, _, rfl, (by first | exact .inl rfl | exact .inr (.inl rfl)), rfl⟩, (ret_dat rfl)⟩)⟩⟩))))) (tg_one 4) (by show BlkOk ["pages", "found", "unlike", "page", "name"] (defScope (topS 43)) _ _; exact ⟨rfl, by decide +kernel, by decide +kernel, by decide +kernel, by decide +kernel⟩))))
    · rw [(pgSort_perm l).length_eq]; omega
    · intro n hn
      exact ⟨trivial, (w_dget (w_name 1 rfl (w_name 4 rfl ⟨_, 1, _, nmK n.nm, _, rfl, rfl, rfl, lk_bkP hnd ((pgSort_perm l).mem_iff.mp hn), ⟨rfl, rfl⟩⟩)))⟩
def fnOf : Deed → Str
  | .move _ _ _ => "is_move"
  | .bag _ _ _ => "is_bag"
  | .read _ _ => "is_read"
  | .count _ _ => "is_count"
  | .void _ => "is_void"
abbrev tblL : List (Str × Str) := [("move", "is_move"), ("bag", "is_bag"), ("read", "is_read"), ("count", "is_count"), ("void", "is_void")]
theorem fnOf_in (d : Deed) : (word d, fnOf d) ∈ tblL := by cases d <;> simp [word, fnOf, tblL]
theorem sc_is_page : FnScope ["office", "thing", "word", "deed"] ["office", "thing"] (defScope (topS 41)) := ⟨rfl, rfl, rfl, by decide +kernel, rfl, by decide +kernel, by decide +kernel⟩
theorem F_is_page {g : Gv} (G : GF g) (T : Tbl g "DEEDS" tblL) : Fn g 6 "is_page" (spD (fun i : Office × Page => [.dat (officeD i.1), .dat (pageD i.2)]) (fun i => OffOk i.1 ∧ PageOk i.1 i.2) fun _ => .dat (.bool true)) := by
  refine fn_def (k := 5) G.d_is_page sc_is_page (fun _ => rfl) fun i hi => ?_
  obtain ⟨o, pg⟩ := i
  obtain ⟨ho, hn, hd⟩ := hi
  have hn : NmOk pg.nm := hn
  have hd : DeedOk o pg.deed := hd
  show Sd _ [.dat (officeD o), .dat (pageD pg), .no, .no] [_, _, _, _, _] _
  refine sd_ifF (wt_ww (ww_orF (wt_not (wt_w (w_callD (F_is_pair G) (wa_cons (w_name 1 rfl (wa_nil ⟨_, agis_dat (agis_nil), trivial, ⟨_, rfl, ⟨rfl, ww_orF (wt_not (wt_w (w_callD (F_is_name G) (wa_cons (w_ixk 0 (w_name 1 rfl ⟨_, _, (.inl rfl), rfl, (wa_nil ⟨_, agis_dat (agis_nil), hn, ⟨_, rfl, ⟨rfl, ww_orF (wt_not (wt_w (w_callB c_isi G.b_isinstance (wa_cons (w_ixk 1 (w_name 1 rfl ⟨_, _, (.inl rfl), rfl, (wa_cons (w_type (T := "tuple") G.b_tuple (wa_nil ⟨_, ⟨_, _, rfl, by decide, rfl⟩, ⟨_, rfl, ⟨rfl, ww_or1 (wt_cmp d_eq (w_callB c_len G.b_len (wa_cons (w_ixk 1 (w_name 1 rfl ⟨_, _, (.inl rfl), rfl, (wa_nil ⟨_, .inl ⟨_, _, rfl, .inl rfl, rfl⟩, (w_int ⟨_, ⟨_, _, rfl, rfl, (by first | rfl | decide +kernel | exact sh_tx _ | exact sh_word _ | exact sh_nm _ | exact sh_deed _ | exact sh_page _ | exact sh_runs _ | exact sh_road _ _ | exact sh_roads _ | exact sh_names _ | exact sh_namesT _ | exact sh_txs _), (by first | rfl | decide +kernel | exact sh_tx _ | exact sh_word _ | exact sh_nm _ | exact sh_deed _ | exact sh_page _ | exact sh_runs _ | exact sh_road _ _ | exact sh_roads _ | exact sh_names _ | exact sh_namesT _ | exact sh_txs _), rfl⟩, ⟨?len0, ?_⟩⟩)⟩)⟩)))))⟩⟩⟩)))⟩))))))⟩⟩⟩)⟩))))))⟩⟩⟩))))))))
  case len0 =>
    rw [eqv_int]
    refine decide_eq_false ?_
    have e : 0 < (deedL pg.deed).length := by cases pg.deed <;> exact Nat.succ_pos _
    omega
  refine sd_dat 2 (w_ixk 0 (w_ixk 1 (w_name 1 rfl ⟨_, _, (.inl rfl), rfl, ⟨_, _, (.inl rfl), (deedL_word _), ⟨_, rfl, ?_⟩⟩⟩)))
  refine sd_ifF (wt_ww (ww_orF (wt_not (wt_w (w_callB c_isi G.b_isinstance (wa_cons (w_name 2 rfl (wa_cons (w_type (T := "str") G.b_str (wa_nil ⟨_, ⟨_, _, rfl, by decide, rfl⟩, ⟨_, rfl, ⟨rfl, ww_or1 (wt_notInTbl T (w_name 2 rfl ⟨_, fnOf_in pg.deed, rfl, ⟨rfl, ?_⟩⟩))⟩⟩⟩))))))))))
  refine sd_val 3 (w_ixTbl T (w_name 2 rfl ⟨_, fnOf_in pg.deed, rfl, fun f hf => ⟨_, rfl, ?_⟩⟩))
  obtain ⟨n, d⟩ := pg
  cases d with
  | move f t rs => exact sd_ret (w_callLoc 3 (F_is_move G) hf rfl (wa_cons (w_name 0 rfl (wa_cons (w_ixk 1 (w_name 1 rfl ⟨_, _, (.inl rfl), rfl, (wa_nil ⟨(o, f, t, rs), agis_dat (agis_dat agis_nil), hd, fun r e => by subst e; exact ret_dat rfl⟩)⟩))))))
  | bag f t m => exact sd_ret (w_callLoc 3 (F_is_bag G) hf rfl (wa_cons (w_name 0 rfl (wa_cons (w_ixk 1 (w_name 1 rfl ⟨_, _, (.inl rfl), rfl, (wa_nil ⟨(o, f, t, m), agis_dat (agis_dat agis_nil), hd, fun r e => by subst e; exact ret_dat rfl⟩)⟩))))))
  | read n rs => exact sd_ret (w_callLoc 3 (F_is_read G) hf rfl (wa_cons (w_name 0 rfl (wa_cons (w_ixk 1 (w_name 1 rfl ⟨_, _, (.inl rfl), rfl, (wa_nil ⟨(o, n, rs), agis_dat (agis_dat agis_nil), hd, fun r e => by subst e; exact ret_dat rfl⟩)⟩))))))
  | count p m => exact sd_ret (w_callLoc 3 (F_is_count G) hf rfl (wa_cons (w_name 0 rfl (wa_cons (w_ixk 1 (w_name 1 rfl ⟨_, _, (.inl rfl), rfl, (wa_nil ⟨(o, p, m), agis_dat (agis_dat agis_nil), ⟨ho, hd⟩, fun r e => by subst e; exact ret_dat rfl⟩)⟩))))))
  | void n => exact sd_ret (w_callLoc 3 (F_is_void G) hf rfl (wa_cons (w_name 0 rfl (wa_cons (w_ixk 1 (w_name 1 rfl ⟨_, _, (.inl rfl), rfl, (wa_nil ⟨(o, n), agis_dat (agis_dat agis_nil), hd, fun r e => by subst e; exact ret_dat rfl⟩)⟩))))))
end K83
set_option maxRecDepth 100000
set_option maxHeartbeats 1000000
namespace K83
open PySem PySem.Spec PyProof.Rows L2
/-! ## names in order -/
theorem str_anti {x y : Str} (h1 : ¬ x.cps.toList < y.cps.toList) (h2 : ¬ y.cps.toList < x.cps.toList) : x = y := by
  have e : x.cps.toList = y.cps.toList := by
    by_cases w : x.cps.toList = y.cps.toList
    · exact w
    · exact absurd (Std.lt_of_le_of_ne (Std.not_lt.mp h1) fun z => w z.symm) h2
  obtain ⟨a⟩ := x
  obtain ⟨b⟩ := y
  have e2 : a = b := Array.toList_inj.mp e
  rw [e2]
def NmLt (x y : Nm) : Prop := x.d < y.d ∨ (x.d = y.d ∧ (x.n < y.n ∨ (x.n = y.n ∧ x.h.1.cps.toList < y.h.1.cps.toList)))
theorem nm_dlt (x y : Nm) : PySem.W.dataLt (nmD x) (nmD y) = true ↔ NmLt x y := by
  unfold nmD NmLt
  rw [PySem.W.dataLt_tuple, PySem.W.dataLt_cons (by simp [PySem.W.alike]), PySem.W.dataLt_cons (by simp [PySem.W.alike]), PySem.W.dataLt_cons (by simp [PySem.W.alike]), PySem.W.dataLt_int, PySem.W.dataLt_int, PySem.W.dataLt_str, eqv_tx, eqv_int, eqv_int]
  by_cases h1 : x.d = y.d
  · rw [if_pos (decide_eq_true h1), h1]
    by_cases h2 : x.n = y.n
    · rw [if_pos (decide_eq_true h2), h2]
      by_cases h3 : x.h = y.h
      · rw [if_pos (decide_eq_true h3), h3]
        have hi : ¬ (y.h.1.cps.toList < y.h.1.cps.toList) := List.lt_irrefl _
        constructor
        · intro z
          have z' : PySem.W.dataLt (.tuple []) (.tuple []) = true := by rw [PySem.W.dataLt_tuple]; exact z
          rw [PySem.W.dataLt_self] at z'
          cases z'
        · intro z
          rcases z with z | ⟨_, z | ⟨_, z⟩⟩
          · exact absurd z (Int.lt_irrefl _)
          · exact absurd z (Int.lt_irrefl _)
          · exact absurd z hi
      · rw [if_neg (by rw [decide_eq_false h3]; decide), decide_eq_true_eq]
        constructor
        · exact fun z => .inr ⟨rfl, .inr ⟨rfl, z⟩⟩
        · intro z
          rcases z with z | ⟨_, z | ⟨_, z⟩⟩
          · exact absurd z (Int.lt_irrefl _)
          · exact absurd z (Int.lt_irrefl _)
          · exact z
    · rw [if_neg (by rw [decide_eq_false h2]; decide), decide_eq_true_eq]
      constructor
      · exact fun z => .inr ⟨rfl, .inl z⟩
      · intro z
        rcases z with z | ⟨_, z | ⟨z, _⟩⟩
        · exact absurd z (Int.lt_irrefl _)
        · exact z
        · exact absurd z h2
  · rw [if_neg (by rw [decide_eq_false h1]; decide), decide_eq_true_eq]
    constructor
    · exact fun z => .inl z
    · intro z
      rcases z with z | ⟨z, _⟩
      · exact z
      · exact absurd z h1
theorem nm_not {x y : Nm} (h : ¬ NmLt x y) (h' : ¬ NmLt y x) : x = y := by
  obtain ⟨a, b, c⟩ := x
  obtain ⟨a', b', c'⟩ := y
  unfold NmLt at h h'
  simp only [not_or, not_and] at h h'
  have e1 : a = a' := by omega
  have e2 : b = b' := by
    have := h.2 e1
    have := h'.2 e1.symm
    omega
  have e3 : c = c' := Subtype.ext (str_anti ((h.2 e1).2 e2) ((h'.2 e1.symm).2 e2.symm))
  rw [e1, e2, e3]
abbrev nmLe : Nm → Nm → Bool := PySem.W.dataLe false nmD
theorem nm_anti {x y : Nm} (h : nmLe x y = true) (h' : nmLe y x = true) : x = y := by
  have z : (!PySem.W.dataLt (nmD y) (nmD x)) = true := h
  have z' : (!PySem.W.dataLt (nmD x) (nmD y)) = true := h'
  refine nm_not (fun w => ?_) fun w => ?_
  · rw [(nm_dlt x y).mpr w] at z'
    cases z'
  · rw [(nm_dlt y x).mpr w] at z
    cases z
/-- pages in the order of their names -/
abbrev pgLe : Page → Page → Bool := PySem.W.dataLe false fun p => nmD p.nm
theorem nd_inj {b : List Page} (nd : (b.map Page.nm).Nodup) {p q : Page} (hp : p ∈ b) (hq : q ∈ b) (e : p.nm = q.nm) : p = q := by
  induction b with
  | nil => cases hp
  | cons r b ih =>
    rw [List.map_cons, List.nodup_cons] at nd
    rcases List.mem_cons.mp hp with e1 | h1
    · rcases List.mem_cons.mp hq with e2 | h2
      · rw [e1, e2]
      · exact absurd (List.mem_map.mpr ⟨q, h2, by rw [← e, e1]⟩ : r.nm ∈ b.map Page.nm) nd.1
    · rcases List.mem_cons.mp hq with e2 | h2
      · exact absurd (List.mem_map.mpr ⟨p, h1, by rw [e, e2]⟩ : r.nm ∈ b.map Page.nm) nd.1
      · exact ih nd.2 h1 h2
theorem pgSort_eq {l b : List Page} (pm : l.Perm b) (hb : b.Pairwise fun p q => pgLe p q = true) (nd : (b.map Page.nm).Nodup) : pgSort l = b := by
  have pw := PySem.W.sort_pairwise (le := pgLe) (PySem.W.sortLe_total _ _ _) l
  have pm2 : (pgSort l).Perm b := (pgSort_perm l).trans pm
  refine List.Perm.eq_of_pairwise (le := fun p q => pgLe p q = true) (fun p q hp hq h h' => ?_) pw hb pm2
  exact nd_inj nd (pm2.mem_iff.mp hp) hq (nm_anti h h')
theorem keys_nms {ml : List (List Key)} {ns : List Nm} (nd : ml.Nodup) (h : ∀ k, k ∈ ml ↔ k ∈ ns.map nmK) : ∃ ms : List Nm, ml = ms.map nmK ∧ ms.Nodup ∧ ∀ m, m ∈ ms ↔ m ∈ ns := by
  have key : ∀ l : List (List Key), (∀ k ∈ l, ∃ m : Nm, k = nmK m) → ∃ ms : List Nm, l = ms.map nmK := by
    intro l
    induction l with
    | nil => exact fun _ => ⟨[], rfl⟩
    | cons k l ih =>
      intro hk
      obtain ⟨m, e⟩ := hk k List.mem_cons_self
      obtain ⟨ms, e2⟩ := ih fun k h => hk k (List.mem_cons_of_mem _ h)
      exact ⟨m :: ms, by rw [e, e2] <;> rfl⟩
  obtain ⟨ms, e⟩ := key ml fun k hk => by
    obtain ⟨m, _, e⟩ := List.mem_map.mp ((h k).mp hk)
    exact ⟨m, e.symm⟩
  subst e
  refine ⟨ms, rfl, List.Pairwise.of_map nmK (fun a b h e => h (by rw [e])) nd, fun m => ?_⟩
  constructor
  · intro hm
    obtain ⟨m', h1, h2⟩ := List.mem_map.mp ((h (nmK m)).mp (List.mem_map.mpr ⟨m, hm, rfl⟩))
    rw [← nmK_inj h2]
    exact h1
  · intro hm
    obtain ⟨m', h1, h2⟩ := List.mem_map.mp ((h (nmK m)).mpr (List.mem_map.mpr ⟨m, hm, rfl⟩))
    rw [← nmK_inj h2]
    exact h1
theorem keyT_nm (l : List Nm) : (l.map nmK).map keyT = l.map nmD := by
  rw [List.map_map] <;> rfl
theorem sort_nms (ms : List Nm) : sortD ((ms.map nmK).map keyT) = (ms.mergeSort nmLe).map nmD := by
  rw [keyT_nm]
  unfold sortD
  exact (List.map_mergeSort (r := nmLe) (s := PySem.W.dataLe false id) (f := nmD) (l := ms) (fun a _ b _ => rfl)).symm
theorem sorted_nms (ms : List Nm) : (ms.mergeSort nmLe).Pairwise fun x y => nmLe x y = true := PySem.W.sort_pairwise (PySem.W.sortLe_total _ _ _) ms
/-! ## texts in order -/
abbrev strLe : Str → Str → Bool := PySem.W.dataLe false PyData.str
theorem sort_strs (ml : List Str) : sortD (ml.map PyData.str) = (ml.mergeSort strLe).map PyData.str := by
  unfold sortD
  exact (List.map_mergeSort (r := strLe) (s := PySem.W.dataLe false id) (f := PyData.str) (l := ml) (fun a _ b _ => rfl)).symm
theorem str_le_anti {x y : Str} (h : strLe x y = true) (h' : strLe y x = true) : x = y := by
  have z : (!PySem.W.dataLt (.str y) (.str x)) = true := h
  have z' : (!PySem.W.dataLt (.str x) (.str y)) = true := h'
  rw [PySem.W.dataLt_str] at z z'
  exact str_anti (fun w => by rw [decide_eq_true w] at z'; cases z') fun w => by rw [decide_eq_true w] at z; cases z
theorem sort_one_strs {l m : List Str} (hl : l.Nodup) (hm : m.Nodup) (h : ∀ k, k ∈ l ↔ k ∈ m) : l.mergeSort strLe = m.mergeSort strLe := by
  have pm : l.Perm m := (List.perm_ext_iff_of_nodup hl hm).mpr fun a => h a
  refine List.Perm.eq_of_pairwise (le := fun x y => strLe x y = true) (fun x y _ _ h h' => str_le_anti h h') (PySem.W.sort_pairwise (PySem.W.sortLe_total _ _ _) l) (PySem.W.sort_pairwise (PySem.W.sortLe_total _ _ _) m) ?_
  exact (List.mergeSort_perm _ _).trans (pm.trans (List.mergeSort_perm _ _).symm)
end K83
set_option maxRecDepth 100000
set_option maxHeartbeats 1000000
namespace K83
open PySem PySem.Spec PyProof.Rows L2
/-! ## _law_book -/
structure BookGood (o : Office) (b : List Page) : Prop where
  ok : ∀ p ∈ b, PageOk o p
  len : b.length ≤ 18
  nd : (b.map Page.nm).Nodup
  pw : b.Pairwise fun p q => pgLe p q = true
theorem paired_fst {α β γ : Type} {f : γ → α} {P : α × β → γ → Prop} : ∀ {xs : List α} {ys : List β} {zs : List γ}, xs.length = ys.length → Paired (fun q z => f z = q.1 ∧ P q z) (xs.zip ys) zs → zs.map f = xs
  | [], _, _, _, h => by
    cases h
    rfl
  | x :: xs, [], _, e, _ => by simp at e
  | x :: xs, y :: ys, _, e, h => by
    cases h with
    | cons h1 t => rw [List.map_cons, h1.1, paired_fst (by simpa using e) t]
theorem paired_all {α β : Type} {R : α → β → Prop} {P : β → Prop} (hp : ∀ a b, R a b → P b) : ∀ {xs : List α} {ys : List β}, Paired R xs ys → ∀ y ∈ ys, P y
  | _, _, .nil, y, hy => by cases hy
  | _, _, .cons h t, y, hy => by
    rcases List.mem_cons.mp hy with e | hy
    · rw [e]
      exact hp _ _ h
    · exact paired_all hp t y hy


theorem sc_law_book : FnScope ["_law_feed_here", "_law_office_here", "_law_most", "_law_names", "_law_kinds", "_law_bags", "_law_k", "_law_name_here", "_law_kind"] ["_law_feed_here", "_law_office_here", "_law_most"] (defScope (topS 73)) := ⟨rfl, rfl, rfl, by decide +kernel, rfl, by decide +kernel, by decide +kernel⟩
theorem F_law_book {g : Gv} (G : GL g) : Fn g 4 "_law_book" (spF 700 (fun i : Office × Nat => [.dat (officeD i.1), .dat (.int i.2)]) (fun i => GoodOff i.1 ∧ 1 ≤ i.2 ∧ i.2 ≤ 18) (fun i b => BookGood i.1 b) fun b : List Page => .dat (bookD b)) := by
  refine fn_defF (k := 3) G.l_book sc_law_book (fun _ => rfl) fun f S n i hi hn => ?_
  obtain ⟨o, m⟩ := i
  obtain ⟨ho, hm1, hm2⟩ := hi
  have ho : GoodOff o := ho
  have hm1 : 1 ≤ m := hm1
  have hm2 : m ≤ 18 := hm2
  show Sd _ [.feed f S n, .dat (officeD o), .dat (.int m), .no, .no, .no, .no, .no, .no] [_, _, _, _] _
  refine sd_shr 3 (w_sortSetT G.b_sorted G.b_set (wa_cons (w_lc (.one 6) [("_law_k", 6)] (wi_range G.b_range (wa_cons (w_name 2 rfl (wa_nil ⟨m, rfl, by omega, lcF (bs := List.range m) (f := fun k : Nat => PyData.int k) (K := 5) 0 (fun _ e => ∃ x, e = nmD x ∧ NmOk x) rfl ?n1 ?n2 fun es n1 hes hn1 => (wa_nil (?n3))⟩)))) (tg_one 6) (by show BlkOk ["_law_feed_here", "_law_office_here", "_law_most", "_law_names", "_law_kinds", "_law_bags", "_law_k", "_law_name_here", "_law_kind"] (defScope (topS 73)) _ _; exact ⟨rfl, by decide +kernel, by decide +kernel, by decide +kernel, by decide +kernel⟩))))
  case n1 => rw [List.length_range]; omega
  case n2 =>
    intro k hk n' hn'
    rw [List.length_range] at hn'
    exact ⟨trivial, (w_callF 0 (F_law_name G) (wa_cons (w_name 0 rfl (wa_nil ⟨_, _, _, (), _, rfl, rfl, (by omega), agis_nil, trivial, fun x n2 hx hn2 => ⟨by first | exact trivial | rfl, ⟨nmD x, n2, rfl, ⟨x, rfl, hx⟩, hn2, rfl⟩⟩⟩))))⟩
  case n3 =>
    obtain ⟨xs, rfl, hp⟩ := paired_map (g := nmD) (P := fun _ x => NmOk x) hes
    have hxl : m = xs.length := by
      have := Paired.length hp
      rw [List.length_range] at this
      exact this
    rw [List.length_range] at hn1
    refine ⟨_, xs.map nmK, rfl, by rw [keyT_nm]; exact .inr (.inl rfl), by rw [List.length_map]; omega, by rw [keyT_nm]; exact nm_alike _, by rw [keyT_nm]; exact nm_sortable _, fun k hk => ?dep, fun ml nd hm => ?go⟩
    case dep =>
      obtain ⟨x, _, rfl⟩ := List.mem_map.mp hk
      exact nm_depth x
    case go =>
      obtain ⟨ms, rfl, nd2, hmem⟩ := keys_nms nd hm
      rw [sort_nms]
      have pm : (ms.mergeSort nmLe).Perm ms := List.mergeSort_perm _ _
      have pw := sorted_nms ms
      have ndl : (ms.mergeSort nmLe).Nodup := pm.nodup_iff.mpr nd2
      have hll : (ms.mergeSort nmLe).length ≤ m := by
        rw [pm.length_eq, hxl]
        exact List.Nodup.length_le_of_subset nd2 fun z h => (hmem z).mp h
      have hok : ∀ z ∈ ms.mergeSort nmLe, NmOk z := fun z h => paired_all (P := NmOk) (fun _ _ r => r) hp z ((hmem z).mp (pm.mem_iff.mp h))
      have hne : ms.mergeSort nmLe ≠ [] := fun z => by
        have hx : xs ≠ [] := fun w => by rw [w] at hxl; simp at hxl; omega
        obtain ⟨y, hy⟩ := List.exists_mem_of_ne_nil xs hx
        have := pm.mem_iff.mpr ((hmem y).mpr hy)
        rw [z] at this
        cases this
      generalize ms.mergeSort nmLe = ns at pw ndl hll hok hne
      refine ⟨_, .inl rfl, ?_⟩
      show Sd _ [.feed f S n1, .dat (officeD o), .dat (.int m), .shr (ns.map nmD), .no, .no, .no, .no, .no] [_, _, _] _
      refine (sd_shrLc 4 (.one 7) [("_law_name_here", 7)] (wi_lst (w_name 3 rfl ⟨_, (by first | exact .inl rfl | exact .inr rfl), lcF (bs := ns) (f := nmD) (K := 1) 0 (fun _ e => ∃ x : Int, e = .int x ∧ True) rfl ?k1 ?k2 fun es n2 hes2 hn2 => (?k3)⟩)) (tg_one 7) (by show BlkOk ["_law_feed_here", "_law_office_here", "_law_most", "_law_names", "_law_kinds", "_law_bags", "_law_k", "_law_name_here", "_law_kind"] (defScope (topS 73)) _ _; exact ⟨rfl, by decide +kernel, by decide +kernel, by decide +kernel, by decide +kernel⟩))
      case k1 => omega
      case k2 =>
        intro z hz n' hn'
        exact ⟨trivial, (w_draw 0 (F_draw G) (wa_cons (w_name 0 rfl (wa_cons (w_int (wa_nil ⟨_, _, _, _, rfl, rfl, (by refine ⟨?_, ?_, ?_⟩ <;> first | omega | (simp only [List.length_map, List.length_append, List.length_cons, List.length_nil, List.length_take] at *; omega)), fun v hv => ⟨.int v, _, rfl, ⟨v, rfl, trivial⟩, Nat.le_refl _, rfl⟩⟩))))))⟩
      case k3 =>
        obtain ⟨ks, rfl, hp2⟩ := paired_map (g := PyData.int) (P := fun _ _ => True) hes2
        have hkl : ns.length = ks.length := Paired.length hp2
        refine ⟨ks.map PyData.int, rfl, ?_⟩
        show Sd _ [.feed f S n2, .dat (officeD o), .dat (.int m), .shr (ns.map nmD), .shr (ks.map PyData.int), .no, .no, .no, .no] [_, _] _
        refine (sd_shr 5 (w_lc (.many [7, 8]) [("_law_name_here", 7), ("_law_kind", 8)] (wi_zip G.b_zip (wa_cons (w_name 3 rfl (wa_cons (w_name 4 rfl (wa_nil ⟨_, _, _, _, rfl, .inl ⟨rfl, rfl⟩, lcE (pairs_map nmD PyData.int ns ks) <| lcP (bs := ns.zip ks) (f := fun q => .tuple [nmD q.1, .int q.2]) (p := fun q => decide (4 ≤ q.2) && decide (q.2 < 6)) (g := fun q => nmD q.1) ?b1 ?b2 ⟨_, .inl (new_map Prod.fst nmD _), ?b3⟩⟩)))))) (tg_two 7 8) (by show BlkOk ["_law_feed_here", "_law_office_here", "_law_most", "_law_names", "_law_kinds", "_law_bags", "_law_k", "_law_name_here", "_law_kind"] (defScope (topS 73)) _ _; exact ⟨rfl, by decide +kernel, by decide +kernel, by decide +kernel, by decide +kernel⟩)) (hs := fun env h => sw_cell (by rw [h]; rfl)))
        case b1 => rw [List.length_zip]; omega
        case b2 =>
          intro q hq
          exact ⟨⟨_, rfl, rfl⟩, (wt_chain (fun _ => op_le) (fun _ => op_lt) (w_int (w_name 8 rfl ⟨_, _, _, rfl, rfl, (w_int ⟨rfl, rfl⟩), ⟨rfl, (fun _ => (w_name 7 rfl ⟨rfl, rfl⟩)), rfl⟩⟩)))⟩
        case b3 =>
          have hbl : (((ns.zip ks).filter fun q => decide (4 ≤ q.2) && decide (q.2 < 6)).map Prod.fst).length ≤ 64 := by
            rw [List.length_map]
            refine Nat.le_trans (List.length_filter_le _ _) ?_
            rw [List.length_zip]
            omega
          have hbok : ∀ z ∈ (((ns.zip ks).filter fun q => decide (4 ≤ q.2) && decide (q.2 < 6)).map Prod.fst), NmOk z := fun z hz => by
            obtain ⟨q, hq, rfl⟩ := List.mem_map.mp hz
            exact hok _ (List.of_mem_zip (a := q.1) (b := q.2) (List.mem_filter.mp hq).1).1
          generalize (((ns.zip ks).filter fun q => decide (4 ≤ q.2) && decide (q.2 < 6)).map Prod.fst) = bags at hbl hbok
          show Sd _ [.feed f S n2, .dat (officeD o), .dat (.int m), .shr (ns.map nmD), .shr (ks.map PyData.int), .shr (bags.map nmD), .no, .no, .no] [_] _
          refine sd_ret (w_callTy c_tupleL G.b_tuple (wa_cons (w_lc (.many [7, 8]) [("_law_name_here", 7), ("_law_kind", 8)] (wi_zip G.b_zip (wa_cons (w_name 3 rfl (wa_cons (w_name 4 rfl (wa_nil ⟨_, _, _, _, rfl, .inl ⟨rfl, rfl⟩, lcE (pairs_map nmD PyData.int ns ks) <| lcF (bs := ns.zip ks) (f := fun q => .tuple [nmD q.1, .int q.2]) (K := 30) 0 (fun q e => ∃ d : Page, e = pageD d ∧ (d.nm = q.1 ∧ (q.1 ∈ ns ∧ DeedOk o d.deed))) rfl ?r1 ?r2 fun es n3 hes3 hn3 => (wa_nil ⟨_, ⟨_, _, rfl, (by first | exact .inl rfl | exact .inr (.inl rfl)), rfl⟩, (?r3)⟩)⟩)))))) (tg_two 7 8) (by show BlkOk ["_law_feed_here", "_law_office_here", "_law_most", "_law_names", "_law_kinds", "_law_bags", "_law_k", "_law_name_here", "_law_kind"] (defScope (topS 73)) _ _; exact ⟨rfl, by decide +kernel, by decide +kernel, by decide +kernel, by decide +kernel⟩))))
          case r1 => rw [List.length_zip]; omega
          case r2 =>
            intro q hq n' hn'
            rw [List.length_zip] at hn'
            have hqn : q.1 ∈ ns := (List.of_mem_zip (a := q.1) (b := q.2) hq).1
            have hdd : DdOk ⟨o, q.2, ns, bags⟩ := ⟨ho, hne, by show ns.length ≤ 64; omega, hbl, hok, hbok⟩
            exact ⟨⟨_, rfl, rfl⟩, (w_tup (wa_cons (w_name 7 rfl (wa_cons (w_callF 0 (F_law_deed G) (wa_cons (w_name 0 rfl (wa_cons (w_name 1 rfl (wa_cons (w_name 8 rfl (wa_cons (w_name 3 rfl (wa_cons (w_name 5 rfl (wa_nil ⟨_, _, _, ⟨o, q.2, ns, bags⟩, _, rfl, rfl, (by omega), agis_dat (agis_dat (agis_lst (by first | exact .inr (.inl rfl) | exact .inr (.inr ⟨_, 3, rfl, rfl⟩)) (agis_lst (by first | exact .inr (.inl rfl) | exact .inr (.inr ⟨_, 5, rfl, rfl⟩)) (agis_nil)))), hdd, fun d n4 hd hn4 => ⟨by first | exact trivial | rfl, (wa_nil ⟨[_, _], rfl, by exact Nat.le_of_ble_eq_true rfl, ⟨pageD ⟨q.1, d⟩, n4, rfl, ⟨⟨q.1, d⟩, rfl, rfl, hqn, hd⟩, hn4, rfl⟩⟩)⟩⟩))))))))))))))))⟩
          case r3 =>
            obtain ⟨pgs, rfl, hp3⟩ := paired_map (g := pageD) (P := fun (q : Nm × Int) (d : Page) => d.nm = q.1 ∧ (q.1 ∈ ns ∧ DeedOk o d.deed)) hes3
            have enm : pgs.map Page.nm = ns := paired_fst (f := Page.nm) hkl hp3
            have epl : pgs.length = ns.length := by rw [← enm, List.length_map]
            rw [List.length_zip] at hn3
            refine fret_dat pgs ⟨?g1, by omega, by rw [enm]; exact ndl, ?g2⟩ rfl (by omega) rfl
            case g1 => exact paired_all (P := PageOk o) (fun q d ⟨h1, h2, h3⟩ => ⟨by rw [h1]; exact hok _ h2, h3⟩) hp3
            case g2 =>
              rw [← enm] at pw
              exact List.Pairwise.of_map Page.nm (fun a b h => h) pw
end K83
set_option maxRecDepth 100000
set_option maxHeartbeats 1000000
namespace K83
open PySem PySem.Spec PyProof.Rows L2
/-! ## _law_office -/
theorem tx_lt {l : List Tx} {x : Nat} (h : (x : Int) < ((strL l).length : Int)) : x < l.length := by
  unfold strL at h
  rw [List.length_map] at h
  omega
theorem tx_pick {l : List Tx} {x : Nat} (h : (x : Int) < ((strL l).length : Int)) : L2.atI (strL l) (x : Int) = some (.str (l[x]'(tx_lt h)).1) :=
  atI_nat (by unfold strL; rw [List.getElem?_map, List.getElem?_eq_getElem (tx_lt h)] <;> rfl)
theorem tx_lt2 {l : List Tx} {x : Nat} (h : (x : Int) < ((strL l).length : Int) + 1) : x < (l ++ [tNone]).length := by
  unfold strL at h
  rw [List.length_map] at h
  rw [List.length_append, List.length_singleton]
  omega
theorem tx_pick2 {l : List Tx} {x : Nat} (h : (x : Int) < ((strL l).length : Int) + 1) : L2.atI (strL l ++ [.str "none"]) (x : Int) = some (.str ((l ++ [tNone])[x]'(tx_lt2 h)).1) := by
  have e : strL l ++ [.str "none"] = strL (l ++ [tNone]) := by
    unfold strL
    rw [List.map_append] <;> rfl
  rw [e]
  exact tx_pick (by unfold strL at h ⊢; rw [List.length_map] at h ⊢; rw [List.length_append, List.length_singleton]; omega)
theorem strL_take (l : List Tx) (n : Nat) : (strL l).take n = strL (l.take n) := by
  unfold strL
  rw [List.map_take]
theorem strL_len (l : List Tx) : (strL l).length = l.length := by
  unfold strL
  rw [List.length_map]
theorem words_len : ∀ ws ∈ wordsL, ws.length = 5 ∧ ∀ w ∈ ws, w ≠ tNone := by
  intro ws hw
  simp only [wordsL, List.mem_cons, List.not_mem_nil, or_false] at hw
  rcases hw with rfl | rfl | rfl | rfl <;> exact ⟨rfl, by decide +kernel⟩
theorem series_len : ∀ ws ∈ seriesL, ws.length = 3 ∧ ∀ w ∈ ws, Word w := by
  intro ws hw
  simp only [seriesL, List.mem_cons, List.not_mem_nil, or_false] at hw
  rcases hw with rfl | rfl | rfl <;> refine ⟨rfl, fun w hw => ?_⟩ <;> simp only [List.mem_cons, List.not_mem_nil, or_false] at hw <;> rcases hw with rfl | rfl | rfl <;> exact ⟨by decide +kernel, by decide +kernel⟩
abbrev txLe : Tx → Tx → Bool := PySem.W.dataLe false fun y : Tx => PyData.str y.1
theorem sort_txs (l : List Tx) : sortD (strL l) = strL (l.mergeSort txLe) := by
  unfold sortD strL
  exact (List.map_mergeSort (r := txLe) (s := PySem.W.dataLe false id) (f := fun y : Tx => PyData.str y.1) (l := l) (fun a _ b _ => rfl)).symm
theorem strL_alike (l : List Tx) : PySem.W.AllAlike (strL l) ∧ PySem.W.Sortable (strL l) := by
  have e : strL l = (l.map Subtype.val).map PyData.str := by
    unfold strL
    rw [List.map_map] <;> rfl
  rw [e]
  exact ⟨alike_strs _, sortable_strs _⟩
theorem strL_depth {l : List Tx} : ∀ d ∈ strL l, d.depth ≤ 64 := fun d hd => by
  obtain ⟨y, _, rfl⟩ := List.mem_map.mp hd
  exact Nat.zero_le _
def roadK (r : Tx × Tx) : List Key := [.inr r.1.1, .inr r.2.1]
theorem keyT_road (l : List (Tx × Tx)) : (l.map roadK).map keyT = l.map roadD := by
  rw [List.map_map] <;> rfl
theorem roadK_inj {m n : Tx × Tx} (h : roadK m = roadK n) : m = n := by
  obtain ⟨a, b⟩ := m
  obtain ⟨a', b'⟩ := n
  unfold roadK at h
  injection h with h1 h2
  injection h2 with h2 h3
  injection h1 with h1
  injection h2 with h2
  rw [show a = a' from Subtype.ext h1, show b = b' from Subtype.ext h2]
theorem alike_road (x y : Tx × Tx) : PySem.W.alike (roadD x) (roadD y) = true := by simp [roadD, PySem.W.alike, PySem.W.alikeAll]
theorem road_depth (n : Tx × Tx) : (roadD n).depth ≤ 64 := Nat.le_trans (lay_road n).2 (by decide)
abbrev rdLe : Tx × Tx → Tx × Tx → Bool := PySem.W.dataLe false roadD
theorem keys_rds {ml : List (List Key)} {ns : List (Tx × Tx)} (nd : ml.Nodup) (h : ∀ k, k ∈ ml ↔ k ∈ ns.map roadK) : ∃ ms : List (Tx × Tx), sortD (ml.map keyT) = ms.map roadD ∧ ms.length ≤ ns.length ∧ (∀ m ∈ ms, m ∈ ns) ∧ (ns ≠ [] → ms ≠ []) := by
  have key : ∀ l : List (List Key), (∀ k ∈ l, ∃ m : Tx × Tx, k = roadK m) → ∃ ms : List (Tx × Tx), l = ms.map roadK := by
    intro l
    induction l with
    | nil => exact fun _ => ⟨[], rfl⟩
    | cons k l ih =>
      intro hk
      obtain ⟨m, e⟩ := hk k List.mem_cons_self
      obtain ⟨ms, e2⟩ := ih fun k h => hk k (List.mem_cons_of_mem _ h)
      exact ⟨m :: ms, by rw [e, e2] <;> rfl⟩
  obtain ⟨ms, e⟩ := key ml fun k hk => by
    obtain ⟨m, _, e⟩ := List.mem_map.mp ((h k).mp hk)
    exact ⟨m, e.symm⟩
  subst e
  have nd2 : ms.Nodup := List.Pairwise.of_map roadK (fun a b h e => h (by rw [e])) nd
  have mem : ∀ m, m ∈ ms ↔ m ∈ ns := fun m => by
    constructor
    · intro hm
      obtain ⟨m', h1, h2⟩ := List.mem_map.mp ((h (roadK m)).mp (List.mem_map.mpr ⟨m, hm, rfl⟩))
      rw [← roadK_inj h2]
      exact h1
    · intro hm
      obtain ⟨m', h1, h2⟩ := List.mem_map.mp ((h (roadK m)).mpr (List.mem_map.mpr ⟨m, hm, rfl⟩))
      rw [← roadK_inj h2]
      exact h1
  have pm : (ms.mergeSort rdLe).Perm ms := List.mergeSort_perm _ _
  refine ⟨ms.mergeSort rdLe, ?_, ?_, fun m hm => (mem m).mp (pm.mem_iff.mp hm), fun hne z => ?_⟩
  · rw [keyT_road]
    unfold sortD
    exact (List.map_mergeSort (r := rdLe) (s := PySem.W.dataLe false id) (f := roadD) (l := ms) (fun a _ b _ => rfl)).symm
  · rw [pm.length_eq]
    exact List.Nodup.length_le_of_subset nd2 fun z h => (mem z).mp h
  · obtain ⟨m, hm0⟩ := List.exists_mem_of_ne_nil ns hne
    have := pm.mem_iff.mpr ((mem m).mpr hm0)
    rw [z] at this
    cases this
theorem worth_pos : ∀ {ws : List (Tx × Int)} {s : Tx}, (∀ w ∈ ws, 0 < w.2) → (∃ w ∈ ws, w.1 = s) → 0 < worthOf ws s
  | [], _, _, ⟨_, h, _⟩ => by cases h
  | w :: ws, s, hp, ⟨w', h, e⟩ => by
    unfold worthOf
    split
    · exact hp w List.mem_cons_self
    · rename_i hne
      refine worth_pos (fun x hx => hp x (List.mem_cons_of_mem _ hx)) ?_
      rcases List.mem_cons.mp h with z | z
      · rw [z] at e
        exact absurd e hne
      · exact ⟨w', z, e⟩
theorem pick_worth {v : Nat} (h : (v : Int) < 3) : ∃ x : Int, L2.atI [PyData.int 1, .int 5, .int 1000000] (v : Int) = some (.int x) ∧ 0 < x := by
  have : v = 0 ∨ v = 1 ∨ v = 2 := by omega
  rcases this with rfl | rfl | rfl
  · exact ⟨1, rfl, by decide⟩
  · exact ⟨5, rfl, by decide⟩
  · exact ⟨1000000, rfl, by decide⟩


theorem sc_law_office : FnScope ["_law_feed_here", "_law_words_here", "_law_places", "_law_ways", "_law_k", "_law_one", "_law_other", "_law_series", "_law_worths", "_law_word"] ["_law_feed_here"] (defScope (topS 68)) := ⟨rfl, rfl, rfl, by decide +kernel, rfl, by decide +kernel, by decide +kernel⟩
theorem F_law_office {g : Gv} (G : GL g) : Fn g 3 "_law_office" (spF 60 (fun _ : Unit => []) (fun _ => True) (fun _ o => GoodOff o) fun o : Office => .dat (officeD o)) := by
  refine fn_defF (k := 2) G.l_office sc_law_office (fun _ => rfl) fun f S n _ _ hn => ?_
  show Sd _ [.feed f S n, .no, .no, .no, .no, .no, .no, .no, .no, .no] [_, _, _, _, _, _, _] _
  refine sd_shr 1 (w_callF 0 (F_law_words G) (wa_cons (w_name 0 rfl (wa_nil ⟨_, _, _, (), _, rfl, rfl, (by omega), agis_nil, trivial, fun ws n1 hws hn1 => ⟨by first | exact trivial | rfl, ⟨_, .inr rfl, ?_⟩⟩⟩))))
  obtain ⟨hwl, hwn⟩ := words_len ws hws
  show Sd _ [.feed f S n1, .shr (strL ws), .no, .no, .no, .no, .no, .no, .no, .no] [_, _, _, _, _, _] _
  refine sd_shr 2 (w_slHi (w_name 1 rfl (w_op d_add (w_int (w_draw 0 (F_draw G) (wa_cons (w_name 0 rfl (wa_cons (w_int (wa_nil ⟨_, _, _, _, rfl, rfl, (by refine ⟨?_, ?_, ?_⟩ <;> first | omega | (simp only [List.length_map, List.length_append, List.length_cons, List.length_nil, List.length_take] at *; omega)), fun v hv => ⟨_, ⟨_, _, rfl, rfl, trivial, rfl⟩, ⟨2 + v, _, rfl, (.inr ⟨(by first | exact .inr (.inl rfl) | exact .inr (.inr ⟨_, 1, rfl, rfl⟩)), ⟨_, .inl (congrArg Ar.new (strL_take ws (2 + v))), ?_⟩⟩)⟩⟩⟩))))))))))
  have hpl : (ws.take (2 + v)).length = 2 + v := by rw [List.length_take, hwl]; omega
  have hpn : ∀ w ∈ ws.take (2 + v), w ≠ tNone := fun w hw => hwn w (List.mem_of_mem_take hw)
  generalize ws.take (2 + v) = pl at hpl hpn
  have hpl0 : 0 < (strL pl).length := by rw [strL_len]; omega
  have hpl5 : (strL pl).length ≤ 5 := by rw [strL_len]; omega
  show Sd _ [.feed f S (n1 + 1), .shr (strL ws), .shr (strL pl), .no, .no, .no, .no, .no, .no, .no] [_, _, _, _, _] _
  refine sd_own 3 (w_lst (wa_cons (w_tup (wa_cons (w_str (wa_cons (w_ix (w_name 2 rfl (w_draw 0 (F_draw G) (wa_cons (w_name 0 rfl (wa_cons (w_callB c_len G.b_len (wa_cons (w_name 2 rfl (wa_nil ⟨_, .inl ⟨_, _, rfl, .inr (by first | exact .inr (.inl rfl) | exact .inr (.inr ⟨_, 2, rfl, rfl⟩)), rfl⟩, (wa_nil ⟨_, _, _, _, rfl, rfl, (by refine ⟨?_, ?_, ?_⟩ <;> first | omega | (simp only [List.length_map, List.length_append, List.length_cons, List.length_nil, List.length_take] at *; omega)), fun x hx => ⟨_, _, _, (.inr (by first | exact .inr (.inl rfl) | exact .inr (.inr ⟨_, 2, rfl, rfl⟩))), rfl, (tx_pick hx), (wa_nil ⟨[_, _], rfl, by exact Nat.le_of_ble_eq_true rfl, (wa_nil ⟨[_], rfl, by exact Nat.le_of_ble_eq_true rfl, ⟨_, rfl, fun q => ?_⟩⟩)⟩)⟩⟩)⟩))))))))))))))))
  show Sd _ [.feed f S (n1 + 1 + 1), .shr (strL ws), .shr (strL pl), .own q (([(tNone, pl[x]'(tx_lt hx))] : List (Tx × Tx)).map roadD), .no, .no, .no, .no, .no, .no] [_, _, _, _] _
  have hx0 : pl[x]'(tx_lt hx) ≠ tNone := hpn _ (List.getElem_mem _)
  generalize pl[x]'(tx_lt hx) = r0 at hx0
  refine sd_for (.one 4) (fun Γ' => ∃ n' x4 x5 x6 ways, Γ' = [.feed f S n', .shr (strL ws), .shr (strL pl), .own q (List.map roadD ways), x4, x5, x6, .no, .no, .no] ∧ n' ≤ n + 30 ∧ ways ≠ [] ∧ ways.length ≤ 14 ∧ ∀ r ∈ ways, r.2 ≠ tNone)
    (wi_range G.b_range (wa_cons (w_op d_add (w_int (w_draw 0 (F_draw G) (wa_cons (w_name 0 rfl (wa_cons (w_int (wa_nil ⟨_, _, _, _, rfl, rfl, (by refine ⟨?_, ?_, ?_⟩ <;> first | omega | (simp only [List.length_map, List.length_append, List.length_cons, List.length_nil, List.length_take] at *; omega)), fun u hu => ⟨_, ⟨_, _, rfl, rfl, trivial, rfl⟩, (wa_nil ⟨2 + u, rfl, by omega, fun k Γk => ∃ n' x4 x5 x6 ways, Γk = [.feed f S n', .shr (strL ws), .shr (strL pl), .own q (List.map roadD ways), x4, x5, x6, .no, .no, .no] ∧ n' ≤ n + 4 + 2 * k ∧ ways ≠ [] ∧ ways.length ≤ k + 1 ∧ ∀ r ∈ ways, r.2 ≠ tNone, ⟨_, _, _, _, _, rfl, by omega, by simp, by simp, ?i0⟩, ?step, ?last⟩)⟩⟩)))))))))) ?rest (tg_one 4)
  case i0 =>
    intro r hr
    rw [List.mem_singleton.mp hr]
    exact hx0
  case step =>
    intro k d Γk hk ⟨n', x4, x5, x6, ways, e, hn', hne, hl, hok⟩
    subst e
    have hk4 : k < 12 := by
      have z := (List.getElem?_eq_some_iff.mp hk).1
      unfold rangeD at z
      rw [List.length_map, List.length_range] at z
      omega
    refine ⟨trivial, ?_⟩
    show Sd _ [.feed f S n', .shr (strL ws), .shr (strL pl), .own q (List.map roadD ways), .dat d, x5, x6, .no, .no, .no] [_, _, _] _
    refine sd_dat 5 (w_ix (w_cat (w_name 2 rfl (w_lst (wa_cons (w_str (wa_nil ⟨[_], rfl, by exact Nat.le_of_ble_eq_true rfl, ⟨_, _, (by first | exact .inr (.inl rfl) | exact .inr (.inr ⟨_, 2, rfl, rfl⟩)), .inl rfl, (by show (strL pl).length + 1 ≤ 1000000; omega), (w_draw 0 (F_draw G) (wa_cons (w_name 0 rfl (wa_cons (w_op d_add (w_callB c_len G.b_len (wa_cons (w_name 2 rfl (wa_nil ⟨_, .inl ⟨_, _, rfl, .inr (by first | exact .inr (.inl rfl) | exact .inr (.inr ⟨_, 2, rfl, rfl⟩)), rfl⟩, (w_int ⟨_, ⟨_, _, rfl, rfl, trivial, rfl⟩, (wa_nil ⟨_, _, _, _, rfl, rfl, (by refine ⟨?_, ?_, ?_⟩ <;> first | omega | (simp only [List.length_map, List.length_append, List.length_cons, List.length_nil, List.length_take] at *; omega)), fun y hy => ⟨_, _, _, (.inr (by first | exact .inl rfl | exact .inr (.inl rfl))), rfl, (tx_pick2 hy), ⟨_, rfl, ?_⟩⟩⟩)⟩)⟩)))))))))⟩⟩)))))))
    generalize (pl ++ [tNone])[y]'(tx_lt2 hy) = one
    show Sd _ [.feed f S (n' + 1), .shr (strL ws), .shr (strL pl), .own q (List.map roadD ways), .dat d, .dat (.str one.1), x6, .no, .no, .no] [_, _] _
    refine sd_dat 6 (w_ix (w_name 2 rfl (w_draw 0 (F_draw G) (wa_cons (w_name 0 rfl (wa_cons (w_callB c_len G.b_len (wa_cons (w_name 2 rfl (wa_nil ⟨_, .inl ⟨_, _, rfl, .inr (by first | exact .inr (.inl rfl) | exact .inr (.inr ⟨_, 2, rfl, rfl⟩)), rfl⟩, (wa_nil ⟨_, _, _, _, rfl, rfl, (by refine ⟨?_, ?_, ?_⟩ <;> first | omega | (simp only [List.length_map, List.length_append, List.length_cons, List.length_nil, List.length_take] at *; omega)), fun z hz => ⟨_, _, _, (.inr (by first | exact .inr (.inl rfl) | exact .inr (.inr ⟨_, 2, rfl, rfl⟩))), rfl, (tx_pick hz), ⟨_, rfl, ?_⟩⟩⟩)⟩))))))))))
    have hz0 : pl[z]'(tx_lt hz) ≠ tNone := hpn _ (List.getElem_mem _)
    generalize pl[z]'(tx_lt hz) = other at hz0
    show Sd _ [.feed f S (n' + 1 + 1), .shr (strL ws), .shr (strL pl), .own q (List.map roadD ways), .dat d, .dat (.str one.1), .dat (.str other.1), .no, .no, .no] [_] _
    refine sd_ifM (fun Γ' => ∃ n' x4 x5 x6 ways, Γ' = [.feed f S n', .shr (strL ws), .shr (strL pl), .own q (List.map roadD ways), x4, x5, x6, .no, .no, .no] ∧ n' ≤ n + 4 + 2 * (k + 1) ∧ ways ≠ [] ∧ ways.length ≤ k + 1 + 1 ∧ ∀ r ∈ ways, r.2 ≠ tNone) (wt_cmp d_ne (w_name 5 rfl (w_name 6 rfl ⟨_, ⟨_, _, rfl, rfl, (by first | rfl | decide +kernel | exact sh_tx _ | exact sh_word _ | exact sh_nm _ | exact sh_deed _ | exact sh_page _ | exact sh_runs _ | exact sh_road _ _ | exact sh_roads _ | exact sh_names _ | exact sh_namesT _ | exact sh_txs _), (by first | rfl | decide +kernel | exact sh_tx _ | exact sh_word _ | exact sh_nm _ | exact sh_deed _ | exact sh_page _ | exact sh_runs _ | exact sh_road _ _ | exact sh_roads _ | exact sh_names _ | exact sh_namesT _ | exact sh_txs _), rfl⟩, ⟨fun h => ?A, fun h => ?B⟩⟩))) (fun Γ' e => sd_nil e)
    case A =>
      refine sd_append 3 rfl (wa_cons (w_tup (wa_cons (w_name 5 rfl (wa_cons (w_name 6 rfl (wa_nil ⟨[_, _], rfl, by exact Nat.le_of_ble_eq_true rfl, (wa_nil ⟨_, _, rfl, rfl, by rw [List.length_map]; omega, sd_nil ⟨n' + 1 + 1, .dat d, .dat (.str one.1), .dat (.str other.1), ways ++ [(one, other)], by rw [List.map_append] <;> rfl, by omega, by simp, by rw [List.length_append, List.length_singleton]; omega, fun r hr => ?_⟩⟩)⟩)))))))
      rcases List.mem_append.mp hr with y | y
      · exact hok r y
      · rw [List.mem_singleton.mp y]
        exact hz0
    case B => exact sd_nil ⟨n' + 1 + 1, .dat d, .dat (.str one.1), .dat (.str other.1), ways, rfl, by omega, hne, by omega, hok⟩
  case last =>
    intro Γ' ⟨n', x4, x5, x6, ways, e, hn', hne, hl, hok⟩
    have el : (rangeD (2 + u)).length = 2 + u := by
      unfold rangeD
      rw [List.length_map, List.length_range]
    rw [el] at hn' hl
    exact ⟨n', x4, x5, x6, ways, e, by omega, hne, by omega, hok⟩
  case rest =>
    intro Γ' ⟨n', x4, x5, x6, ways, e, hn', hne, hl, hok⟩
    subst e
    refine @sd_shr _ _ _ _ _ _ _ 7 _ ?h1 ?h2 ?h3 ?h4 ?h5
    case h2 => intro _ _; unfold swapsWith; rfl
    case h3 => rfl
    case h4 => exact Or.inl rfl
    case h5 => rfl
    refine w_slHi (w_ixF (w_lstF (wa_cons (w_lst (wa_cons (w_str (wa_cons (w_str (wa_cons (w_str (wa_nil ⟨[_, _, _], rfl, by exact Nat.le_of_ble_eq_true rfl, (wa_cons (w_lst (wa_cons (w_str (wa_cons (w_str (wa_cons (w_str (wa_nil ⟨[_, _, _], rfl, by exact Nat.le_of_ble_eq_true rfl, (wa_cons (w_lst (wa_cons (w_str (wa_cons (w_str (wa_cons (w_str (wa_nil ⟨[_, _, _], rfl, by exact Nat.le_of_ble_eq_true rfl, (wa_nil ⟨_, .cons (.inr (.inr ⟨_, rfl, rfl⟩)) (.cons (.inr (.inr ⟨_, rfl, rfl⟩)) (.cons (.inr (.inr ⟨_, rfl, rfl⟩)) (.nil))), by exact Nat.le_of_ble_eq_true rfl, (w_draw 0 (F_draw G) (wa_cons (w_name 0 rfl (wa_cons (w_int (wa_nil ⟨_, _, _, _, rfl, rfl, (by refine ⟨?_, ?_, ?_⟩ <;> first | omega | (simp only [List.length_map, List.length_append, List.length_cons, List.length_nil, List.length_take] at *; omega)), fun v hv => ?_⟩))))))⟩)⟩)))))))))⟩)))))))))⟩)))))))))))
    obtain ⟨sr, hsr, hat⟩ := lists_at (l := seriesL) (v := v) (by show v < 3; omega)
    rw [series_eq] at hat
    obtain ⟨hsl, hsw⟩ := series_len sr hsr
    refine ⟨_, _, _, rfl, rfl, hat, strL_flat sr, (w_op d_add (w_int (w_draw 0 (F_draw G) (wa_cons (w_name 0 rfl (wa_cons (w_int (wa_nil ⟨_, _, _, _, rfl, rfl, (by refine ⟨?_, ?_, ?_⟩ <;> first | omega | (simp only [List.length_map, List.length_append, List.length_cons, List.length_nil, List.length_take] at *; omega)), fun w hw => ⟨_, ⟨_, _, rfl, rfl, trivial, rfl⟩, ⟨1 + w, _, rfl, .inr ⟨.inr (.inl rfl), ⟨_, .inl (congrArg Ar.new (strL_take sr (1 + w))), ?_⟩⟩⟩⟩⟩))))))))⟩
    have hse : (sr.take (1 + w)).length = 1 + w := by rw [List.length_take, hsl]; omega
    have hsw2 : ∀ s ∈ sr.take (1 + w), Word s := fun s hs => hsw s (List.mem_of_mem_take hs)
    generalize sr.take (1 + w) = se at hse hsw2
    show Sd _ [.feed f S (n' + 1 + 1), .shr (strL ws), .shr (strL pl), .own q (List.map roadD ways), x4, x5, x6, .shr (strL se), .no, .no] [_, _] _
    have pm : (se.mergeSort txLe).Perm se := List.mergeSort_perm _ _
    refine sd_dat 8 (w_callTy c_tupleL G.b_tuple (wa_cons (w_lc (.one 9) [("_law_word", 9)] (wi_lst (w_callB c_sorted G.b_sorted (wa_cons (w_name 7 rfl (wa_nil ⟨_, ⟨_, _, rfl, (by first | exact .inr (.inl rfl) | exact .inr (.inr ⟨_, 7, rfl, rfl⟩)), (strL_alike se).1, (strL_alike se).2, strL_depth, rfl⟩, ⟨_, (by first | exact .inl rfl | exact .inr rfl), lcE (sort_txs se) <| lcF (bs := se.mergeSort txLe) (f := fun y => PyData.str y.1) (K := 1) 0 (fun t e => ∃ w : Tx × Int, e = worthD w ∧ (w.1 = t ∧ (t ∈ se ∧ 0 < w.2))) rfl ?r1 ?r2 fun es n3 hes3 hn3 => (wa_nil ⟨_, ⟨_, _, rfl, (by first | exact .inl rfl | exact .inr (.inl rfl)), rfl⟩, (?r3)⟩)⟩⟩))))) (tg_one 9) (by show BlkOk ["_law_feed_here", "_law_words_here", "_law_places", "_law_ways", "_law_k", "_law_one", "_law_other", "_law_series", "_law_worths", "_law_word"] (defScope (topS 68)) _ _; exact ⟨rfl, by decide +kernel, by decide +kernel, by decide +kernel, by decide +kernel⟩))))
    case r1 => rw [pm.length_eq]; omega
    case r2 =>
      intro t ht n' hn'
      have hts := pm.mem_iff.mp ht
      rw [pm.length_eq, hse] at hn'
      refine ⟨trivial, w_tup (wa_cons (w_name 9 rfl (wa_cons (w_ix (w_lst (wa_cons (w_int (wa_cons (w_int (wa_cons (w_int (wa_nil ⟨[_, _, _], rfl, by exact Nat.le_of_ble_eq_true rfl, (w_draw 0 (F_draw G) (wa_cons (w_name 0 rfl (wa_cons (w_int (wa_nil ⟨_, _, _, _, rfl, rfl, (by refine ⟨?_, ?_, ?_⟩ <;> first | omega | (simp only [List.length_map, List.length_append, List.length_cons, List.length_nil, List.length_take] at *; omega)), fun y hy => (?w)⟩))))))⟩))))))))))))⟩
      obtain ⟨z, hz, hz0⟩ := pick_worth hy
      exact ⟨_, _, _, .inr (.inr (.inl rfl)), rfl, hz, wa_nil ⟨[_, _], rfl, by exact Nat.le_of_ble_eq_true rfl, ⟨worthD (t, z), _, rfl, ⟨(t, z), rfl, rfl, hts, hz0⟩, Nat.le_refl _, rfl⟩⟩⟩
    case r3 =>
      obtain ⟨wl, rfl, hp3⟩ := paired_map (g := worthD) (P := fun (t : Tx) (w : Tx × Int) => w.1 = t ∧ (t ∈ se ∧ 0 < w.2)) hes3
      have hwlen : wl.length = 1 + w := by rw [← Paired.length hp3, pm.length_eq, hse]
      rw [pm.length_eq, hse] at hn3
      have hwall : ∀ y ∈ wl, Word y.1 ∧ 0 < y.2 := paired_all (P := fun y : Tx × Int => Word y.1 ∧ 0 < y.2) (fun t y ⟨h1, h2, h3⟩ => ⟨by rw [h1]; exact hsw2 t h2, h3⟩) hp3
      refine ⟨_, rfl, ?_⟩
      show Sd _ [.feed f S n3, .shr (strL ws), .shr (strL pl), .own q (List.map roadD ways), x4, x5, x6, .shr (strL se), .dat (.tuple (wl.map worthD)), .no] [_] _
      refine sd_ret (w_tup (wa_cons (w_name 8 rfl (wa_cons (w_callTy c_tupleL G.b_tuple (wa_cons (w_sortSetT G.b_sorted G.b_set (wa_cons (w_name 3 rfl (wa_nil ⟨_, ways.map roadK, rfl, by rw [keyT_road]; exact .inr (.inr ⟨_, 3, rfl, rfl⟩), by rw [List.length_map]; omega, by rw [keyT_road]; exact PySem.W.AllAlike.of alike_road, by rw [keyT_road]; exact PySem.W.Sortable.tuples (fun m => ⟨_, _, rfl⟩), fun k hk => ?dep, fun ml nd hm => ?go⟩))))))))))
      case dep =>
        obtain ⟨m, _, rfl⟩ := List.mem_map.mp hk
        exact road_depth m
      case go =>
        obtain ⟨ms, es, hml, hmin, hmne⟩ := keys_rds nd hm
        rw [es]
        refine wa_nil ⟨_, ⟨_, _, rfl, .inr (.inl rfl), rfl⟩, wa_nil ⟨[_, _], rfl, by exact Nat.le_of_ble_eq_true rfl, fret_dat ⟨wl, ms⟩ ⟨⟨?o1, ?o2⟩, ?o3, ?o4, hmne hne, ?o5⟩ rfl (by omega) rfl⟩⟩
        case o1 => show wl.length ≤ 100; omega
        case o2 => show ms.length ≤ 30; omega
        case o3 =>
          intro z
          have z' : wl = [] := z
          rw [z'] at hwlen
          simp at hwlen
          omega
        case o4 => exact fun y hy => ⟨(hwall y hy).1, worth_pos (fun x hx => (hwall x hx).2) ⟨y, hy, rfl⟩⟩
        case o5 => exact fun r hr => hok r (hmin r hr)
end K83
set_option maxRecDepth 100000
set_option maxHeartbeats 1000000
namespace K83
open PySem PySem.Spec PyProof.Rows L2
/-! ## _law_stirred -/
theorem erase_map {α β : Type} (f : α → β) : ∀ (l : List α) (i : Nat), (l.map f).eraseIdx i = (l.eraseIdx i).map f
  | [], _ => rfl
  | _ :: _, 0 => rfl
  | a :: l, i + 1 => by
    show f a :: (l.map f).eraseIdx i = f a :: (l.eraseIdx i).map f
    rw [erase_map f l i]
theorem erase_perm {α : Type} : ∀ {l : List α} {i : Nat} (h : i < l.length), (l[i] :: l.eraseIdx i).Perm l
  | [], _, h => absurd h (by simp)
  | a :: l, 0, _ => List.Perm.refl _
  | a :: l, i + 1, h => by
    have hi : i < l.length := by simpa using h
    exact (List.Perm.swap a l[i] (l.eraseIdx i)).trans ((erase_perm hi).cons a)

theorem sc_law_stirred : FnScope ["_law_feed_here", "_law_pages", "_law_left", "_law_found"] ["_law_feed_here", "_law_pages"] (defScope (topS 75)) := ⟨rfl, rfl, rfl, by decide +kernel, rfl, by decide +kernel, by decide +kernel⟩
theorem F_law_stirred {g : Gv} (G : GL g) : Fn g 2 "_law_stirred" (spF 20 (fun b : List Page => [.dat (bookD b)]) (fun b => b.length ≤ 18) (fun b l => l.Perm b) fun l : List Page => .new (l.map pageD)) := by
  refine fn_defF (k := 1) G.l_stirred sc_law_stirred (fun _ => rfl) fun f S n b hb hn => ?_
  have hb : b.length ≤ 18 := hb
  show Sd _ [.feed f S n, .dat (bookD b), .no, .no] [_, _, _] _
  refine sd_parNew 2 3 (w_callTy c_listT G.b_list (wa_cons (w_name 1 rfl (wa_nil ⟨_, ⟨_, _, rfl, .inl rfl, rfl⟩, ⟨_, rfl, fun p q => ?_⟩⟩)))) (hil := by show 2 < 4; decide) (hjl := by show 3 < 4; decide)
  show Sd _ [.feed f S n, .dat (bookD b), .own p (b.map pageD), .own q []] [_, _] _
  refine sd_while (fun m Γ' => ∃ (n' : Nat) (left found : List Page), Γ' = [.feed f S n', .dat (bookD b), .own p (left.map pageD), .own q (found.map pageD)] ∧ left.length = m ∧ (found ++ left).Perm b ∧ n' + left.length ≤ n + b.length)
    (fun Γ' => ∃ (n' : Nat) (found : List Page), Γ' = [.feed f S n', .dat (bookD b), .own p [], .own q (found.map pageD)] ∧ found.Perm b ∧ n' ≤ n + b.length) (n := b.length) ⟨n, b, [], rfl, rfl, List.Perm.refl _, Nat.le_refl _⟩ ?step ?rest
  case step =>
    intro m Γ' ⟨n', left, found, e, hm, pm, hn'⟩
    subst e
    have hll : left.length ≤ 18 := by
      have := pm.length_eq
      rw [List.length_append] at this
      omega
    have hfl : found.length ≤ 18 := by
      have := pm.length_eq
      rw [List.length_append] at this
      omega
    refine (wt_cmp d_gt (w_callB c_len G.b_len (wa_cons (w_name 2 rfl (wa_nil ⟨_, .inl ⟨_, _, rfl, .inr (by first | exact .inr (.inl rfl) | exact .inr (.inr ⟨_, 2, rfl, rfl⟩)), rfl⟩, (w_int ⟨_, ⟨_, _, rfl, rfl, trivial, rfl⟩, ⟨fun h => ?go, fun h => ?stop⟩⟩)⟩)))))
    case stop =>
      have hz := of_decide_eq_false h
      rw [List.length_map] at hz
      have e0 : left = [] := List.length_eq_zero_iff.mp (by omega)
      subst e0
      exact ⟨n', found, rfl, by rw [List.append_nil] at pm; exact pm, by simp at hn'; omega⟩
    case go =>
      have hz := of_decide_eq_true h
      rw [List.length_map] at hz
      have hz : 0 < left.length := by omega
      refine sd_append 3 rfl (wa_cons (w_popAt 2 rfl (wa_cons (w_draw 0 (F_draw G) (wa_cons (w_name 0 rfl (wa_cons (w_callB c_len G.b_len (wa_cons (w_name 2 rfl (wa_nil ⟨_, .inl ⟨_, _, rfl, .inr (by first | exact .inr (.inl rfl) | exact .inr (.inr ⟨_, 2, rfl, rfl⟩)), rfl⟩, (wa_nil ⟨_, _, _, _, rfl, rfl, (by refine ⟨?_, ?_, ?_⟩ <;> first | omega | (simp only [List.length_map, List.length_append, List.length_cons, List.length_nil, List.length_take] at *; omega)), fun v hv => (wa_nil ?_)⟩)⟩)))))))))))
      have hvl : v < left.length := by rw [List.length_map] at hv; omega
      have e1 : (left.map pageD)[v]? = some (pageD left[v]) := by rw [List.getElem?_map, List.getElem?_eq_getElem hvl] <;> rfl
      refine ⟨v, _, _, rfl, rfl, e1, by rw [List.length_map]; omega, wa_nil ⟨_, _, rfl, rfl, by rw [List.length_map]; omega, sd_nil ⟨left.length - 1, by omega, n' + 1, left.eraseIdx v, found ++ [left[v]], ?s1, ?s2, ?s3, ?s4⟩⟩⟩
      case s1 => rw [List.map_append, erase_map] <;> rfl
      case s2 => rw [List.length_eraseIdx_of_lt hvl]
      case s3 =>
        rw [List.append_assoc]
        exact ((erase_perm hvl).append_left found).trans pm
      case s4 => rw [List.length_eraseIdx_of_lt hvl]; omega
  case rest =>
    intro Γ' ⟨n', found, e, pm, hn'⟩
    subst e
    exact sd_ret (w_name 3 rfl ⟨found, n', pm, by omega, .inr (.inr (.inr ⟨q, 3, _, by decide, rfl, rfl, rfl⟩)), rfl⟩)
end K83
set_option maxRecDepth 100000
set_option maxHeartbeats 4000000
namespace K83
open PySem PySem.Spec PyProof.Rows L2

/-! ## defs that show, as callers have them -/
theorem fn_defGT {g : Gv} {x : Str} {st : Stmt} {N ps : List Str} {k : Nat} {ι : Type} {args : ι → List Ar} {pre : ι → Prop} {post : ι → Ar → Prop} (D : DefAt g x st ps) (Sc : FnScope N ps (defScope st))
    (hlen : ∀ i, (args i).length = ps.length) (hb : ∀ i, pre i → Sd ⟨g, N, defScope st, k, true, true⟩ (startG N.length (args i)) (defBody st) { ret := fun r Γ' => ∃ r', post i r' ∧ RetIs Γ' r r', nx := fun _ => post i (.dat .none) }) :
    FnG g (k + 1) x (spT args pre post) :=
  fn_defG D Sc (fun vs H Q E ⟨i, _, ag, _⟩ => (Paired.length ag).trans (hlen i)) fun vs H Q E ⟨i, hp, ag, q⟩ X hX => by
    have hle : (args i).length ≤ N.length := by
      have e := congrArg List.length Sc.pre
      rw [List.length_take] at e
      rw [hlen i]
      omega
    exact hb i hp X hX H (L2.start N vs) H (start_kn ag hle) _ ⟨fun H0' r v Γ σ H' s ⟨r', pr, ri⟩ S o => q r' v H' pr (s.trans S.base) (ri.ok s S o), fun H0' Γ σ H' s p S => q _ _ H' p (s.trans S.base) (.non), fun _ _ _ _ _ z => z.elim, fun _ _ _ _ _ z => z.elim⟩
section
variable {c : Ct} {Γ : List Sv} {a b e : Expr} {es : List Expr} {pos p : Pos} {Φ : Ar → List Sv → Prop} {ΦT : Bool → List Sv → Prop}
theorem w_callGT {ι : Type} {k : Nat} {x : Str} {args : ι → List Ar} {pre : ι → Prop} {post : ι → Ar → Prop} (F : FnG c.g k x (spT args pre post)) (h : WA c Γ (e :: es) fun rs Γ1 => ∃ i, AgIs Γ1 rs (args i) ∧ pre i ∧ ∀ r, post i r → Φ r Γ1)
    (hgd : c.gd = true := by rfl) (hk : k ≤ c.k := by exact Nat.le_of_ble_eq_true rfl) (hg : c.sc.names.lookup x = some .globalImplicit := by rfl) (hdb : (x == ("__debug__" : Str)) = false := by decide)
    (he : ∀ env : Env, starEach (e :: es) env = (false, eval e env) :: starEach es env := by intro _; rfl) (hpl : ∀ env : Env, (backTo pos (starEach es env)).any (·.1) = false := by intro _; rfl) : W c Γ (.Call (.Name x p) (e :: es) [] pos) Φ := fun X hX H0 σ H S Q q => by
  obtain ⟨f, fd, ps, F, gm, kp, bd⟩ := F.ex
  refine (pe_callG hX hgd F hk (hX.gl hg) (by rw [hX.mg]; exact gm) (by rw [hX.K]; exact kp) (by rw [hX.K]; exact bd) pa_wa hdb (he X.env) (hpl X.env)).we ?_
  refine h X hX H0 σ H S _ fun H0' rs Γ' vs H' s ⟨i, ag, hp, hq⟩ S' o => ?_
  refine ⟨i, hp, by rw [List.append_nil]; exact ag.ok S' o, fun r v H'' hr s' rk => ?_⟩
  exact q H0' r Γ' v H'' s (hq r hr) (S'.same s') (rk.ar S' (S'.same s'))
/-! ## repr -/
def ShowD (d : PyData) : Prop := d.showable = true ∧ d.hasDict = false ∧ d.depth ≤ 64 ∧ d.shown.length ≤ sizeLine
theorem cr_repr {X : Cx} (hg : X.A.guards = some []) (hu : X.A.units + 100 < cLine) : CallR X (.builtin "repr") (fun xs H Q => ∃ t d, xs = [V.ref t] ∧ Dp X.K H (.ref t) d ∧ ShowD d ∧ Q (.str d.shown) H) := by
  intro pins s σ H xs us Q I r ⟨t, d, e1, hd, ⟨h1, h2, h3, h4⟩, q⟩
  subst e1
  obtain ⟨u, rfl, ru⟩ := vals1 r
  cases ru
  obtain ⟨as, rd⟩ := Dp.reads I d _ (.ref t) hd rfl
  exact repr_of_reads' rd h1 (PyData.noDict_hsm h2) hg (by omega) (fun b o z => z) (fun h' u tk hk => ⟨.str d.shown, H, I.kept hk, ⟨u, rfl⟩, q⟩) h4
/-- data, with lists and tuples of all kinds -/
def FzS (r : Ar) (d : PyData) : Prop := FzR r d ∨ ∃ ds, r.weak = .nic ds ∧ d = .tuple ds
theorem fzs_dat {d : PyData} : FzS (.dat d) d := .inl (.inl rfl)
theorem fzs_fz {d : PyData} : FzS (.fz d) d := .inl (.inr (.inl rfl))
theorem fzs_lst {ds : List PyData} : FzS (.lst ds) (.list ds) := .inl (.inr (.inr ⟨ds, rfl, rfl⟩))
theorem fzs_new {ds : List PyData} : FzS (.new ds) (.list ds) := .inl (.inr (.inr ⟨ds, rfl, rfl⟩))
theorem fzs_nic {ds : List PyData} : FzS (.nic ds) (.tuple ds) := .inr ⟨ds, rfl, rfl⟩
theorem FzS.get {H0 H : Hp} {σ : L2.St} {v : V} {r : Ar} {d : PyData} (S : Kn H0 Γ σ H) (h : FzS r d) (o : ArOk H0 H Γ v r) : Fz (reb Γ H) v d := by
  rcases h with h | ⟨ds, e, rfl⟩
  · exact h.get S o
  · have o' := o.weaken
    rw [e] at o'
    obtain ⟨t, vs, rfl, hn, ⟨o1, h1, h2⟩, hi⟩ := o'
    exact .nic ⟨o1, by rw [reb_out hn]; exact h1, h2⟩ (IsAll.fz S.tkb _ _ hi)
theorem FzS.all {H0 H : Hp} {σ : L2.St} (S : Kn H0 Γ σ H) : ∀ {rs : List Ar} {vs : List V} {ds : List PyData}, Paired FzS rs ds → ArAll H0 H Γ vs rs → FzAll (reb Γ H) vs ds
  | _, _, _, .nil, .nil => .nil
  | _, _, _, .cons h t, .cons o ot => .cons (h.get S o) (FzS.all S t ot)
theorem reb_new {H : Hp} {t : Addr} {o : HO} (ht : H t = none) : Same (reb Γ H) (reb Γ (upd H t o)) := fun z u hz => by
  by_cases m : z ∈ ptrs Γ
  · rw [reb_in m] at hz; cases hz
  · rw [reb_out m] at hz ⊢
    exact Same.new ht _ _ hz
theorem w_lstS (h : WA c Γ es fun rs Γ1 => ∃ ds, Paired FzS rs ds ∧ ds.length ≤ 100 ∧ Φ (.fz (.list ds)) Γ1) : W c Γ (.List es pos) Φ := fun X hX H0 σ H S Q q =>
  (pe_lst pa_wa).we (h X hX H0 σ H S _ fun H0' rs Γ' vs H' s ⟨ds, e1, hl, ph⟩ S' o => by
    have fa := FzS.all S' e1 o
    refine ⟨Nat.le_trans (by rw [fa.len]; exact hl) (by decide), fun t ht => ?_⟩
    have nt : t ∉ ptrs Γ' := S'.not_own ht
    exact q H0' _ Γ' _ _ s ph (S'.same (Same.new ht)) (Fz.lst (xs := vs) (by rw [reb_out nt]; exact upd_same) (FzAll.on (reb_new ht) _ _ fa)))
theorem w_tupS {k : Nat} (h : WA c Γ es fun rs Γ1 => ∃ ds, Paired FzS rs ds ∧ ds.length ≤ 100 ∧ Φ (.fz (.tuple ds)) Γ1) : W c Γ (.Tuple es k pos) Φ := fun X hX H0 σ H S Q q =>
  (pe_tup pa_wa).we (h X hX H0 σ H S _ fun H0' rs Γ' vs H' s ⟨ds, e1, hl, ph⟩ S' o => by
    have fa := FzS.all S' e1 o
    refine ⟨Nat.le_trans (by rw [fa.len]; exact hl) (by decide), fun t ht => ?_⟩
    have nt : t ∉ ptrs Γ' := S'.not_own ht
    exact q H0' _ Γ' _ _ s ph (S'.same (Same.new ht)) (Fz.tup (xs := vs) (by rw [reb_out nt]; exact upd_same) (FzAll.on (reb_new ht) _ _ fa)))
/-- repr(e), e a list -/
theorem w_repr (G : GFree c.g "repr") (h : WA c Γ [e] fun rs Γ1 => ∃ r ds, rs = [r] ∧ FzS r (.list ds) ∧ ShowD (.list ds) ∧ Φ (.dat (.str (PyData.list ds).shown)) Γ1) (hgd : c.gd = true := by rfl) (hg : c.sc.names.lookup ("repr" : Str) = some .globalImplicit := by rfl)
    (he : ∀ env : Env, starEach [e] env = (false, eval e env) :: starEach [] env := by intro _; rfl) : W c Γ (.Call (.Name "repr" p) [e] [] pos) Φ := fun X hX H0 σ H S Q q =>
  (pe_callB (cr_repr (hX.gd hgd) (by have := hX.room.un; omega)) (hX.gl hg) (by rw [hX.mg]; exact G) (by decide +kernel) pa_wa (by decide) (by decide) (he X.env) (by rfl)).we
    (h X hX H0 σ H S _ fun H0' rs Γ' vs H' s ⟨r, ds, e1, e2, e3, ph⟩ S' o => by
      subst e1
      obtain ⟨v, rfl, o1⟩ := ArAll.one o
      have fz := e2.get S' o1
      obtain ⟨t, xs, rfl, _, _⟩ := Fz.lstInv fz
      exact ⟨t, .list ds, rfl, Fz.dp (K := X.K) _ _ (Fz.on (fun _ _ z => reb_some z) _ _ fz), e3, q H0' _ Γ' _ H' s ph S' (.str _)⟩)
/-- texts, compared -/
theorem d_eqS : DOp c (compareOp .Eq) (fun r1 r2 _ d => ∃ x y, r1 = .dat (.str x) ∧ r2 = .dat (.str y) ∧ d = .bool (decide (x = y))) := ⟨fun X hX => ⟨_, op_eq, fun H0 H Γ σ r1 r2 v1 v2 d _ o1 o2 ⟨x, y, e1, e2, e3⟩ Q q => by
  subst e1; subst e2; subst e3
  rw [Is.strInv o1, Is.strInv o2]
  refine ⟨rfl, q _ ?_⟩
  have e : decide (V.str x = V.str y) = decide (x = y) := by
    rw [Bool.eq_iff_iff, decide_eq_true_eq, decide_eq_true_eq]
    exact ⟨fun z => by injection z, fun z => by rw [z]⟩
  rw [e]
  exact .bl _⟩⟩
theorem d_neS : DOp c (compareOp .NotEq) (fun r1 r2 _ d => ∃ x y, r1 = .dat (.str x) ∧ r2 = .dat (.str y) ∧ d = .bool (!decide (x = y))) := ⟨fun X hX => ⟨_, op_ne, fun H0 H Γ σ r1 r2 v1 v2 d _ o1 o2 ⟨x, y, e1, e2, e3⟩ Q q => by
  subst e1; subst e2; subst e3
  rw [Is.strInv o1, Is.strInv o2]
  refine ⟨rfl, q _ ?_⟩
  have e : decide (V.str x = V.str y) = decide (x = y) := by
    rw [Bool.eq_iff_iff, decide_eq_true_eq, decide_eq_true_eq]
    exact ⟨fun z => by injection z, fun z => by rw [z]⟩
  rw [e]
  exact .bl _⟩⟩
end

/-! ## a comprehension whose elements hold lists -/
mutual
theorem Fz.off {H : Hp} {D : Addr} {od : Obj} {zs : List V} (hD : H D = some (.frz od (.lst zs))) : ∀ (d : PyData) (v : V), Fz H v d → Fz (fun b => if b = D then none else H b) v d
  | .none, _, h => by cases h; exact .non
  | .bool b, _, h => by cases h; exact .bl b
  | .int i, _, h => by cases h; exact .int i
  | .str x, _, h => by cases h; exact .str x
  | .list ds, _, h => by
    cases h with
    | lst h1 h2 => exact .lst (by show (if _ = D then none else H _) = _; rw [if_neg fun z => by rw [z, hD] at h1; cases h1]; exact h1) (FzAll.off hD ds _ h2)
  | .tuple ds, _, h => by
    cases h with
    | tup h1 h2 => exact .tup (by show (if _ = D then none else H _) = _; rw [if_neg fun z => by rw [z, hD] at h1; cases h1]; exact h1) (FzAll.off hD ds _ h2)
    | nic h1 h2 =>
      obtain ⟨o, g1, g2⟩ := h1
      exact .nic ⟨o, by show (if _ = D then none else H _) = _; rw [if_neg fun z => by rw [z, hD] at g1; cases g1]; exact g1, g2⟩ (FzAll.off hD ds _ h2)
  | .dict _, _, h => by cases h
theorem FzAll.off {H : Hp} {D : Addr} {od : Obj} {zs : List V} (hD : H D = some (.frz od (.lst zs))) : ∀ (ds : List PyData) (vs : List V), FzAll H vs ds → FzAll (fun b => if b = D then none else H b) vs ds
  | [], _, h => by cases h; exact .nil
  | d :: ds, _, h => by
    cases h with
    | cons h1 h2 => exact .cons (Fz.off hD d _ h1) (FzAll.off hD ds _ h2)
end
section
variable {H0 H : Hp} {Γ : List Sv} {σ : L2.St}
/-- what stands at an address that nothing here knows -/
theorem Kn.other (S : Kn H0 Γ σ H) {D : Addr} {o : HO} (h0 : H0 D = none) (hp : D ∉ ptrs Γ) (ht : ∀ xs, H D ≠ some (.tup xs)) : Kn H0 Γ σ (upd H D o) where
  len := S.len
  base := Same.mut S.base h0
  slots := fun i s hi => (S.slots i s hi).grow (fun a xs q => by
    rw [upd_ne fun z => ht xs (by rw [← z]; exact q)]
    exact q) fun p hq => upd_ne fun z => hp (mem_ptrs.mpr ⟨i, s, hi, by rw [hq, z]⟩)
  apart := S.apart
/-- a locked list D of the base is let go, and written -/
theorem Kn.unfrz (S : Kn H0 Γ σ H) {D : Addr} {ys zs : List V} {od : Obj} (hD : H0 D = some (.frz od (.lst zs))) : Kn (fun b => if b = D then none else H0 b) Γ σ (upd H D (.lst ys)) where
  len := S.len
  base := fun a u e => by
    have e1 : (if a = D then none else H0 a) = some u := e
    by_cases h : a = D
    · rw [if_pos h] at e1; cases e1
    · rw [if_neg h] at e1
      rw [upd_ne h]
      exact S.base a u e1
  slots := fun i s hi => by
    have ok := S.slots i s hi
    have hne : ∀ p, s.ptr = some p → p ≠ D := fun p hp z => by
      obtain ⟨e, _⟩ := ok.own_at hp
      rw [z, hD] at e
      cases e
    have tk : Tk H (upd H D (.lst ys)) := fun a xs e => by
      rw [upd_ne fun z => ?_]
      · exact e
      · rw [z, S.base D _ hD] at e
        cases e
    have g := ok.grow (H' := upd H D (.lst ys)) tk fun p hp => upd_ne (hne p hp)
    have z0 : ∀ {p : Addr}, p ≠ D → (if p = D then none else H0 p) = H0 p := fun h => if_neg h
    have zn : ∀ {p : Addr} {u : HO}, H0 p = some u → u ≠ .frz od (.lst zs) → p ≠ D := fun {p u} h n z => by
      rw [z, hD] at h
      exact n (Option.some.inj h).symm
    cases s with
    | no => trivial
    | val v => exact g
    | dat d => exact g
    | shr ds =>
      obtain ⟨p, vs, e, h0, r⟩ := g
      exact ⟨p, vs, e, (z0 (zn h0 fun z => nomatch z)).trans h0, r⟩
    | own p ds =>
      obtain ⟨e, h0, r⟩ := g
      exact ⟨e, (z0 (hne p rfl)).trans h0, r⟩
    | dic p ds =>
      obtain ⟨e, h0, r⟩ := g
      exact ⟨e, (z0 (hne p rfl)).trans h0, r⟩
    | dks p ds =>
      obtain ⟨e, h0, r⟩ := g
      exact ⟨e, (z0 (hne p rfl)).trans h0, r⟩
    | feed f T n =>
      obtain ⟨e, h0, a, r, ns, k1, k2, k3⟩ := g
      exact ⟨e, (z0 (hne f rfl)).trans h0, a, r, ns, k1, (z0 (zn k2 fun z => nomatch z)).trans k2, k3⟩
    | fz d =>
      obtain ⟨v, e, i⟩ := g
      exact ⟨v, e, Fz.off hD _ _ i⟩
    | nic ds =>
      obtain ⟨p, vs, e, ⟨o1, h1, h2⟩, r⟩ := g
      exact ⟨p, vs, e, ⟨o1, (z0 (zn h1 fun z => nomatch z)).trans h1, h2⟩, r⟩
    | fex f T a r ns =>
      obtain ⟨e, h0, h1, h2⟩ := g
      exact ⟨e, (z0 (hne f rfl)).trans h0, h1, (z0 (zn h2 fun z => nomatch z)).trans h2⟩
    | led C p q f1 f2 d ds =>
      obtain ⟨e, h0, ⟨dx, v, h1, h2⟩, r⟩ := g
      exact ⟨e, (z0 (hne q rfl)).trans h0, ⟨dx, v, (z0 (zn h1 fun z => nomatch z)).trans h1, h2⟩, r⟩
  apart := S.apart
theorem ptrs_dat {i : Nat} {d : PyData} : ∀ q, q ∈ ptrs (Γ.set i (.dat d)) → q ∈ ptrs Γ := fun q hq => by
  obtain ⟨j, t, hj, ht⟩ := mem_ptrs.mp hq
  by_cases e : i = j
  · subst e
    by_cases hl : i < Γ.length
    · rw [List.getElem?_set_self hl] at hj
      cases hj
      cases ht
    · rw [List.getElem?_eq_none (by rw [List.length_set]; omega)] at hj
      cases hj
  · rw [List.getElem?_set_ne e] at hj
    exact mem_ptrs.mpr ⟨j, t, hj, ht⟩
theorem ptrs_no {i : Nat} : ∀ q, q ∈ ptrs (Γ.set i .no) → q ∈ ptrs Γ := fun q hq => by
  obtain ⟨j, t, hj, ht⟩ := mem_ptrs.mp hq
  by_cases e : i = j
  · subst e
    by_cases hl : i < Γ.length
    · rw [List.getElem?_set_self hl] at hj
      cases hj
      cases ht
    · rw [List.getElem?_eq_none (by rw [List.length_set]; omega)] at hj
      cases hj
  · rw [List.getElem?_set_ne e] at hj
    exact mem_ptrs.mpr ⟨j, t, hj, ht⟩
end
theorem ptrs_many {q : Addr} : ∀ {is : List Nat} {ds : List PyData} {Γ : List Sv}, q ∈ ptrs (putMany is ds Γ) → q ∈ ptrs Γ
  | [], _, _, h => h
  | _ :: _, [], _, h => h
  | i :: is, d :: ds, Γ, h => ptrs_dat (i := i) (d := d) q (ptrs_many (is := is) (ds := ds) h)
theorem ptrs_put {q : Addr} {t : Tg} {d : PyData} {Γ : List Sv} (h : q ∈ ptrs (t.put d Γ)) : q ∈ ptrs Γ := by
  cases t with
  | one i => exact ptrs_dat q h
  | many is =>
    cases d <;> first | exact h | exact ptrs_many h
theorem ptrs_wipe {q : Addr} {Γ : List Sv} : ∀ {vs : List Nat}, q ∈ ptrs (wipeG Γ vs) → q ∈ ptrs Γ
  | [], h => h
  | v :: vs, h => ptrs_wipe (vs := vs) (ptrs_no q h)
section
variable {c : Ct} {Γ : List Sv} {pos py spos : Pos} {tg iter elt e : Expr} {scope : Scope} {own : List (Str × Nat)} {t : Tg} {Φ : Ar → List Sv → Prop} {po : Po} {rest : List Stmt}
/-- what such a comprehension owes: the items ds, what is made of them gs; nothing changes -/
def LcZ (c : Ct) (scope : Scope) (t : Tg) (vs : List Nat) (elt : Expr) (ds : List PyData) (Γ : List Sv) (Φ : Ar → List Sv → Prop) : Prop :=
  ∃ gs : List PyData, ds.length ≤ 100000 ∧ gs.length = ds.length ∧ (∀ (k : Nat) d e, ds[k]? = some d → gs[k]? = some e → t.fits d ∧ W (c.blk scope) (t.put d (wipeG Γ vs)) elt fun r Γ'' => FzS r e ∧ wipeG Γ'' vs = wipeG Γ vs) ∧ Φ (.fz (.list gs)) (wipeG Γ vs)
theorem fz_snoc {H : Hp} {vs : List V} {ds : List PyData} {v : V} {d : PyData} (h : FzAll H vs ds) (g : Fz H v d) : FzAll H (vs ++ [v]) (ds ++ [d]) := h.app (.cons g .nil)
theorem upd_twice {H : Hp} {D : Addr} {a b : HO} : upd (upd H D a) D b = upd H D b := by
  funext z
  by_cases hz : z = D
  · rw [hz, upd_same, upd_same]
  · rw [upd_ne hz, upd_ne hz, upd_ne hz]
theorem lcZ_run {X : Cx} (hX : InC c X) (tgo : ∀ i ∈ t.ix, i ∈ own.map (·.2)) {J0 : It} {G : Hp → Prop} {Y : Nat → Hp → V → Hp → Prop} {H0 : Hp} {σ : L2.St} {H1 : Hp} {ds : List PyData} (S : Kn H0 Γ σ H1) (w : Walk J0 ds.length G Y) (hG : ∀ H2, Same H0 H2 → G H2)
    (hY : ∀ i H2 x H3, i < ds.length → Same H0 H2 → Y i H2 x H3 → Same H2 H3 ∧ ∃ d, ds[i]? = some d ∧ Is H3 x d) (h : LcZ c scope t (own.map (·.2)) elt ds Γ Φ) {Q : VK} (q : ∀ H0' r Γ' v H', Same H0 H0' → Φ r Γ' → Kn H0' Γ' σ H' → ArOk H0' H' Γ' v r → Q v H') :
    ∀ D, H1 D = none → ∃ W : Nat → Nat → Hp → Prop, (∃ m, W 0 m (upd H1 D (.lst []))) ∧ ∀ i m H, W i m H →
      (J0.stop i H ∧ Q (.ref D) H) ∨ (J0.go i H ∧ ∃ Nx : Hp → Prop, (∀ H', Nx H' → ∃ m', m' < m ∧ W (i + 1) m' H') ∧ ∀ x H', J0.yld i H x H' → (t.g X.K) x (L2.wipe σ (own.map (·.2))) H' fun σ2 H2 => L2.wipe σ2 (own.map (·.2)) = L2.wipe σ (own.map (·.2)) ∧ ifsT X scope [] σ2 H2 fun b H3 =>
        if b = true then tLockE (WEb X scope elt) σ2 H3 fun y H4 => ∃ acc, H4 D = some (.lst acc) ∧ acc.length < sizeLine ∧ Nx (upd H4 D (.lst (acc ++ [y]))) else Nx H3) := by
  intro D hD
  obtain ⟨gs, hlen, hgl, hs, hd⟩ := h
  have hD0 : H0 D = none := Same.free S.base hD
  have S0 : Kn H0 (wipeG Γ (own.map (·.2))) (L2.wipe σ (own.map (·.2))) H1 := S.wipe _
  have dp : D ∉ ptrs (wipeG Γ (own.map (·.2))) := S0.not_own hD
  refine lc_it w (Qd := fun H => Q (.ref D) H) (fun k H => ∃ (H0k : Hp) (vs : List V), Same H0 H0k ∧ Kn H0k (wipeG Γ (own.map (·.2))) (L2.wipe σ (own.map (·.2))) H ∧ H0k D = none ∧ H D = some (.lst vs) ∧ FzAll H0k vs (gs.take k))
    ⟨H0, [], Same.refl H0, S0.same (Same.new hD), hD0, upd_same, by rw [List.take_zero]; exact .nil⟩ (fun i H _ ⟨H0k, _, s, S', _⟩ => hG H (s.trans S'.base)) (fun i x H H' hi ⟨H0k, vs, s, S', d0, hv, fa⟩ y => ?_) (fun H ⟨H0k, vs, s, S', d0, hv, fa⟩ => ?_)
  · obtain ⟨sy, d, ed, id⟩ := hY i H x H' hi (s.trans S'.base) y
    obtain ⟨e, ee⟩ : ∃ e, gs[i]? = some e := ⟨_, List.getElem?_eq_getElem (by rw [hgl]; exact hi)⟩
    obtain ⟨fit, hk⟩ := hs i d e ed ee
    have Sy := S'.same sy
    have hv' : H' D = some (.lst vs) := sy D _ hv
    refine t.run Sy id fit fun σ2 S3 hw => ?_
    have hw' : L2.wipe σ2 (own.map (·.2)) = L2.wipe σ (own.map (·.2)) := by rw [hw _ tgo]; exact wipe_twice
    refine ⟨hw', ?_⟩
    have yes : ∀ {R : Bool → Hp → Prop}, R true H' → ifsT X scope [] σ2 H' R := fun z => z
    refine yes ?_
    rw [if_pos rfl]
    refine ⟨D, .lst vs, hv', trivial, fun od => ?_⟩
    have dp2 : D ∉ ptrs (t.put d (wipeG Γ (own.map (·.2)))) := fun z => dp (ptrs_put z)
    have S4 := (S3.other (o := .frz od (.lst vs)) d0 dp2 (fun xs z => by rw [hv'] at z; cases z)).rebase
    have bD : reb (t.put d (wipeG Γ (own.map (·.2)))) (upd H' D (.frz od (.lst vs))) D = some (.frz od (.lst vs)) := by rw [reb_out dp2, upd_same]
    intro s' H'' C cl fp
    refine hk _ (hX.blk s' H'' scope C cl fp) _ σ2 _ S4 _ fun H0e r Γ'' y H4 se ⟨er, eg⟩ S5 o => ?_
    have h0eD : H0e D = some (.frz od (.lst vs)) := se D _ bD
    have h4D : H4 D = some (.frz od (.lst vs)) := S5.base D _ h0eD
    have nD : D ∉ ptrs Γ'' := S5.not_own0 h0eD
    refine ⟨h4D, vs, upd_same, ?_, ?_⟩
    · rw [fa.len, List.length_take]
      exact Nat.lt_of_le_of_lt (Nat.le_trans (Nat.min_le_left _ _) (Nat.le_trans (Nat.le_of_lt hi) hlen)) (by decide)
    · rw [upd_twice]
      have S6 : Kn H0e (wipeG Γ (own.map (·.2))) (L2.wipe σ (own.map (·.2))) H4 := by
        have z := S5.wipe (own.map (·.2))
        rw [eg, hw'] at z
        exact z
      have S7 := S6.rebase
      have r7D : reb (wipeG Γ (own.map (·.2))) H4 D = some (.frz od (.lst vs)) := by rw [reb_out dp]; exact h4D
      have sub : Same (reb Γ'' H4) (reb (wipeG Γ (own.map (·.2))) H4) := fun a u z => by
        rw [reb_out fun w => ?_]
        · exact reb_some z
        · rw [← eg] at w
          rw [reb_in (ptrs_wipe w)] at z
          cases z
      have fz := Fz.off r7D _ _ (Fz.on sub _ _ (er.get S5 o))
      have up : Same H0k (fun b => if b = D then none else reb (wipeG Γ (own.map (·.2))) H4 b) := fun a u z => by
        have na : a ≠ D := fun w => by rw [w, d0] at z; cases z
        show (if a = D then none else _) = some u
        rw [if_neg na]
        exact S6.under a u (se a u (by rw [reb_out (S3.not_own0 z), upd_ne na]; exact Sy.base a u z))
      refine ⟨_, vs ++ [y], s.trans up, S7.unfrz r7D, if_pos rfl, upd_same, ?_⟩
      have et : gs.take (i + 1) = gs.take i ++ [e] := take_next ee
      rw [et]
      exact fz_snoc (FzAll.on up _ _ fa) fz
  · have eS : Kn H0k (wipeG Γ (own.map (·.2))) σ H := S'.unwipe
    rw [List.take_of_length_le (by rw [hgl]; exact Nat.le_refl _)] at fa
    exact q H0k _ _ _ H s hd eS (.lst (by rw [reb_out dp]; exact hv) (FzAll.on S'.under _ _ fa))
/-- x = [elt for tg in iter] -/
theorem sd_lcZ (i : Nat) {y : Str} (t : Tg) (own : List (Str × Nat)) (hi : WI c Γ tg iter fun ds Γ1 => LcZ c scope t (own.map (·.2)) elt ds Γ1 fun r Γ2 => ∃ d, r = .fz d ∧ Sd c (Γ2.set i (.fz d)) rest po) (tgo : TgOk (c.blk scope) tg t) (ok : BlkOk c.N c.sc scope own)
    (hin : ∀ i ∈ t.ix, i ∈ own.map (·.2) := by decide)
    (hs : ∀ (env : Env) x, foldedSetIterable iter env x = pure x := by intro _ _; rfl) (hN : c.N[i]? = some y := by rfl) (hk : c.sc.kind = .function := by rfl) (hy : c.sc.names.lookup y = some .local := by rfl) (hln : (py.line == pos.line) = true := by rfl)
    (ha : (scope.names.any fun (n, k) => n == y && (k == .local || k == .cell)) = false := by rfl) : Sd c Γ (.Assign [.Name y py] (.ListComp elt [⟨tg, iter, [], 0⟩] scope pos) spos :: rest) po := fun X hX H0 σ H S D F => by
  obtain ⟨wi, hpi, hw⟩ := hi X hX
  refine (pss_cons (ps_setLc (g := t.g X.K) (te := tLockE (WEb X scope elt)) (tt := ifsT X scope []) hX.calm hX.ndX (hX.at_ hN) (by rw [hX.sc]; exact hy) (sw_true (by rw [hX.sc]; exact hk) (by rw [hX.sc]; exact hy) hln ha) hpi (by rw [hX.N, hX.sc]; exact ok) (fun s H C cl fp => tgo.ok _ (hX.blk s H scope C cl fp)) (fun s H C cl fp => pts_of (ifs := []) (Nat.zero_le 1)) (fun s H C cl fp => pe_lock pe_web) (hs X.env)) pss_ws).wss ?_
  exact hw H0 σ H S _ fun H0' ds Γ' H' J G Y s ph S' wk hG hY => lcZ_run (Q := fun x H1 => WSs X rest D (σ.set i (some x)) H1) hX hin S' wk hG hY ph fun H0'' r Γ'' v H'' s' ⟨d, e1, k⟩ S'' o => by
    subst e1
    exact k X hX _ _ H'' (S''.rebase.store (s := .fz d) (fun _ => ⟨v, rfl, o⟩) fun p e => nomatch e) D (F.up ((s.trans s').trans S''.under))
end
end K83
set_option maxRecDepth 100000
set_option maxHeartbeats 1000000
namespace K83
open PySem PySem.Spec PyProof.Rows L2
/-! ## how long things are as texts -/
structure Sm (n w : Nat) (d : PyData) : Prop where
  sh : d.showable = true
  nd : d.hasDict = false
  lf : d.leavesShort 20 = true
  dp : d.depth ≤ n
  wt : d.weight ≤ w
structure SmAll (n w : Nat) (ds : List PyData) : Prop where
  sh : PyData.showableAll ds = true
  nd : PyData.hasDictAll ds = false
  lf : PyData.leavesShortAll 20 ds = true
  dp : PyData.depthAll ds ≤ n
  wt : PyData.weightAll ds ≤ w
theorem Sm.mono {n w n' w' : Nat} {d : PyData} (h : Sm n w d) (hn : n ≤ n' := by decide) (hw : w ≤ w' := by decide) : Sm n' w' d := ⟨h.sh, h.nd, h.lf, Nat.le_trans h.dp hn, Nat.le_trans h.wt hw⟩
theorem Sm.up {n w : Nat} {d : PyData} (h : Sm n w d) (n' : Nat) (hn : n ≤ n' := by decide) : Sm n' w d := h.mono hn (Nat.le_refl _)
theorem SmAll.mono {n w n' w' : Nat} {d : List PyData} (h : SmAll n w d) (hn : n ≤ n') (hw : w ≤ w') : SmAll n' w' d := ⟨h.sh, h.nd, h.lf, Nat.le_trans h.dp hn, Nat.le_trans h.wt hw⟩
theorem sma_nil : SmAll 0 0 [] := ⟨by simp [PyData.showableAll], by simp [PyData.hasDictAll], by simp [PyData.leavesShortAll], by simp [PyData.depthAll], by simp [PyData.weightAll]⟩
theorem sma_cons {n w w' : Nat} {d : PyData} {ds : List PyData} (h : Sm n w d) (t : SmAll n w' ds) : SmAll n (w + 1 + w') (d :: ds) := by
  obtain ⟨a1, a2, a3, a4, a5⟩ := h
  obtain ⟨b1, b2, b3, b4, b5⟩ := t
  refine ⟨by simp [PyData.showableAll, a1, b1], by simp [PyData.hasDictAll, a2, b2], by simp [PyData.leavesShortAll, a3, b3], ?_, ?_⟩
  · simp only [PyData.depthAll]; omega
  · simp only [PyData.weightAll]; omega
theorem sma_map {α : Type} {f : α → PyData} {n w : Nat} : ∀ {l : List α}, (∀ x ∈ l, Sm n w (f x)) → SmAll n ((w + 1) * l.length) (l.map f)
  | [], _ => sma_nil.mono (Nat.zero_le _) (Nat.zero_le _)
  | x :: l, h => by
    refine (sma_cons (h x List.mem_cons_self) (sma_map fun y hy => h y (List.mem_cons_of_mem _ hy))).mono (Nat.le_refl _) ?_
    rw [List.length_cons, Nat.mul_succ]
    omega
theorem sm_list {n w : Nat} {ds : List PyData} (h : SmAll n w ds) : Sm (n + 1) w (.list ds) := by
  obtain ⟨a1, a2, a3, a4, a5⟩ := h
  exact ⟨by simp only [PyData.showable]; exact a1, by simp only [PyData.hasDict]; exact a2, by simp only [PyData.leavesShort]; exact a3, by simp only [PyData.depth]; omega, by simp only [PyData.weight]; exact a5⟩
theorem sm_tup {n w : Nat} {ds : List PyData} (h : SmAll n w ds) : Sm (n + 1) w (.tuple ds) := by
  obtain ⟨a1, a2, a3, a4, a5⟩ := h
  exact ⟨by simp only [PyData.showable]; exact a1, by simp only [PyData.hasDict]; exact a2, by simp only [PyData.leavesShort]; exact a3, by simp only [PyData.depth]; omega, by simp only [PyData.weight]; exact a5⟩
theorem sm_tupL {α : Type} {f : α → PyData} {n w k W : Nat} {l : List α} (h : ∀ x ∈ l, Sm n w (f x)) (hl : l.length ≤ k) (hW : (w + 1) * k ≤ W) : Sm (n + 1) W (.tuple (l.map f)) :=
  (sm_tup (sma_map h)).mono (Nat.le_refl _) (Nat.le_trans (Nat.mul_le_mul_left _ hl) hW)
theorem sm_listL {α : Type} {f : α → PyData} {n w k W : Nat} {l : List α} (h : ∀ x ∈ l, Sm n w (f x)) (hl : l.length ≤ k) (hW : (w + 1) * k ≤ W) : Sm (n + 1) W (.list (l.map f)) :=
  (sm_list (sma_map h)).mono (Nat.le_refl _) (Nat.le_trans (Nat.mul_le_mul_left _ hl) hW)
theorem sm_int {i : Int} (h : -(10 ^ 18) < i ∧ i < 10 ^ 18) : Sm 0 61 (.int i) := by
  obtain ⟨h1, h2⟩ := h
  have hn : i.natAbs < 10 ^ 18 := by omega
  have hlog : i.natAbs.log2 < 60 := by
    by_cases z : i.natAbs = 0
    · rw [z]; decide
    · exact (Nat.log2_lt z).mpr (Nat.lt_trans hn (by decide))
  refine ⟨?_, by simp only [PyData.hasDict], ?_, by simp [PyData.depth], ?_⟩
  · simp only [PyData.showable, decide_eq_true_eq]; omega
  · simp only [PyData.leavesShort, decide_eq_true_eq]
    show (Str.ofString (toString i)).length ≤ 20
    by_cases hz : 0 ≤ i
    · exact Nat.le_trans (toString_length_le hz (k := 18) (by decide) h2) (by decide)
    · rw [len_text_neg (by omega)]
      have := toString_length_le (v := 0 - i) (by omega) (k := 18) (by decide) (by omega)
      omega
  · simp only [PyData.weight]
    split <;> omega
theorem sm_str (t : Tx) : Sm 0 8 (.str t.1) := by
  refine ⟨by simp [PyData.showable], by simp [PyData.hasDict], ?_, by simp [PyData.depth], ?_⟩
  · simp only [PyData.leavesShort, List.all_eq_true, decide_eq_true_eq]
    intro c hc
    have z := t.2.2
    unfold PyData.strOk at z
    rw [Array.all_eq_true_iff_forall_mem] at z
    have := z c (Array.mem_toList_iff.mp hc)
    rw [decide_eq_true_eq] at this
    exact Nat.lt_trans this (by decide)
  · simp only [PyData.weight]
    exact t.2.1
theorem sm_show {n w : Nat} {d : PyData} (h : Sm n w d) (hn : n ≤ 64 := by decide) (hw : 22 * w + 20 ≤ 16777216 := by decide) : d.showable = true ∧ d.hasDict = false ∧ d.depth ≤ 64 ∧ d.shown.length ≤ sizeLine := by
  refine ⟨h.sh, h.nd, Nat.le_trans h.dp hn, ?_⟩
  have z := PyData.shown_le 20 (by decide) d h.lf
  have e : sizeLine = 16777216 := by decide
  have := h.wt
  rw [e]
  have : (20 + 2) * d.weight ≤ 22 * w := Nat.mul_le_mul_left 22 h.wt
  omega
theorem sm_nm {x : Nm} (h : NmOk x) : Sm 1 133 (nmD x) := by
  obtain ⟨h1, h2, h3, h4, h5⟩ := h
  exact (sm_tup (sma_cons (sm_int (by omega)) (sma_cons (sm_int (by omega)) (sma_cons (sm_str x.h) (sma_nil.mono (Nat.le_refl _) (Nat.le_refl _)))))).mono
theorem sm_run {r : Run} (h : RunOk r) : Sm 1 133 (runD r) := by
  obtain ⟨h1, h2, h3, h4, h5, h6⟩ := h
  exact (sm_tup (sma_cons (sm_str r.s) (sma_cons (sm_int (by omega)) (sma_cons (sm_int (by omega)) sma_nil)))).mono
theorem sm_runs {rs : List Run} (h : RunsOk rs) : Sm 2 8576 (runsD rs) := sm_tupL (fun r hr => sm_run (h.2.2.1 r hr)) h.2.1 (by decide)
theorem sm_deed {o : Office} {d : Deed} (h : DeedOk o d) : Sm 3 9000 (deedD d) := by
  cases d with
  | move f t rs =>
    obtain ⟨_, hr, _⟩ := h
    exact (sm_tup (sma_cons ((sm_str (tx "move")).up 2) (sma_cons ((sm_str f).up 2) (sma_cons ((sm_str t).up 2) (sma_cons (sm_runs hr) (sma_nil.mono (Nat.zero_le _) (Nat.le_refl _))))))).mono
  | bag f t m =>
    obtain ⟨_, _, h1, h2⟩ := h
    exact (sm_tup (sma_cons (sm_str (tx "bag")) (sma_cons (sm_str f) (sma_cons (sm_str t) (sma_cons (sm_int (by omega)) sma_nil))))).mono
  | read n rs =>
    obtain ⟨hn, hr, _⟩ := h
    exact (sm_tup (sma_cons ((sm_str (tx "read")).up 2) (sma_cons ((sm_nm hn).up 2) (sma_cons (sm_runs hr) (sma_nil.mono (Nat.zero_le _) (Nat.le_refl _)))))).mono
  | count p m =>
    obtain ⟨_, _, h1, h2⟩ := h
    exact (sm_tup (sma_cons (sm_str (tx "count")) (sma_cons (sm_str p) (sma_cons (sm_int (by omega)) sma_nil)))).mono
  | void n =>
    exact (sm_tup (sma_cons ((sm_str (tx "void")).up 1) (sma_cons (sm_nm h) (sma_nil.mono (Nat.zero_le _) (Nat.le_refl _))))).mono
theorem sm_page {o : Office} {p : Page} (h : PageOk o p) : Sm 4 9200 (pageD p) :=
  (sm_tup (sma_cons ((sm_nm h.1).up 3) (sma_cons (sm_deed h.2) (sma_nil.mono (Nat.zero_le _) (Nat.le_refl _))))).mono
theorem sm_book {o : Office} {b : List Page} (h : ∀ p ∈ b, PageOk o p) (hl : b.length ≤ 18) : Sm 5 166000 (bookD b) := sm_tupL (fun p hp => sm_page (h p hp)) hl (by decide)
theorem sm_names {l : List Nm} (h : ∀ n ∈ l, NmOk n) (hl : l.length ≤ 18) : Sm 2 2500 (namesD l) := sm_tupL (fun p hp => sm_nm (h p hp)) hl (by decide)
/-! ## the numbers -/
theorem sum_bd {B : Int} {l : List Int} (hB : 0 ≤ B) (h : ∀ x ∈ l, 0 ≤ x ∧ x ≤ B) : 0 ≤ l.sum ∧ l.sum ≤ B * l.length := by
  induction l with
  | nil => simp
  | cons x l ih =>
    obtain ⟨h1, h2⟩ := h x List.mem_cons_self
    obtain ⟨h3, h4⟩ := ih fun y hy => h y (List.mem_cons_of_mem _ hy)
    rw [List.sum_cons, List.length_cons]
    have e : B * ((l.length + 1 : Nat) : Int) = B * (l.length : Int) + B := by
      rw [Int.natCast_add, Int.mul_add]
      simp
    rw [e]
    omega
theorem many_bd {rs : List Run} (h : RunsOk rs) : 0 ≤ manyL rs ∧ manyL rs ≤ 100000000000 := by
  obtain ⟨_, hl, hr, _⟩ := h
  have z := sum_bd (B := 1000000000) (l := rs.map fun r => r.b - r.a) (by decide) fun x hx => by
    obtain ⟨r, h1, rfl⟩ := List.mem_map.mp hx
    obtain ⟨_, g1, g2, g3, g4, g5⟩ := hr r h1
    omega
  rw [List.length_map] at z
  have hl' : (rs.length : Int) ≤ 64 := by omega
  unfold manyL
  omega
theorem manyD_bd {o : Office} {d : Deed} (h : DeedOk o d) : 0 ≤ manyD d ∧ manyD d ≤ 100000000000 := by
  cases d with
  | move f t rs => exact many_bd h.2.1
  | bag f t m =>
    obtain ⟨_, _, h1, h2⟩ := h
    show 0 ≤ m ∧ m ≤ _
    omega
  | read n rs => exact many_bd h.2.1
  | count p m => exact ⟨by show (0 : Int) ≤ 0; decide, by show (0 : Int) ≤ _; decide⟩
  | void n => exact ⟨by show (0 : Int) ≤ 0; decide, by show (0 : Int) ≤ _; decide⟩
theorem sign_1 (d : Deed) (p : Tx) : signL d p = -1 ∨ signL d p = 0 ∨ signL d p = 1 := by
  unfold signL b2
  split <;> split <;> decide
theorem fold_bd {α : Type} {f : α → Int} {B : Int} : ∀ {l : List α} {z : Int}, (∀ d ∈ l, -B ≤ f d ∧ f d ≤ B) → z - B * l.length ≤ l.foldl (fun t d => t + f d) z ∧ l.foldl (fun t d => t + f d) z ≤ z + B * l.length
  | [], z, _ => by simp
  | d :: l, z, h => by
    obtain ⟨h1, h2⟩ := h d List.mem_cons_self
    obtain ⟨h3, h4⟩ := fold_bd (l := l) (z := z + f d) fun y hy => h y (List.mem_cons_of_mem _ hy)
    rw [List.foldl_cons, List.length_cons]
    have e : B * ((l.length + 1 : Nat) : Int) = B * (l.length : Int) + B := by
      rw [Int.natCast_add, Int.mul_add]
      simp
    rw [e]
    omega
theorem deedAt_or (b : List Page) (n : Nm) : deedAt b n = .void n ∨ ∃ p ∈ b, deedAt b n = p.deed := by
  unfold deedAt
  cases e : b.find? fun p => decide (p.nm = n) with
  | none => exact .inl rfl
  | some p => exact .inr ⟨p, List.mem_of_find?_eq_some e, rfl⟩
theorem co_len2 (b : List Page) : (countedL b).length ≤ b.length := by
  unfold countedL
  rw [List.length_map]
  exact List.length_filter_le _ _
theorem bal_bd {o : Office} {b : List Page} (h : ∀ p ∈ b, PageOk o p) (hl : b.length ≤ 18) (p : Tx) : -(10 ^ 18) < balL b p ∧ balL b p < 10 ^ 18 := by
  have z := fold_bd (f := fun d => manyD d * signL d p) (B := 100000000000) (l := roadsL b) (z := 0) fun d hd => by
    obtain ⟨n, _, rfl⟩ := List.mem_map.mp (List.mem_filter.mp hd).1
    have hm : 0 ≤ manyD (deedAt b n) ∧ manyD (deedAt b n) ≤ 100000000000 := by
      rcases deedAt_or b n with e | ⟨q, hq, e⟩
      · rw [e]
        exact ⟨by show (0 : Int) ≤ 0; decide, by show (0 : Int) ≤ _; decide⟩
      · rw [e]
        exact manyD_bd (h q hq).2
    generalize manyD (deedAt b n) = x at hm
    rcases sign_1 (deedAt b n) p with e | e | e <;> rw [e] <;> omega
  have hr : (roadsL b).length ≤ 18 := by
    unfold roadsL
    refine Nat.le_trans (List.length_filter_le _ _) ?_
    rw [List.length_map]
    exact Nat.le_trans (co_len2 b) hl
  have hr' : ((roadsL b).length : Int) ≤ 18 := by omega
  have e : balL b p = (roadsL b).foldl (fun t d => t + manyD d * signL d p) 0 := rfl
  rw [e]
  have : (10 : Int) ^ 18 = 1000000000000000000 := by decide
  omega
theorem brings_bd {o : Office} {d : Deed} (h : DeedOk o d) (p : Tx) : -100000000000 ≤ bringsL d p ∧ bringsL d p ≤ 100000000000 := by
  have hm := manyD_bd h
  unfold bringsL
  split
  · split
    · split <;> omega
    · omega
  · omega
theorem off_bd {o : Office} (p : Tx) : ∀ (l : List Page) (st : List (Nm × Int) × Int) (B : Int), (∀ q ∈ l, PageOk o q) → 0 ≤ B → -B ≤ st.2 ∧ st.2 ≤ B → (∀ x ∈ st.1, NmOk x.1 ∧ -(10 ^ 18) < x.2 ∧ x.2 < 10 ^ 18) → B + 100000000000 * l.length ≤ 100000000000000 →
    ∀ x ∈ (l.foldl (offStep p) st).1, NmOk x.1 ∧ -(10 ^ 18) < x.2 ∧ x.2 < 10 ^ 18
  | [], st, B, _, _, _, hx, _ => hx
  | q :: l, st, B, hq, hB, hs, hx, hb => by
    have hq0 := hq q List.mem_cons_self
    have hbr := brings_bd hq0.2 p
    have e : (100000000000 : Int) * ((l.length + 1 : Nat) : Int) = 100000000000 * (l.length : Int) + 100000000000 := by
      rw [Int.natCast_add, Int.mul_add]
      simp
    rw [List.length_cons, e] at hb
    have hll : (0 : Int) ≤ 100000000000 * (l.length : Int) := by omega
    have e18 : (10 : Int) ^ 18 = 1000000000000000000 := by decide
    refine off_bd p l (offStep p st q) (B + 100000000000) (fun y hy => hq y (List.mem_cons_of_mem _ hy)) (by omega) ?_ ?_ (by omega)
    · show -(B + _) ≤ st.2 + bringsL q.deed p ∧ st.2 + bringsL q.deed p ≤ B + _
      omega
    · intro x hx'
      have hx2 : x ∈ (if isW "count" q.deed = true ∧ PyData.eqv (.str (cntP q.deed).1) (.str p.1) = true then st.1 ++ [(q.nm, cntM q.deed - st.2)] else st.1) := hx'
      split at hx2
      · rcases List.mem_append.mp hx2 with y | y
        · exact hx x y
        · rw [List.mem_singleton.mp y]
          have hc : 0 ≤ cntM q.deed ∧ cntM q.deed ≤ 1000000000000 := by
            have key : ∀ d, DeedOk o d → 0 ≤ cntM d ∧ cntM d ≤ 1000000000000 := by
              intro d hd
              cases d with
              | count p' m =>
                obtain ⟨_, _, g1, g2⟩ := hd
                exact ⟨g1, g2⟩
              | _ => exact ⟨by show (0 : Int) ≤ 0; decide, by show (0 : Int) ≤ _; decide⟩
            exact key _ hq0.2
          refine ⟨hq0.1, ?_, ?_⟩
          · show -(10 ^ 18) < cntM q.deed - st.2
            omega
          · show cntM q.deed - st.2 < 10 ^ 18
            omega
      · exact hx x hx2
theorem sm_offs {o : Office} {b : List Page} (h : ∀ p ∈ b, PageOk o p) (hl : b.length ≤ 18) (p : Tx) : Sm 3 3700 (.list ((offsL b p).map offD)) := by
  have hc : (cpagesL b).length ≤ 18 := Nat.le_trans (List.length_filter_le _ _) hl
  have z := off_bd p (cpagesL b) ([], 0) 0 (fun q hq => h q (List.mem_filter.mp hq).1) (by decide) ⟨by decide, by decide⟩ (fun x hx => by cases hx) (by
    have : ((cpagesL b).length : Int) ≤ 18 := by omega
    omega)
  have hlen := off_len p (cpagesL b) ([], 0)
  refine sm_listL (k := 18) (w := 200) (fun x hx => ?_) ?_ (by decide)
  · obtain ⟨h1, h2⟩ := z x hx
    exact (sm_tup (sma_cons (sm_nm h1) (sma_cons ((sm_int h2).up 1) (sma_nil.mono (Nat.zero_le _) (Nat.le_refl _))))).mono
  · have : (offsL b p).length ≤ 0 + (cpagesL b).length := hlen
    omega
def sumD (b : List Page) (p : Tx) : PyData := .tuple [.str p.1, .int (balL b p), .list ((offsL b p).map offD)]
theorem sm_sum {o : Office} {b : List Page} (h : ∀ p ∈ b, PageOk o p) (hl : b.length ≤ 18) (p : Tx) : Sm 4 3800 (sumD b p) :=
  (sm_tup (sma_cons ((sm_str p).up 3) (sma_cons ((sm_int (bal_bd h hl p)).up 3) (sma_cons (sm_offs h hl p) (sma_nil.mono (Nat.zero_le _) (Nat.le_refl _)))))).mono
end K83
set_option maxRecDepth 100000
set_option maxHeartbeats 1000000
namespace K83
open PySem PySem.Spec PyProof.Rows L2
/-! ## _law_same, _law_seen -/
section
variable {c : Ct} {Γ : List Sv} {e : Expr} {pos pos' : Pos} {po : Po} {rest : List Stmt}
/-- x = e, a tuple whose object is known -/
theorem sd_nic (i : Nat) {x : Str} (h : W c Γ e fun r Γ1 => ∃ ds, r = .nic ds ∧ Sd c (Γ1.set i (.nic ds)) rest po) (hs : ∀ env : Env, env.scope = c.sc → swapsWith e (some (.Name x pos')) pos.line env = pure false := by intro _ _; rfl)
    (hN : c.N[i]? = some x := by rfl) (hx : Loc c.sc x := by first | exact Or.inl rfl | exact Or.inr rfl) (ht : c.top = true := by rfl) : Sd c Γ (.Assign [.Name x pos'] e pos :: rest) po := fun X hX H0 σ H S D F =>
  (pss_cons (ps_set hX.ndX (hX.at_ hN) (by rw [hX.sc]; exact hx) pe_we (hs X.env hX.sc) (.inl (hX.fn ht x))) pss_ws).wss (h X hX H0 σ H S _ fun H0' r Γ' v H' s ⟨d, e1, ph⟩ S' o => by
    subst e1
    obtain ⟨t, vs, rfl, hn, ⟨o1, h1, h2⟩, hi⟩ := o
    exact ph X hX _ _ H' (S'.rebase.store (s := .nic d) (fun _ => ⟨t, vs, rfl, ⟨o1, by rw [reb_out hn]; exact h1, h2⟩, hi⟩) fun p e => nomatch e) D (F.up (s.trans S'.under)))
end
/-! ### the places -/
def nub : List Tx → List Tx
  | [] => []
  | x :: l => if x ∈ nub l then nub l else x :: nub l
theorem nub_mem : ∀ {l : List Tx} {x : Tx}, x ∈ nub l ↔ x ∈ l
  | [], x => Iff.rfl
  | y :: l, x => by
    unfold nub
    have ih := nub_mem (l := l) (x := x)
    split
    · rename_i h
      rw [ih, List.mem_cons]
      exact ⟨fun z => .inr z, fun z => z.elim (fun w => by rw [w]; exact nub_mem.mp h) id⟩
    · rw [List.mem_cons, List.mem_cons, ih]
theorem nub_nd : ∀ l : List Tx, (nub l).Nodup
  | [] => List.nodup_nil
  | y :: l => by
    unfold nub
    split
    · exact nub_nd l
    · rename_i h
      exact List.nodup_cons.mpr ⟨h, nub_nd l⟩
theorem nub_len : ∀ l : List Tx, (nub l).length ≤ l.length
  | [] => Nat.le_refl _
  | y :: l => by
    unfold nub
    have := nub_len l
    split <;> simp only [List.length_cons] <;> omega
def placesT (o : Office) : List Tx := (nub (o.rds.map Prod.fst ++ o.rds.map Prod.snd)).mergeSort txLe
theorem places_is (o : Office) {ml : List Str} (nd : ml.Nodup) (h : ∀ k, k ∈ ml ↔ k ∈ (o.rds.map Prod.fst ++ o.rds.map Prod.snd).map Subtype.val) : sortD (ml.map PyData.str) = strL (placesT o) := by
  have e1 : strL (placesT o) = (((nub (o.rds.map Prod.fst ++ o.rds.map Prod.snd)).map Subtype.val).mergeSort strLe).map PyData.str := by
    unfold placesT
    rw [← List.map_mergeSort (r := txLe) (s := strLe) (f := Subtype.val) (fun a _ b _ => rfl)]
    unfold strL
    rw [List.map_map] <;> rfl
  rw [e1, sort_strs, sort_one_strs nd (m := (nub (o.rds.map Prod.fst ++ o.rds.map Prod.snd)).map Subtype.val) ?_ fun k => ?_]
  · exact (nub_nd _).map Subtype.val fun a b hab z => hab (Subtype.ext z)
  · rw [h, List.mem_map, List.mem_map]
    exact ⟨fun ⟨a, h1, h2⟩ => ⟨a, nub_mem.mpr h1, h2⟩, fun ⟨a, h1, h2⟩ => ⟨a, nub_mem.mp h1, h2⟩⟩
theorem places_len (o : Office) (h : o.rds.length ≤ 30) : (placesT o).length ≤ 60 := by
  unfold placesT
  rw [List.length_mergeSort]
  have := nub_len (o.rds.map Prod.fst ++ o.rds.map Prod.snd)
  rw [List.length_append, List.length_map, List.length_map] at this
  omega
/-! ### what is seen -/
structure SeenI where
  o : Office
  b : List Page
  day : Int
  notes : List Note
structure SeenOk (i : SeenI) : Prop where
  o : OffOk i.o
  ok : ∀ p ∈ i.b, PageOk i.o p
  len : i.b.length ≤ 18
  nd : (i.b.map Page.nm).Nodup
  nl : i.notes.length ≤ 8
def seenB (o : Office) (b : List Page) (notes : List Note) : List PyData := [bookD b, namesD (countedL b), namesD (waitingL b), namesD (goneL b), .list ((placesT o).map (sumD b)), .list (notes.map fun n => .str (toldL b n).1)]
def seenT (i : SeenI) : Str := (PyData.list (seenB i.o (untilL i.b i.day) i.notes)).shown
theorem seen_show {o : Office} {b : List Page} {notes : List Note} (ho : OffOk o) (ok : ∀ p ∈ b, PageOk o p) (len : b.length ≤ 18) (nl : notes.length ≤ 8) : ShowD (.list (seenB o b notes)) := by
  have nmok : ∀ {f : Page → Bool}, ∀ n ∈ (b.filter f).map Page.nm, NmOk n := fun {f} n hn => by
    obtain ⟨p, hp, rfl⟩ := List.mem_map.mp hn
    exact (ok p (List.mem_filter.mp hp).1).1
  have nmlen : ∀ {f : Page → Bool}, ((b.filter f).map Page.nm).length ≤ 18 := fun {f} => by
    rw [List.length_map]
    exact Nat.le_trans (List.length_filter_le _ _) len
  have h1 : Sm 2 2500 (namesD (countedL b)) := sm_names nmok nmlen
  have h2 : Sm 2 2500 (namesD (waitingL b)) := sm_names nmok nmlen
  have h3 : Sm 2 2500 (namesD (goneL b)) := sm_names nmok nmlen
  have h4 : Sm 5 229000 (.list ((placesT o).map (sumD b))) := sm_listL (fun p _ => sm_sum ok len p) (places_len o ho.2) (by decide)
  have h5 : Sm 1 100 (.list (notes.map fun n => PyData.str (toldL b n).1)) := sm_listL (fun n _ => sm_str _) nl (by decide)
  have h : Sm 6 403000 (.list (seenB o b notes)) := Sm.mono (sm_list (sma_cons (sm_book ok len) (sma_cons (h1.up 5) (sma_cons (h2.up 5) (sma_cons (h3.up 5) (sma_cons h4 (sma_cons (h5.up 5) (sma_nil.mono (Nat.zero_le _) (Nat.le_refl _)))))))))
  exact sm_show h
theorem until_ok {o : Office} {b : List Page} {day : Int} (ok : ∀ p ∈ b, PageOk o p) (len : b.length ≤ 18) (nd : (b.map Page.nm).Nodup) : (∀ p ∈ untilL b day, PageOk o p) ∧ (untilL b day).length ≤ 18 ∧ BkOk (untilL b day) := by
  have h1 : ∀ p ∈ untilL b day, PageOk o p := fun p hp => ok p (List.mem_filter.mp hp).1
  have h2 : (untilL b day).length ≤ 18 := Nat.le_trans (List.length_filter_le _ _) len
  refine ⟨h1, h2, by omega, fun p hp => ?_, nd.sublist ((List.filter_sublist).map Page.nm)⟩
  have hd := (h1 p hp).2
  cases e : p.deed with
  | move f t rs =>
    rw [e] at hd
    exact Nat.le_trans hd.2.1.2.1 (by decide)
  | read n rs =>
    rw [e] at hd
    exact Nat.le_trans hd.2.1.2.1 (by decide)
  | _ => trivial

theorem sc_law_same : FnScope ["_law_found", "_law_due"] ["_law_found", "_law_due"] (defScope (topS 66)) := ⟨rfl, rfl, rfl, by decide +kernel, rfl, by decide +kernel, by decide +kernel⟩
theorem F_law_same {g : Gv} (G : GL g) : FnG g 1 "_law_same" (fun vs H Q _ => ∃ v1 v2 ds, vs = [v1, v2] ∧ Fz H v1 (.list ds) ∧ Fz H v2 (.list ds) ∧ ShowD (.list ds) ∧ ∀ H', Same H H' → Q (.bl true) H') := by
  refine fn_defG (k := 0) G.l_same sc_law_same (fun vs H Q E ⟨v1, v2, ds, e, _⟩ => by rw [e] <;> rfl) fun vs H Q E ⟨v1, v2, ds, e, h1, h2, h3, q⟩ X hX => ?_
  subst e
  have key : Sd ⟨g, ["_law_found", "_law_due"], defScope (topS 66), 0, true, true⟩ [.fz (.list ds), .fz (.list ds)] (defBody (topS 66)) { ret := fun r Γ' => r = .dat (.bool true) } := by
    show Sd _ _ [_] _
    refine sd_ret (w_cmp d_eqS (w_repr G.b_repr (wa_cons (w_name 0 rfl (wa_nil ⟨_, ds, rfl, fzs_fz, h3, w_repr G.b_repr (wa_cons (w_name 1 rfl (wa_nil ⟨_, ds, rfl, fzs_fz, h3, ⟨_, ⟨_, _, rfl, rfl, rfl⟩, by rw [decide_eq_true rfl]⟩⟩)))⟩)))))
  refine key X hX H _ H ⟨rfl, Same.refl H, fun i s hi => ?_, fun i j si sj p hi hj pi pj => ?_⟩ _ ⟨fun H0' r v Γ σ H' s e S o => ?_, fun _ _ _ _ _ z => z.elim, fun _ _ _ _ _ z => z.elim, fun _ _ _ _ _ z => z.elim⟩
  · match i, hi with
    | 0, hi => cases hi; exact ⟨v1, rfl, h1⟩
    | 1, hi => cases hi; exact ⟨v2, rfl, h2⟩
    | i + 2, hi => simp at hi
  · match i, hi with
    | 0, hi => cases hi; cases pi
    | 1, hi => cases hi; cases pi
    | i + 2, hi => simp at hi
  · subst e
    rw [Is.blInv o]
    exact q H' (s.trans S.base)
theorem sc_law_seen : FnScope ["_law_office_here", "_law_book_here", "_law_day", "_law_notes", "_law_some", "_law_places", "_law_sums", "_law_road", "_law_place", "_law_note"] ["_law_office_here", "_law_book_here", "_law_day", "_law_notes"] (defScope (topS 74)) := ⟨rfl, rfl, rfl, by decide +kernel, rfl, by decide +kernel, by decide +kernel⟩
theorem F_law_seen {g : Gv} (G : GL g) : FnG g 7 "_law_seen" (spT (fun i : SeenI => [.dat (officeD i.o), .dat (bookD i.b), .dat (.int i.day), .lst (i.notes.map noteD)]) SeenOk fun i r => r = .dat (.str (seenT i))) := by
  refine fn_defGT (k := 6) G.l_seen sc_law_seen (fun _ => rfl) fun i hi => ?_
  obtain ⟨o, b, day, notes⟩ := i
  obtain ⟨ho, hok, hlen, hnd, hnl⟩ := hi
  have ho : OffOk o := ho
  have hlen : b.length ≤ 18 := hlen
  have hb1000 : b.length ≤ 1000 := by omega
  have hnl : notes.length ≤ 8 := hnl
  have hr30 := ho.2
  obtain ⟨uok, ulen, hb⟩ := until_ok (day := day) hok hlen hnd
  have hl := hb.len
  show Sd _ [.dat (officeD o), .dat (bookD b), .dat (.int day), .shr (notes.map noteD), .no, .no, .no, .no, .no, .no] [_, _, _, _] _
  refine sd_nic 4 (w_callD (F_until G.toGF) (wa_cons (w_name 1 rfl (wa_cons (w_name 2 rfl (wa_nil ⟨(_, _), agis_dat (agis_dat (agis_nil)), hb1000, ⟨_, rfl, ?_⟩⟩))))))
  show Sd _ [.dat (officeD o), .dat (bookD b), .dat (.int day), .shr (notes.map noteD), .nic (bkD (untilL b day)), .no, .no, .no, .no, .no] [_, _, _] _
  refine sd_shr 5 (w_sortSetX G.b_sorted G.b_set (wa_cons (w_cat (w_lc (.one 7) [("_law_road", 7)] (wi_tup (w_ixk 1 (w_name 0 rfl ⟨_, _, (.inl rfl), rfl, ⟨_, rfl, lcM (bs := o.rds) (f := roadD) (g := fun r => .str r.1.1) ?p1 ?p2 (by decide) (w_lc (.one 7) [("_law_road", 7)] (wi_tup (w_ixk 1 (w_name 0 rfl ⟨_, _, (.inl rfl), rfl, ⟨_, rfl, lcM (bs := o.rds) (f := roadD) (g := fun r => .str r.2.1) ?p3 ?p4 (by decide) ⟨_, _, (by first | exact .inl rfl | exact .inr (.inl rfl)), .inl rfl, (by simp only [List.length_map]; omega), (wa_nil (?p5))⟩⟩⟩))) (tg_one 7) (by show BlkOk ["_law_office_here", "_law_book_here", "_law_day", "_law_notes", "_law_some", "_law_places", "_law_sums", "_law_road", "_law_place", "_law_note"] (defScope (topS 74)) _ _; exact ⟨rfl, by decide +kernel, by decide +kernel, by decide +kernel, by decide +kernel⟩))⟩⟩))) (tg_one 7) (by show BlkOk ["_law_office_here", "_law_book_here", "_law_day", "_law_notes", "_law_some", "_law_places", "_law_sums", "_law_road", "_law_place", "_law_note"] (defScope (topS 74)) _ _; exact ⟨rfl, by decide +kernel, by decide +kernel, by decide +kernel, by decide +kernel⟩)))))
  case p1 => omega
  case p3 => omega
  case p2 =>
    intro r _
    exact ⟨trivial, (w_ixk 0 (w_name 7 rfl ⟨_, _, (.inl rfl), rfl, ⟨rfl, rfl⟩⟩))⟩
  case p4 =>
    intro r _
    exact ⟨trivial, (w_ixk 1 (w_name 7 rfl ⟨_, _, (.inl rfl), rfl, ⟨rfl, rfl⟩⟩))⟩
  case p5 =>
    have e : ((o.rds.map fun r => PyData.str r.1.1) ++ o.rds.map fun r => PyData.str r.2.1) = ((o.rds.map Prod.fst ++ o.rds.map Prod.snd).map Subtype.val).map PyData.str := by
      rw [List.map_append, List.map_append, List.map_map, List.map_map, List.map_map, List.map_map] <;> rfl
    refine ⟨_, (o.rds.map Prod.fst ++ o.rds.map Prod.snd).map Subtype.val, rfl, by rw [← e]; exact .inr (.inl rfl), by rw [List.length_map, List.length_append, List.length_map, List.length_map]; omega, fun ml nd hm => ?_⟩
    rw [places_is o nd hm]
    refine ⟨_, .inl rfl, ?_⟩
    show Sd _ [.dat (officeD o), .dat (bookD b), .dat (.int day), .shr (notes.map noteD), .nic (bkD (untilL b day)), .shr (strL (placesT o)), .no, .no, .no, .no] [_, _] _
    refine (sd_lcZ 6 (.one 8) [("_law_place", 8)] (wi_lst (w_name 5 rfl ⟨_, (by first | exact .inl rfl | exact .inr rfl),  ⟨(placesT o).map (sumD (untilL b day)), ?z1, ?z2, ?z3, ⟨_, rfl, ?z4⟩⟩⟩)) (tg_one 8) (by show BlkOk ["_law_office_here", "_law_book_here", "_law_day", "_law_notes", "_law_some", "_law_places", "_law_sums", "_law_road", "_law_place", "_law_note"] (defScope (topS 74)) _ _; exact ⟨rfl, by decide +kernel, by decide +kernel, by decide +kernel, by decide +kernel⟩))
    case z1 => rw [strL_len]; exact Nat.le_trans (places_len o hr30) (by decide)
    case z2 => rw [strL_len, List.length_map]
    case z3 =>
      intro k d e hk he
      unfold strL at hk
      obtain ⟨p, hp, rfl⟩ := map_at hk
      rw [List.getElem?_map, hp] at he
      cases he
      exact ⟨trivial, w_tupS (wa_cons (w_name 8 rfl (wa_cons (w_callD (F_balance G.toGF) (wa_cons (w_name 4 rfl (wa_cons (w_name 8 rfl (wa_nil ⟨(_, _), agis_nic (agis_dat (agis_nil)), hb, (wa_cons (w_callD (F_offs G.toGF) (wa_cons (w_name 4 rfl (wa_cons (w_name 8 rfl (wa_nil ⟨(_, _), agis_nic (agis_dat (agis_nil)), hb, (wa_nil ⟨[_, _, _], .cons fzs_dat (.cons fzs_dat (.cons fzs_lst .nil)), by exact Nat.le_of_ble_eq_true rfl, ⟨fzs_fz, rfl⟩⟩)⟩)))))))⟩)))))))))⟩
    case z4 =>
      show Sd _ [.dat (officeD o), .dat (bookD b), .dat (.int day), .shr (notes.map noteD), .nic (bkD (untilL b day)), .shr (strL (placesT o)), .fz (.list ((placesT o).map (sumD (untilL b day)))), .no, .no, .no] [_] _
      refine sd_ret (w_repr G.b_repr (wa_cons (w_lstS (wa_cons (w_name 4 rfl (wa_cons (w_callD (F_counted G.toGF) (wa_cons (w_name 4 rfl (wa_nil ⟨_, agis_nic (agis_nil), hl, (wa_cons (w_callD (F_waiting G.toGF) (wa_cons (w_name 4 rfl (wa_nil ⟨_, agis_nic (agis_nil), hl, (wa_cons (w_callD (F_voided G.toGF) (wa_cons (w_name 4 rfl (wa_nil ⟨_, agis_nic (agis_nil), hl, (wa_cons (w_name 6 rfl (wa_cons (w_lc (.one 9) [("_law_note", 9)] (wi_lst (w_name 3 rfl ⟨_, (by first | exact .inl rfl | exact .inr rfl), lcM (bs := notes) (f := noteD) (g := fun n => .str (toldL (untilL b day) n).1) ?t1 ?t2 (by decide) (wa_nil ⟨seenB o (untilL b day) notes, .cons fzs_nic (.cons fzs_dat (.cons fzs_dat (.cons fzs_dat (.cons fzs_fz (.cons fzs_lst .nil))))), by exact Nat.le_of_ble_eq_true rfl, wa_nil ⟨_, seenB o (untilL b day) notes, rfl, fzs_fz, seen_show ho uok ulen hnl, ⟨_, rfl, .inl ⟨_, rfl, rfl⟩⟩⟩⟩)⟩)) (tg_one 9) (by show BlkOk ["_law_office_here", "_law_book_here", "_law_day", "_law_notes", "_law_some", "_law_places", "_law_sums", "_law_road", "_law_place", "_law_note"] (defScope (topS 74)) _ _; exact ⟨rfl, by decide +kernel, by decide +kernel, by decide +kernel, by decide +kernel⟩)))))⟩)))))⟩)))))⟩))))))))))
      case t1 => omega
      case t2 =>
        intro n _
        exact ⟨trivial, (w_callD (F_told_place G.toGF) (wa_cons (w_name 4 rfl (wa_cons (w_name 9 rfl (wa_nil ⟨(_, _), agis_nic (agis_dat (agis_nil)), hb, ⟨rfl, rfl⟩⟩))))))⟩
end K83
set_option maxRecDepth 100000
set_option maxHeartbeats 4000000
namespace K83
open PySem PySem.Spec PyProof.Rows L2
/-! ## ledgers -/
/-- the word of a ledger's slot -/
abbrev ledS (C p q : Addr) (o : Office) (l : List Page) : Sv := .led C p q "house" "tellings" (officeD o) (l.map pageD)
section
variable {c : Ct} {Γ : List Sv} {a b e t iter tg : Expr} {es : List Expr} {pos pos' p1 p2 : Pos} {Φ : Ar → List Sv → Prop} {ΦT : Bool → List Sv → Prop} {po : Po} {rest body : List Stmt}
/-- self.house -/
theorem w_house (i : Nat) {x : Str} {C p q : Addr} {d : PyData} {ds : List PyData} (L : LedAt c.g C) (h0 : Γ[i]? = some (.led C p q "house" "tellings" d ds)) (h : Φ (.dat d) Γ)
    (hN : c.N[i]? = some x := by rfl) (hv : Vis c.sc x := by first | exact Or.inl rfl | exact Or.inr (Or.inl rfl) | exact Or.inr (Or.inr rfl)) (hd : (x == ("__debug__" : Str)) = false := by decide) (hcd : (x == ("__classdict__" : Str)) = false := by decide)
    (hb : ∀ env : Env, attributeBase (.Name x p1) "house" env (eval (.Name x p1) env) = eval (.Name x p1) env := by intro _; rfl) : W c Γ (.Attribute (.Name x p1) "house" pos) Φ := fun X hX H0 σ H S Q k => by
  obtain ⟨e1, h1, ⟨dx, v, h2, h3⟩, _⟩ := S.slots i _ h0
  refine (pe_fld (pe_var (hX.at_ hN) (hX.vis hv) hd hcd) (hb X.env)).we ⟨_, e1, p, C, dx, _, v, rfl, S.base _ _ h2, ?_, ?_, rfl, k H0 _ Γ v H (Same.refl H0) h S h3⟩
  · rw [hX.K]; exact L.cls
  · rw [hX.K]; exact L.house
/-- self.tellings -/
theorem pe_tells {X : Cx} (hX : InC c X) {x : Str} (i : Nat) {C p q : Addr} {d : PyData} {ds : List PyData} (L : LedAt c.g C) {H0 H : Hp} {σ : L2.St} (S : Kn H0 Γ σ H) (h0 : Γ[i]? = some (.led C p q "house" "tellings" d ds)) {Q : VK} (h : Q (.ref q) H)
    (hN : c.N[i]? = some x) (hv : Vis c.sc x) (hd : (x == ("__debug__" : Str)) = false) (hcd : (x == ("__classdict__" : Str)) = false)
    (hb : ∀ env : Env, attributeBase (.Name x p1) "tellings" env (eval (.Name x p1) env) = eval (.Name x p1) env) : ∃ ta, PE X (.Attribute (.Name x p1) "tellings" pos) ta ∧ ta σ H Q := by
  obtain ⟨e1, h1, ⟨dx, v, h2, h3⟩, _⟩ := S.slots i _ h0
  refine ⟨_, pe_fld (pe_var (hX.at_ hN) (hX.vis hv) hd hcd) (hb X.env), ⟨_, e1, p, C, dx, _, .ref q, rfl, S.base _ _ h2, ?_, ?_, rfl, h⟩⟩
  · rw [hX.K]; exact L.cls
  · rw [hX.K]; exact L.tellings
theorem w_tells (i : Nat) {x : Str} {C p q : Addr} {d : PyData} {ds : List PyData} (L : LedAt c.g C) (h0 : Γ[i]? = some (.led C p q "house" "tellings" d ds)) (h : Φ (.raw (.ref q)) Γ)
    (hN : c.N[i]? = some x := by rfl) (hv : Vis c.sc x := by first | exact Or.inl rfl | exact Or.inr (Or.inl rfl) | exact Or.inr (Or.inr rfl)) (hd : (x == ("__debug__" : Str)) = false := by decide) (hcd : (x == ("__classdict__" : Str)) = false := by decide)
    (hb : ∀ env : Env, attributeBase (.Name x p1) "tellings" env (eval (.Name x p1) env) = eval (.Name x p1) env := by intro _; rfl) : W c Γ (.Attribute (.Name x p1) "tellings" pos) Φ := fun X hX H0 σ H S Q k => by
  obtain ⟨ta, pe, q1⟩ := pe_tells (pos := pos) hX i L S h0 (Q := Q) (k H0 _ Γ _ H (Same.refl H0) h S rfl) hN hv hd hcd hb
  exact pe.we q1
/-- self.tellings.append(e) -/
theorem sd_appLed (i : Nat) {x : Str} {fp ap cp : Pos} {C p q : Addr} {d : PyData} {ds0 : List PyData} (L : LedAt c.g C) (h0 : Γ[i]? = some (.led C p q "house" "tellings" d ds0)) (h : WA c Γ [e] fun rs Γ1 => ∃ y ds, rs = [.dat y] ∧ Γ1[i]? = some (.led C p q "house" "tellings" d ds) ∧ ds.length ≤ 1000000 ∧ Sd c (Γ1.set i (.led C p q "house" "tellings" d (ds ++ [y]))) rest po)
    (hN : c.N[i]? = some x := by rfl) (hv : Vis c.sc x := by first | exact Or.inl rfl | exact Or.inr (Or.inl rfl) | exact Or.inr (Or.inr rfl)) (hd : (x == ("__debug__" : Str)) = false := by decide) (hcd : (x == ("__classdict__" : Str)) = false := by decide)
    (hb : ∀ env : Env, attributeBase (.Name x p1) "tellings" env (eval (.Name x p1) env) = eval (.Name x p1) env := by intro _; rfl)
    (hbase : ∀ env : Env, attributeBase (.Attribute (.Name x p1) "tellings" fp) "append" env (eval (.Attribute (.Name x p1) "tellings" fp) env) = eval (.Attribute (.Name x p1) "tellings" fp) env := by intro _; rfl)
    (hfew : ∀ env : Env, ((backTo cp (starEach [e] env)).all (fun x => !x.1) && (backToKw cp (keywordEach [] env)).all (fun x => x.1.isSome)
      && decide ([e].length + ([] : List Keyword).length + (if ([] : List Keyword).isEmpty then 0 else 1) < 30)) = true := by intro _; rfl)
    (hline : (ap.endLine == cp.line) = true := by rfl) (hst : ∀ env : Env, starEach [e] env = (false, eval e env) :: starEach [] env := by intro _; rfl) (hsw : ∀ env : Env, swapsWith (.Call (.Attribute (.Attribute (.Name x p1) "tellings" fp) "append" ap) [e] [] cp) none pos.line env = pure false := by intro _; rfl) :
    Sd c Γ (.Expr (.Call (.Attribute (.Attribute (.Name x p1) "tellings" fp) "append" ap) [e] [] cp) pos :: rest) po := fun X hX H0 σ H S D F => by
  refine (pss_cons (ps_expr (pe_bm PySem.F.plainAttrs_list PySem.F.slot_list_append PySem.F.type_list_append mt_append (pe_fld (pe_var (hX.at_ hN) (hX.vis hv) hd hcd) (hb X.env)) pa_wa (hbase X.env) (hfew X.env) hline (hst X.env) (by rfl)) (hsw X.env)) pss_ws).wss ?_
  obtain ⟨e1, e2, ⟨dx, v, h2, h3⟩, vs, hp, hi⟩ := S.slots i _ h0
  refine ⟨_, e1, p, C, dx, _, .ref q, rfl, S.base _ _ h2, by rw [hX.K]; exact L.cls, by rw [hX.K]; exact L.tellings, rfl, .inl ⟨rfl, _, SqL.of hp⟩, ?_⟩
  refine h X hX H0 σ H S _ fun H0' rs Γ' us H' s ⟨y, ds, z1, z2, hl, k⟩ S' o => ?_
  subst z1
  obtain ⟨w, rfl, o1⟩ := ArAll.one o
  obtain ⟨e1', e2', ⟨dx', v', h2', h3'⟩, vs', hp', hi'⟩ := S'.slots i _ z2
  refine ⟨q, vs', w, rfl, rfl, hp', Nat.lt_of_le_of_lt (by rw [hi'.len]; exact hl) (by decide), ?_⟩
  have tk : Tk H' (upd H' q (.lst (vs' ++ [w]))) := fun a xs z => by
    rw [upd_ne fun w => by rw [w, hp'] at z; cases z]
    exact z
  exact k X hX H0' σ _ (S'.change (s' := .led C p q "house" "tellings" d (ds ++ [y])) z2 rfl rfl ⟨e1', e2', ⟨dx', v', h2', Is.tk tk _ _ h3'⟩, _, upd_same, (IsAll.tk tk _ _ hi').app (IsAll.one (Is.tk tk _ _ o1))⟩) D (F.up s)
/-- self.tellings.pop() -/
theorem w_popLed (i : Nat) {x : Str} {fp ap cp : Pos} {C p q : Addr} {d y : PyData} {ds : List PyData} (L : LedAt c.g C) (h0 : Γ[i]? = some (.led C p q "house" "tellings" d (ds ++ [y]))) (h : Φ (.dat y) (Γ.set i (.led C p q "house" "tellings" d ds)))
    (hN : c.N[i]? = some x := by rfl) (hv : Vis c.sc x := by first | exact Or.inl rfl | exact Or.inr (Or.inl rfl) | exact Or.inr (Or.inr rfl)) (hd : (x == ("__debug__" : Str)) = false := by decide) (hcd : (x == ("__classdict__" : Str)) = false := by decide)
    (hb : ∀ env : Env, attributeBase (.Name x p1) "tellings" env (eval (.Name x p1) env) = eval (.Name x p1) env := by intro _; rfl)
    (hbase : ∀ env : Env, attributeBase (.Attribute (.Name x p1) "tellings" fp) "pop" env (eval (.Attribute (.Name x p1) "tellings" fp) env) = eval (.Attribute (.Name x p1) "tellings" fp) env := by intro _; rfl)
    (hline : (ap.endLine == cp.line) = true := by rfl) : W c Γ (.Call (.Attribute (.Attribute (.Name x p1) "tellings" fp) "pop" ap) [] [] cp) Φ := fun X hX H0 σ H S Q k => by
  refine (pe_bm0 PySem.F.plainAttrs_list PySem.F.slot_list_pop PySem.F.type_list_pop mt_pop (pe_fld (pe_var (hX.at_ hN) (hX.vis hv) hd hcd) (hb X.env)) (hbase X.env) hline).we ?_
  obtain ⟨e1, e2, ⟨dx, v, h2, h3⟩, vs, hp, hi⟩ := S.slots i _ h0
  have hlen : vs.length = ds.length + 1 := by rw [hi.len, List.length_append] <;> rfl
  obtain ⟨w, hw, iw⟩ := hi.get (i := ds.length) (d := y) (by rw [List.getElem?_append_right (Nat.le_refl _), Nat.sub_self] <;> rfl)
  refine ⟨_, e1, p, C, dx, _, .ref q, rfl, S.base _ _ h2, by rw [hX.K]; exact L.cls, by rw [hX.K]; exact L.tellings, rfl, .inl ⟨rfl, _, SqL.of hp⟩, ?_⟩
  refine ⟨q, vs, w, rfl, rfl, hp, by rw [hlen]; exact hw, ?_⟩
  have ed : vs.dropLast = vs.take ds.length := by
    rw [List.dropLast_eq_take, hlen] <;> rfl
  rw [ed]
  have hi2 : IsAll H (vs.take ds.length) ds := by
    have z := hi.take ds.length
    rw [List.take_left] at z
    exact z
  have tk : Tk H (upd H q (.lst (vs.take ds.length))) := fun a xs z => by
    rw [upd_ne fun w => by rw [w, hp] at z; cases z]
    exact z
  exact k H0 _ _ w _ (Same.refl H0) h (S.change (s' := .led C p q "house" "tellings" d ds) h0 rfl rfl ⟨e1, e2, ⟨dx, v, h2, Is.tk tk _ _ h3⟩, _, upd_same, IsAll.tk tk _ _ hi2⟩) (Is.tk tk _ _ iw)
/-- lists, compared -/
theorem d_eqL : DOp c (compareOp .Eq) (fun r1 r2 Γ d => ∃ xs ys, RdL Γ r1 xs ∧ RdL Γ r2 ys ∧ SeqAt.shaped (.list xs) = true ∧ SeqAt.shaped (.list ys) = true ∧ d = .bool (PyData.eqv (.list xs) (.list ys))) := ⟨fun X hX => ⟨_, op_eqD hX.room.units, fun H0 H Γ σ r1 r2 v1 v2 d S o1 o2 ⟨xs, ys, e1, e2, s1, s2, e3⟩ Q k => by
  subst e3
  obtain ⟨p1, vs1, rfl, h1, i1⟩ := e1.get S o1
  obtain ⟨p2, vs2, rfl, h2, i2⟩ := e2.get S o2
  exact ⟨.list xs, .list ys, .lst (SqL.of h1) (IsAll.dp _ _ i1), .lst (SqL.of h2) (IsAll.dp _ _ i2), s1, s2, k _ (.bl _)⟩⟩⟩
/-- for .. in a list of one's own, which stays what it is -/
theorem sd_forOwn (t : Tg) (M : List Sv → Prop) (h : W c Γ iter fun r Γ1 => ∃ (p : Addr) (ds : List PyData) (G : Nat → List Sv → Prop), r = .raw (.ref p) ∧ G 0 Γ1 ∧ (∀ k Γk, k ≤ ds.length → G k Γk → ∃ j : Nat, (Γk[j]?).bind Sv.lst? = some (p, ds)) ∧
      (∀ k d Γk, ds[k]? = some d → G k Γk → t.fits d ∧ Sd c (t.put d Γk) body { po with nx := G (k + 1), ct := G (k + 1), bk := M }) ∧ ∀ Γ', G ds.length Γ' → M Γ') (hr : ∀ Γ', M Γ' → Sd c Γ' rest po) (tgo : TgOk c tg t)
    (hs : ∀ (env : Env) x, foldedSetIterable iter env x = pure x := by intro _ _; rfl) : Sd c Γ (.For tg iter body [] pos :: rest) po := fun X hX H0 σ H S D F => by
  refine (pss_cons (ps_for hX.pass hX.calm (pi_list pe_we) (tgo.ok X hX) pss_ws (hs X.env)) pss_ws).wss ?_
  refine h X hX H0 σ H S _ fun H0' r Γ' v H' s ⟨p, ds, G, e1, g0, gown, gs, ge⟩ S' o => ?_
  subst e1
  cases (show v = V.ref p from o)
  have rd : ∀ {k : Nat} {H0k : Hp} {Γk : List Sv} {σ2 : L2.St} {H2 : Hp}, k ≤ ds.length → G k Γk → Kn H0k Γk σ2 H2 → ∃ vs, H2 p = some (.lst vs) ∧ IsAll H2 vs ds := fun {k H0k Γk σ2 H2} hk g S2 => by
    obtain ⟨j, hj⟩ := gown k Γk hk g
    obtain ⟨s2, z1, _, z2⟩ := lst_at hj
    exact z2 _ _ _ (S2.slots j s2 z1)
  obtain ⟨vs0, hv0, _⟩ := rd (Nat.zero_le _) g0 S'
  have wk : Walk (Itl X.K p) ds.length (fun H => ∃ vs, SqL X.K H p vs ∧ IsAll H vs ds) (fun i H x H' => H' = H ∧ ∃ d, ds[i]? = some d ∧ Is H x d) :=
    ⟨fun i H2 hi ⟨vs, q, ia⟩ => ⟨vs, vs[i]'(by rw [ia.len]; exact hi), q, List.getElem?_eq_getElem (by rw [ia.len]; exact hi)⟩, fun H2 ⟨vs, q, ia⟩ => ⟨vs, q, by rw [ia.len]; exact Nat.le_refl _⟩, fun i H2 x H3 hi ⟨vs, q, ia⟩ y => ⟨y.1, ia.getV (y.2 vs q)⟩⟩
  refine ⟨p, rfl, ⟨vs0, SqL.of hv0⟩, ?_⟩
  refine for_it wk (D := { D with nx := WSs X rest D }) (fun k σ H => ∃ (H0k : Hp) (Γk : List Sv), Same H0' H0k ∧ G k Γk ∧ Kn H0k Γk σ H) ⟨H0', Γ', Same.refl _, g0, S'⟩ (fun k σ H hk ⟨H0k, Γk, s1, g1, S1⟩ => ?_) (fun k x σ H H'' hk ⟨H0k, Γk, s1, g1, S1⟩ y => ?_) fun σ H ⟨H0k, Γk, s1, g1, S1⟩ => ?_
  · obtain ⟨vs, z1, z2⟩ := rd hk g1 S1
    exact ⟨vs, SqL.of z1, z2⟩
  · obtain ⟨rfl, d, ed, id⟩ := y
    obtain ⟨fit, hb⟩ := gs k d Γk ed g1
    refine t.run S1 id fit fun σ2 S2 _ => ?_
    exact hb X hX H0k σ2 _ S2 _ ⟨fun H r v Γ σ H' s2 => F.ret H r v Γ σ H' ((s.trans s1).trans s2), fun H Γ σ H' s2 g S => ⟨H, Γ, s1.trans s2, g, S⟩, fun H Γ σ H' s2 m S => hr Γ m X hX H σ H' S D (F.up ((s.trans s1).trans s2)), fun H Γ σ H' s2 g S => ⟨H, Γ, s1.trans s2, g, S⟩⟩
  · exact hr Γk (ge Γk g1) X hX H0k σ H S1 D (F.up (s.trans s1))
end
end K83
set_option maxRecDepth 100000
set_option maxHeartbeats 4000000
namespace K83
open PySem PySem.Spec PyProof.Rows L2
/-! ## methods -/
structure FnM (g : Gv) (C : Addr) (k : Nat) (m : Str) (sp : Sp) : Prop where
  ex : ∃ (f : Addr) (fd : FuncData) (ps : List Str), Meth g.K C m f ∧ FnOk g.P g.w g.K g.mg g.base CX0 k f fd ps sp ∧ Binds g.K fd ps []
theorem fn_meth {g : Gv} {C : Addr} {m qual : Str} {st : Stmt} {N ps : List Str} {k : Nat} {ι : Type} {own : ι → Sv} {args : ι → List Ar} {pre : ι → Prop} {post : ι → Ar → Sv → Prop} (D : MethAt g C m qual st ps) (Sc : FnScope N ps (defScope st))
    (hlen : ∀ i, (args i).length + 1 = ps.length) (hb : ∀ i, pre i → Sd ⟨g, N, defScope st, k, true, false⟩ (own i :: startG (N.length - 1) (args i)) (defBody st)
      { ret := fun r Γ' => ∃ r' s', post i r' s' ∧ RetO Γ' r r' ∧ Γ'[0]? = some s' ∧ s'.ptr = (own i).ptr ∧ s'.key = (own i).key, nx := fun Γ' => ∃ s', post i (.dat .none) s' ∧ Γ'[0]? = some s' ∧ s'.ptr = (own i).ptr ∧ s'.key = (own i).key }) : FnM g C (k + 1) m (spO own args pre post) := by
  obtain ⟨f, fd, M, F, bd⟩ := D
  exact ⟨f, fd, ps, M, fn_okO F Sc hlen hb, bd⟩
section
variable {c : Ct} {Γ : List Sv} {a b e : Expr} {es : List Expr} {pos p p1 : Pos} {Φ : Ar → List Sv → Prop}
theorem meth_fin {ι : Type} {own : ι → Sv} {args : ι → List Ar} {pre : ι → Prop} {post : ι → Ar → Sv → Prop} {j : Nat} {C P q : Addr} {o : Office} {l : List Page} {i : ι} {rs : List Ar} {vs : List V} {H0 H : Hp} {σ : L2.St} (S : Kn H0 Γ σ H) {Q : VK}
    (hj : Γ[j]? = some (own i)) (hown : own i = ledS C P q o l) (ag : AgIs Γ rs (args i)) (nraw : ∀ q' ds, Ar.raw (.ref q') ∈ rs → (Γ[j]?).bind Sv.lst? = some (q', ds) → False) (hpre : pre i) (ar : ArAll H0 H Γ vs rs)
    (h : ∀ r s', post i r s' → s'.key = (own i).key ∧ s'.ptr = (own i).ptr ∧ CrO Γ q r ∧ Φ r (Γ.set j s')) (k : ∀ r Γ' v H', Φ r Γ' → Kn H0 Γ' σ H' → ArOk H0 H' Γ' v r → Q v H') {E : XK} : spO own args pre post (.ref P :: (vs ++ [])) H Q E := by
  have hp : (own i).ptr = some q := by rw [hown] <;> rfl
  have pin : q ∈ ptrs Γ := mem_ptrs.mpr ⟨j, _, hj, hp⟩
  have sj := S.slots j _ hj
  have hσ : σ[j]? = some (some (.ref P)) := by
    have z := sj
    rw [hown] at z
    exact z.1
  have ok0 : SvOk (cbase H q) H (some (some (.ref P))) (own i) := by
    rw [← hσ]
    refine sj.rebase (fun a u e => ?_) fun q' hq => ?_
    · exact (cbase_ne (ne_none (S.own_at pin).1 e)).trans (S.base a u e)
    · rw [hp] at hq
      cases hq
      exact if_pos rfl
  refine ⟨i, .ref P, _, cbase H q, q, rfl, hpre, hp, cbase_same H q, ok0, by show AgBs (cbase H q) H (_ ++ []) (args i); rw [List.append_nil]; exact ag.okB S hj hp nraw ar, fun r s' v Hc' H'' hr b1 b2 ok rk => ?_⟩
  obtain ⟨ek, ep, cr, ph⟩ := h r s' hr
  rw [← hσ] at ok
  have S2 := S.behind hj hp b1 b2 ok ek.symm ep
  exact k r _ v H'' ph S2 (rk.ar S pin (ptrs_set hj ep) cr)
/-- x.m(e, ..), x a ledger -/
theorem w_meth {ι : Type} {k : Nat} {x m : Str} {ap : Pos} {own : ι → Sv} {args : ι → List Ar} {pre : ι → Prop} {post : ι → Ar → Sv → Prop} {C P q : Addr} {o : Office} {l0 : List Page} {pl : Env → Sem Bool} (j : Nat) (L : LedAt c.g C) (F : FnM c.g C k m (spO own args pre post)) (h0 : Γ[j]? = some (ledS C P q o l0))
    (h : WA c Γ (e :: es) fun rs Γ1 => ∃ (i : ι) (l : List Page), Γ1[j]? = some (own i) ∧ own i = ledS C P q o l ∧ AgIs Γ1 rs (args i) ∧ (∀ q' ds, Ar.raw (.ref q') ∈ rs → (Γ1[j]?).bind Sv.lst? = some (q', ds) → False) ∧ pre i ∧ ∀ r s', post i r s' → s'.key = (own i).key ∧ s'.ptr = (own i).ptr ∧ CrO Γ1 q r ∧ Φ r (Γ1.set j s'))
    (hl : ∀ v w : V, ([("house", v), ("tellings", w)] : List (Str × V)).lookup m = none := by intro _ _; rfl) (hk : k ≤ c.k := by exact Nat.le_of_ble_eq_true rfl) (hN : c.N[j]? = some x := by rfl) (hv : Vis c.sc x := by first | exact Or.inl rfl | exact Or.inr (Or.inl rfl) | exact Or.inr (Or.inr rfl)) (hd : (x == ("__debug__" : Str)) = false := by decide) (hcd : (x == ("__classdict__" : Str)) = false := by decide)
    (hst : ∀ env : Env, starEach (e :: es) env = (false, eval e env) :: starEach es env := by intro _; rfl) (hpl : ∀ env : Env, (backTo pos (starEach es env)).any (·.1) = false := by intro _; rfl)
    (ht : ∀ env : Env, eval (.Call (.Attribute (.Name x p1) m ap) (e :: es) [] pos) env = (do
      let ov ← eval (.Name x p1) env
      standAt ap.atName
      let (f, first) ← holding [ov] (getMethod ov m (pl env))
      callWith pos f first (backTo pos (starEach (e :: es) env)) (backToKw pos (keywordEach [] env))) := by intro _; rfl) : W c Γ (.Call (.Attribute (.Name x p1) m ap) (e :: es) [] pos) Φ := fun X hX H0 σ H S Q kq => by
  obtain ⟨f, fd, ps, M, F, bd⟩ := F.ex
  have F' : FnOk X.prog X.w X.K X.mg X.base CX0 k f fd ps (spO own args pre post) := by
    rw [hX.P, hX.w, hX.K, hX.mg, hX.base]
    exact F
  refine (pe_meth (ds := []) (dvs := []) (pe_var (hX.at_ hN) (hX.vis hv) hd hcd) (by rw [hX.K]; exact L.cls) (by rw [hX.K]; exact M) F' (hX.room.mono hk) (by rw [hX.K]; exact bd) .nil (pass0 (X := X)) pa_wa (hst X.env) (hpl X.env) (ht X.env)).we ?_
  obtain ⟨e1, e2, ⟨dx, v, h2, h3⟩, _⟩ := S.slots j _ h0
  refine ⟨_, e1, P, dx, _, rfl, S.base _ _ h2, hl _ _, ?_⟩
  refine h X hX H0 σ H S _ fun H0' rs Γ' vs H' s ⟨i, l, hj, hown, ag, nraw, hpre, hq⟩ S' ar => ?_
  exact meth_fin S' hj hown ag nraw hpre ar hq fun r Γ2 v H2 ph S2 o2 => kq H0' r Γ2 v H2 s ph S2 o2
/-- x.m() -/
theorem w_meth0 {ι : Type} {k : Nat} {x m : Str} {ap : Pos} {own : ι → Sv} {args : ι → List Ar} {pre : ι → Prop} {post : ι → Ar → Sv → Prop} {C P q : Addr} {o : Office} {l0 : List Page} {pl : Env → Sem Bool} (j : Nat) (L : LedAt c.g C) (F : FnM c.g C k m (spO own args pre post)) (h0 : Γ[j]? = some (ledS C P q o l0))
    (h : ∃ (i : ι), own i = ledS C P q o l0 ∧ args i = [] ∧ pre i ∧ ∀ r s', post i r s' → s'.key = (own i).key ∧ s'.ptr = (own i).ptr ∧ CrO Γ q r ∧ Φ r (Γ.set j s'))
    (hl : ∀ v w : V, ([("house", v), ("tellings", w)] : List (Str × V)).lookup m = none := by intro _ _; rfl) (hk : k ≤ c.k := by exact Nat.le_of_ble_eq_true rfl) (hN : c.N[j]? = some x := by rfl) (hv : Vis c.sc x := by first | exact Or.inl rfl | exact Or.inr (Or.inl rfl) | exact Or.inr (Or.inr rfl)) (hd : (x == ("__debug__" : Str)) = false := by decide) (hcd : (x == ("__classdict__" : Str)) = false := by decide)
    (ht : ∀ env : Env, eval (.Call (.Attribute (.Name x p1) m ap) [] [] pos) env = (do
      let ov ← eval (.Name x p1) env
      standAt ap.atName
      let (f, first) ← holding [ov] (getMethod ov m (pl env))
      callWith pos f first (backTo pos (starEach [] env)) (backToKw pos (keywordEach [] env))) := by intro _; rfl) : W c Γ (.Call (.Attribute (.Name x p1) m ap) [] [] pos) Φ := fun X hX H0 σ H S Q kq => by
  obtain ⟨f, fd, ps, M, F, bd⟩ := F.ex
  have F' : FnOk X.prog X.w X.K X.mg X.base CX0 k f fd ps (spO own args pre post) := by
    rw [hX.P, hX.w, hX.K, hX.mg, hX.base]
    exact F
  refine (pe_meth0 (ds := []) (dvs := []) (pe_var (hX.at_ hN) (hX.vis hv) hd hcd) (by rw [hX.K]; exact L.cls) (by rw [hX.K]; exact M) F' (hX.room.mono hk) (by rw [hX.K]; exact bd) .nil (pass0 (X := X)) (ht X.env)).we ?_
  obtain ⟨i, hown, ea, hpre, hq⟩ := h
  obtain ⟨e1, e2, ⟨dx, v, h2, h3⟩, _⟩ := S.slots j _ h0
  refine ⟨_, e1, P, dx, _, rfl, S.base _ _ h2, hl _ _, ?_⟩
  exact meth_fin (E := E0) (rs := []) (vs := []) S (by rw [hown]; exact h0) hown (by rw [ea]; exact .nil) (fun _ _ z => by cases z) hpre .nil hq fun r Γ2 v H2 ph S2 o2 => kq H0 r Γ2 v H2 (Same.refl H0) ph S2 o2
end
/-! ## a ledger made -/
/-- what __init__ does -/
def spInit (C : Addr) : Sp := fun vs H Q _ => ∃ (t dx : Addr) (v : V), vs = [.ref t, v] ∧ H t = some (.ins C dx []) ∧ ∀ q H', H q = none → q ≠ t → H' = upd (upd (upd H t (.ins C dx [("house", v)])) q (.lst [])) t (.ins C dx [("house", v), ("tellings", .ref q)]) → Q .non H'
section
variable {c : Ct} {Γ : List Sv} {e : Expr} {pos pos' p spos : Pos} {po : Po} {rest : List Stmt}
/-- x = Ledger(e) -/
theorem sd_made (i : Nat) {x : Str} {C : Addr} {k : Nat} (L : LedAt c.g C) (F : ∃ f fd, Mk c.g.K C f ∧ FnOk c.g.P c.g.w c.g.K c.g.mg c.g.base CX0 k f fd ["self", "office"] (spInit C) ∧ Binds c.g.K fd ["self", "office"] [])
    (h : WA c Γ [e] fun rs Γ1 => ∃ o, rs = [.dat (officeD o)] ∧ ∀ P q, Sd c (Γ1.set i (ledS C P q o [])) rest po)
    (hs : ∀ env : Env, env.scope = c.sc → swapsWith (.Call (.Name "Ledger" p) [e] [] pos) (some (.Name x pos')) spos.line env = pure false := by intro _ _; rfl)
    (hk : k + 1 ≤ c.k := by exact Nat.le_of_ble_eq_true rfl) (hg : c.sc.names.lookup ("Ledger" : Str) = some .globalImplicit := by rfl)
    (he : ∀ env : Env, starEach [e] env = (false, eval e env) :: starEach [] env := by intro _; rfl)
    (hN : c.N[i]? = some x := by rfl) (hx : Loc c.sc x := by first | exact Or.inl rfl | exact Or.inr rfl) (ht : c.top = true := by rfl) : Sd c Γ (.Assign [.Name x pos'] (.Call (.Name "Ledger" p) [e] [] pos) spos :: rest) po := fun X hX H0 σ H S D Ft => by
  obtain ⟨f, fd, M, F, bd⟩ := F
  have F' : FnOk X.prog X.w X.K X.mg X.base CX0 k f fd ["self", "office"] (spInit C) := by
    rw [hX.P, hX.w, hX.K, hX.mg, hX.base]
    exact F
  refine (pss_cons (ps_set hX.ndX (hX.at_ hN) (by rw [hX.sc]; exact hx) (pe_make (ds := []) (dvs := []) (by rw [hX.K]; exact M) F' (hX.room.mono hk) (hX.gl hg) (by rw [hX.mg]; exact L.gl) (by rw [hX.K]; exact bd) .nil (pass0 (X := X)) pa_wa (by decide) (he X.env) (by rfl)) (hs X.env hX.sc) (.inl (hX.fn ht x))) pss_ws).wss ?_
  refine h X hX H0 σ H S _ fun H0' rs Γ' vs H' s ⟨o, e1, k1⟩ S' ar => ?_
  subst e1
  obtain ⟨v, rfl, ov⟩ := ArAll.one ar
  have ov : Is H' v (officeD o) := ov
  intro t dx ht hdx hne
  refine ⟨t, dx, v, rfl, upd_same, fun q H2 hq hqt e2 => ⟨rfl, ?_⟩⟩
  have hq' : H' q = none := by
    rw [upd_ne hqt] at hq
    by_cases z : q = dx
    · rw [z, upd_same] at hq; cases hq
    · rw [upd_ne z] at hq; exact hq
  -- the heap behind it
  have sm : Same H' H2 := fun a u z => by
    have n1 : a ≠ t := ne_of_none z ht
    have n2 : a ≠ q := ne_of_none z hq'
    have n3 : a ≠ dx := ne_of_none z hdx
    rw [e2, upd_ne n1, upd_ne n2, upd_ne n1, upd_ne n1, upd_ne n3]
    exact z
  have h2t : H2 t = some (.ins C dx [("house", v), ("tellings", .ref q)]) := by rw [e2, upd_same]
  have h2q : H2 q = some (.lst []) := by rw [e2, upd_ne hqt, upd_same]
  have S2 := S'.same sm
  have nq : q ∉ ptrs Γ' := S'.not_own hq'
  have nt : t ∉ ptrs Γ' := S'.not_own ht
  have S3 := S2.rebase
  have h0q : H0' q = none := Same.free S'.base hq'
  have e3 : upd H2 q (.lst []) = H2 := by
    funext z
    by_cases hz : z = q
    · rw [hz, upd_same, h2q]
    · rw [upd_ne hz]
  have S4 := S3.unbase (D := q) (ys := []) (zs := []) (by rw [reb_out nq]; exact h2q) fun n s1 hn => Off.of (S'.slots n s1 hn) h0q (fun a u z => by rw [reb_out (S'.not_own0 z)]; exact sm a u (S'.base a u z)) rfl
  rw [e3] at S4
  have up : Same H0' (fun b => if b = q then none else reb Γ' H2 b) := fun a u z => by
    have na : a ≠ q := fun w => by rw [w, h0q] at z; cases z
    show (if a = q then none else _) = some u
    rw [if_neg na, reb_out (S'.not_own0 z)]
    exact sm a u (S'.base a u z)
  refine k1 t q X hX _ _ H2 (S4.store (s := ledS C t q o []) (fun _ => ⟨rfl, if_pos rfl, ⟨dx, v, ?_, Is.tk (Same.tk sm) _ _ ov⟩, [], h2q, .nil⟩) fun y z => by cases z; exact nq) D (Ft.up (s.trans up))
  show (if t = q then none else reb Γ' H2 t) = _
  rw [if_neg (fun z => hqt z.symm), reb_out nt]
  exact h2t
end
end K83
set_option maxRecDepth 100000
set_option maxHeartbeats 1000000
namespace K83
open PySem PySem.Spec PyProof.Rows L2
/-! ## the ledger's methods -/
abbrev mInit : Stmt := inClass (topS 50) 0
abbrev mTell : Stmt := inClass (topS 50) 1
abbrev mBack : Stmt := inClass (topS 50) 2
abbrev mBook : Stmt := inClass (topS 50) 3
abbrev mThen : Stmt := inClass (topS 50) 4
abbrev mTold : Stmt := inClass (topS 50) 5
structure TlI where
  p : Addr
  q : Addr
  o : Office
  l : List Page
  pg : Page
structure BkI where
  p : Addr
  q : Addr
  o : Office
  l : List Page
structure ThI where
  p : Addr
  q : Addr
  o : Office
  l : List Page
  k : Nat
abbrev spTell (C : Addr) : Sp := spO (fun i : TlI => ledS C i.p i.q i.o i.l) (fun i => [.dat (pageD i.pg)]) (fun i => OffOk i.o ∧ PageOk i.o i.pg ∧ (∀ t ∈ i.l, t.nm = i.pg.nm → t = i.pg) ∧ i.l.length ≤ 1000)
  fun i r s' => (i.pg ∈ i.l ∧ r = .dat (.str "again") ∧ s' = ledS C i.p i.q i.o i.l) ∨ (i.pg ∉ i.l ∧ r = .dat (.str "new") ∧ s' = ledS C i.p i.q i.o (i.l ++ [i.pg]))
abbrev spBack (C : Addr) : Sp := spO (fun i : TlI => ledS C i.p i.q i.o (i.l ++ [i.pg])) (fun _ => []) (fun _ => True) fun i r s' => r = .dat (nmD i.pg.nm) ∧ s' = ledS C i.p i.q i.o i.l
abbrev spBook (C : Addr) : Sp := spO (fun i : BkI => ledS C i.p i.q i.o i.l) (fun _ => []) (fun i => (i.l.map Page.nm).Nodup ∧ i.l.length ≤ 1000) fun i r s' => r = .dat (bookD (pgSort i.l)) ∧ s' = ledS C i.p i.q i.o i.l
abbrev spThen (C : Addr) : Sp := spO (fun i : ThI => ledS C i.p i.q i.o i.l) (fun i => [.dat (.int i.k)]) (fun i => (i.l.map Page.nm).Nodup ∧ i.l.length ≤ 1000 ∧ i.k ≤ i.l.length) fun i r s' => r = .dat (bookD (pgSort (i.l.take i.k))) ∧ s' = ledS C i.p i.q i.o i.l
abbrev spTold (C : Addr) : Sp := spO (fun i : BkI => ledS C i.p i.q i.o i.l) (fun _ => []) (fun _ => True) fun i r s' => r = .dat (.int i.l.length) ∧ s' = ledS C i.p i.q i.o i.l
theorem sh_pages (l : List Page) : SeqAt.shaped (.list (l.map pageD)) = true := shaped_list (lay_tuple_map lay_page l).shaped

theorem sc_led_tell : FnScope ["self", "page", "there"] ["self", "page"] (defScope mTell) := ⟨rfl, rfl, rfl, by decide +kernel, rfl, by decide +kernel, by decide +kernel⟩
theorem F_tell {g : Gv} (G : GL g) {C : Addr} (L : LedAt g C) : FnM g C 7 "tell" (spTell C) := by
  refine fn_meth (k := 6) L.m_tell sc_led_tell (fun _ => rfl) fun i hi => ?_
  obtain ⟨p, q, o, l, pg⟩ := i
  obtain ⟨ho, hp, huniq, hlen⟩ := hi
  have hlen : l.length ≤ 1000 := hlen
  have huniq : ∀ t ∈ l, t.nm = pg.nm → t = pg := huniq
  show Sd _ [ledS C p q o l, .dat (pageD pg), .no] [_, _, _, _] _
  refine sd_ifF (wt_not (wt_w (w_callD (F_is_page G.toGF G.t_DEEDS) (wa_cons (w_house 0 L rfl (wa_cons (w_name 1 rfl (wa_nil ⟨(o, pg), agis_dat (agis_dat agis_nil), ⟨ho, hp⟩, ⟨_, rfl, ⟨rfl, ?_⟩⟩⟩))))))))
  show Sd _ [ledS C p q o l, .dat (pageD pg), .no] [_, _, _] _
  refine sd_forOwn (.one 2) (fun Γ' => pg ∉ l ∧ ∃ x, Γ' = [ledS C p q o l, .dat (pageD pg), x]) (w_tells 0 L rfl ⟨q, l.map pageD, fun k Γk => (∀ t ∈ l.take k, t ≠ pg) ∧ ∃ x, Γk = [ledS C p q o l, .dat (pageD pg), x], rfl, ⟨(fun t ht => by rw [List.take_zero] at ht; cases ht), _, rfl⟩, ?own, ?step, ?last⟩) ?rest (tg_one 2)
  case own =>
    intro k Γk _ ⟨_, x, e⟩
    subst e
    exact ⟨0, rfl⟩
  case step =>
    intro k d Γk hk ⟨hno, x, e⟩
    subst e
    obtain ⟨t, ht, rfl⟩ := map_at hk
    have htl := List.mem_of_getElem? ht
    refine ⟨trivial, ?_⟩
    show Sd _ [ledS C p q o l, .dat (pageD pg), .dat (pageD t)] [_, _] _
    refine sd_ifF (WT.imp (ΦT := fun k Γ' => k = false ∧ Γ' = [ledS C p q o l, .dat (pageD pg), .dat (pageD t)]) ?cond fun k Γ' ⟨e1, e2⟩ => ⟨e1, ?next⟩)
    case cond =>
      refine wt_ww (ww_andB (wt_cmp d_eq (w_ixk 0 (w_name 2 rfl ⟨_, _, (.inl rfl), rfl, (w_ixk 0 (w_name 1 rfl ⟨_, _, (.inl rfl), rfl, ⟨_, ⟨_, _, rfl, rfl, (by first | rfl | decide +kernel | exact sh_tx _ | exact sh_word _ | exact sh_nm _ | exact sh_deed _ | exact sh_page _ | exact sh_runs _ | exact sh_road _ _ | exact sh_roads _ | exact sh_names _ | exact sh_namesT _ | exact sh_txs _), (by first | rfl | decide +kernel | exact sh_tx _ | exact sh_word _ | exact sh_nm _ | exact sh_deed _ | exact sh_page _ | exact sh_runs _ | exact sh_road _ _ | exact sh_roads _ | exact sh_names _ | exact sh_namesT _ | exact sh_txs _), rfl⟩, ⟨fun h => ww_and1 (wt_cmp d_ne (w_name 2 rfl (w_name 1 rfl ⟨_, ⟨_, _, rfl, rfl, (by first | rfl | decide +kernel | exact sh_tx _ | exact sh_word _ | exact sh_nm _ | exact sh_deed _ | exact sh_page _ | exact sh_runs _ | exact sh_road _ _ | exact sh_roads _ | exact sh_names _ | exact sh_namesT _ | exact sh_txs _), (by first | rfl | decide +kernel | exact sh_tx _ | exact sh_word _ | exact sh_nm _ | exact sh_deed _ | exact sh_page _ | exact sh_runs _ | exact sh_road _ _ | exact sh_roads _ | exact sh_names _ | exact sh_namesT _ | exact sh_txs _), rfl⟩, ⟨?f, rfl⟩⟩))), fun h => ⟨rfl, rfl⟩⟩⟩⟩))⟩))))
      have h' : PyData.eqv (nmD t.nm) (nmD pg.nm) = true := h
      rw [eqv_nm] at h'
      have e := huniq t htl (of_decide_eq_true h')
      show (!PyData.eqv (pageD t) (pageD pg)) = false
      rw [eqv_page, e, decide_eq_true rfl] <;> rfl
    case next =>
      subst e2
      refine sd_ifB (wt_cmp d_eq (w_name 2 rfl (w_name 1 rfl ⟨_, ⟨_, _, rfl, rfl, (by first | rfl | decide +kernel | exact sh_tx _ | exact sh_word _ | exact sh_nm _ | exact sh_deed _ | exact sh_page _ | exact sh_runs _ | exact sh_road _ _ | exact sh_roads _ | exact sh_names _ | exact sh_namesT _ | exact sh_txs _), (by first | rfl | decide +kernel | exact sh_tx _ | exact sh_word _ | exact sh_nm _ | exact sh_deed _ | exact sh_page _ | exact sh_runs _ | exact sh_road _ _ | exact sh_roads _ | exact sh_names _ | exact sh_namesT _ | exact sh_txs _), rfl⟩, ⟨fun h => ?again, fun h => sd_nil ⟨fun u hu => ?no, _, rfl⟩⟩⟩)))
      case again =>
        have h' : PyData.eqv (pageD t) (pageD pg) = true := h
        rw [eqv_page] at h'
        have e := of_decide_eq_true h'
        exact sd_ret (w_str ⟨.dat (.str "again"), ledS C p q o l, .inl ⟨by rw [← e]; exact htl, rfl, rfl⟩, .inl ⟨_, rfl, rfl⟩, rfl, rfl, rfl⟩)
      case no =>
        rw [take_next ht] at hu
        rcases List.mem_append.mp hu with y | y
        · exact hno u y
        · rw [List.mem_singleton.mp y]
          intro z
          have h' : PyData.eqv (pageD t) (pageD pg) = false := h
          rw [eqv_page, decide_eq_true z] at h'
          cases h'
  case last =>
    intro Γ' ⟨hno, x, e⟩
    rw [List.length_map, List.take_length] at hno
    exact ⟨fun z => hno pg z rfl, x, e⟩
  case rest =>
    intro Γ' ⟨hno, x, e⟩
    subst e
    refine sd_appLed 0 L rfl (wa_cons (w_name 1 rfl (wa_nil ⟨_, _, rfl, rfl, by rw [List.length_map]; omega, ?_⟩)))
    have e2 : (.led C p q "house" "tellings" (officeD o) (l.map pageD ++ [pageD pg]) : Sv) = ledS C p q o (l ++ [pg]) := by
      show _ = Sv.led C p q "house" "tellings" (officeD o) ((l ++ [pg]).map pageD)
      rw [List.map_append] <;> rfl
    show Sd _ [.led C p q "house" "tellings" (officeD o) (l.map pageD ++ [pageD pg]), _, _] [_] _
    rw [e2]
    exact sd_ret (w_str ⟨.dat (.str "new"), ledS C p q o (l ++ [pg]), .inr ⟨hno, rfl, rfl⟩, .inl ⟨_, rfl, rfl⟩, rfl, rfl, rfl⟩)
theorem sc_led_back : FnScope ["self"] ["self"] (defScope mBack) := ⟨rfl, rfl, rfl, by decide +kernel, rfl, by decide +kernel, by decide +kernel⟩
theorem F_back {g : Gv} (G : GL g) {C : Addr} (L : LedAt g C) : FnM g C 1 "back" (spBack C) := by
  refine fn_meth (k := 0) L.m_back sc_led_back (fun _ => rfl) fun i hi => ?_
  obtain ⟨p, q, o, l, pg⟩ := i
  have e2 : ledS C p q o (l ++ [pg]) = (.led C p q "house" "tellings" (officeD o) (l.map pageD ++ [pageD pg]) : Sv) := by
    show Sv.led C p q "house" "tellings" (officeD o) ((l ++ [pg]).map pageD) = _
    rw [List.map_append] <;> rfl
  show Sd _ (ledS C p q o (l ++ [pg]) :: startG 0 []) _ { ret := fun r Γ' => ∃ r' s', _ ∧ RetO Γ' r r' ∧ Γ'[0]? = some s' ∧ s'.ptr = some q ∧ s'.key = (ledS C p q o (l ++ [pg])).key, nx := _ }
  rw [e2]
  show Sd _ [.led C p q "house" "tellings" (officeD o) (l.map pageD ++ [pageD pg])] [_, _] _
  refine sd_ifF (wt_cmp d_eqL (w_tells 0 L rfl (w_lst (wa_nil ⟨[], rfl, by exact Nat.le_of_ble_eq_true rfl, ⟨_, ⟨l.map pageD ++ [pageD pg], [], .inr (.inr ⟨_, 0, rfl, rfl⟩), .inl rfl, ?s1, rfl, rfl⟩, ⟨?f, ?r⟩⟩⟩))))
  case s1 =>
    have := sh_pages (l ++ [pg])
    rw [List.map_append] at this
    exact this
  case f =>
    cases l <;> rfl
  case r => exact sd_ret (w_ixk 0 (w_popLed 0 L rfl ⟨_, _, .inl rfl, rfl, ⟨.dat (nmD pg.nm), ledS C p q o l, ⟨rfl, rfl⟩, .inl ⟨_, rfl, rfl⟩, rfl, rfl, rfl⟩⟩))
theorem sc_led_book : FnScope ["self"] ["self"] (defScope mBook) := ⟨rfl, rfl, rfl, by decide +kernel, rfl, by decide +kernel, by decide +kernel⟩
theorem F_book {g : Gv} (G : GL g) {C : Addr} (L : LedAt g C) : FnM g C 2 "book" (spBook C) := by
  refine fn_meth (k := 1) L.m_book sc_led_book (fun _ => rfl) fun i hi => ?_
  obtain ⟨p, q, o, l⟩ := i
  show Sd _ [ledS C p q o l] [_] _
  exact sd_ret (w_callD (F_book_of G.toGF) (wa_cons (w_tells 0 L rfl (wa_nil ⟨l, agis_lst (.inr (.inr ⟨_, 0, rfl, rfl⟩)) agis_nil, hi, ⟨_, ledS C p q o l, ⟨rfl, rfl⟩, .inl ⟨_, rfl, rfl⟩, rfl, rfl, rfl⟩⟩))))
theorem sc_led_then : FnScope ["self", "k"] ["self", "k"] (defScope mThen) := ⟨rfl, rfl, rfl, by decide +kernel, rfl, by decide +kernel, by decide +kernel⟩
theorem F_then {g : Gv} (G : GL g) {C : Addr} (L : LedAt g C) : FnM g C 2 "then" (spThen C) := by
  refine fn_meth (k := 1) L.m_then sc_led_then (fun _ => rfl) fun i hi => ?_
  obtain ⟨p, q, o, l, k⟩ := i
  obtain ⟨hnd, hlen, hk⟩ := hi
  have hnd : (l.map Page.nm).Nodup := hnd
  have hlen : l.length ≤ 1000 := hlen
  have hk : k ≤ l.length := hk
  show Sd _ [ledS C p q o l, .dat (.int k)] [_, _] _
  refine sd_ifF (wt_not (wt_chain (fun _ => op_le) (fun _ => op_le) (w_int (w_name 1 rfl ⟨_, _, _, rfl, rfl, w_callB c_len G.b_len (wa_cons (w_tells 0 L rfl (wa_nil ⟨_, .inl ⟨_, _, rfl, .inr (.inr (.inr ⟨_, 0, rfl, rfl⟩)), rfl⟩, rfl, rfl⟩))), ⟨?f, ?r⟩⟩))))
  case f =>
    rw [decide_eq_true (by omega), decide_eq_true (by rw [List.length_map]; omega)] <;> rfl
  case r =>
    refine sd_ret (w_callD (F_book_of G.toGF) (wa_cons (w_slHi (w_tells 0 L rfl (w_name 1 rfl ⟨k, _, rfl, .inr ⟨.inr (.inr ⟨_, 0, rfl, rfl⟩), wa_nil ⟨l.take k, agis_lst (.inr (.inl (by rw [List.map_take] <;> rfl))) agis_nil, ⟨?n, ?l⟩, ⟨_, ledS C p q o l, ⟨rfl, rfl⟩, .inl ⟨_, rfl, rfl⟩, rfl, rfl, rfl⟩⟩⟩⟩)))))
    case n => exact hnd.sublist ((List.take_sublist _ _).map Page.nm)
    case l => rw [List.length_take]; omega
theorem sc_led_told : FnScope ["self"] ["self"] (defScope mTold) := ⟨rfl, rfl, rfl, by decide +kernel, rfl, by decide +kernel, by decide +kernel⟩
theorem F_told {g : Gv} (G : GL g) {C : Addr} (L : LedAt g C) : FnM g C 1 "told" (spTold C) := by
  refine fn_meth (k := 0) L.m_told sc_led_told (fun _ => rfl) fun i hi => ?_
  obtain ⟨p, q, o, l⟩ := i
  show Sd _ [ledS C p q o l] [_] _
  exact sd_ret (w_callB c_len G.b_len (wa_cons (w_tells 0 L rfl (wa_nil ⟨_, .inl ⟨_, _, rfl, .inr (.inr (.inr ⟨_, 0, rfl, rfl⟩)), rfl⟩, ⟨.dat (.int l.length), ledS C p q o l, ⟨rfl, rfl⟩, .inl ⟨_, by rw [List.length_map], rfl⟩, rfl, rfl, rfl⟩⟩))))
theorem sc_led_init : FnScope ["self", "office"] ["self", "office"] (defScope mInit) := ⟨rfl, rfl, rfl, by decide +kernel, rfl, by decide +kernel, by decide +kernel⟩
theorem F_init {g : Gv} {C : Addr} (L : LedAt g C) : ∃ f fd, Mk g.K C f ∧ FnOk g.P g.w g.K g.mg g.base CX0 1 f fd ["self", "office"] (spInit C) ∧ Binds g.K fd ["self", "office"] [] := by
  obtain ⟨f, fd, M, F, bd⟩ := L.made
  refine ⟨f, fd, M, F.ok (k := 0) sc_led_init (fun vs H Q E ⟨t, dx, v, e, _⟩ => by rw [e] <;> rfl) fun cdv A outer s H vs Q E hr ⟨t, dx, v, e, ht, q⟩ => ⟨_, PSs.nox (pss_cons (ps_fld (pv 0) (pv 1) (by rfl)) (pss_one (ps_fld (pv 0) (pe_lst pa_nil) (by rfl)))), ?_⟩, bd⟩
  subst e
  refine ⟨_, rfl, _, rfl, t, C, dx, [], rfl, ht, L.cls, L.house, by decide, ?_⟩
  refine ⟨Nat.zero_le _, fun a ha => ⟨_, rfl, t, C, dx, [("house", v)], rfl, ?_, L.cls, L.tellings, by show 1 < 1000; decide, ?_⟩⟩
  · have hne : t ≠ a := fun z => by rw [← z, upd_same] at ha; cases ha
    rw [upd_ne hne, upd_same] <;> rfl
  · have hne : a ≠ t := fun z => by rw [z, upd_same] at ha; cases ha
    exact q a _ (by rw [upd_ne hne] at ha; exact ha) hne rfl
end K83
set_option maxRecDepth 100000
set_option maxHeartbeats 1000000
namespace K83
open PySem PySem.Spec PyProof.Rows L2
/-! ## the law: what it stands on -/
theorem no_raw {d : PyData} {v : V} (h : Ar.raw v ∈ [Ar.dat d]) : False := by
  cases h with
  | tail _ z => cases z
theorem pick_nat (A B : Nat) (c : Bool) : L2.atI [PyData.int A, .int B] (if c = true then 1 else 0) = some (.int ((if c = true then B else A : Nat) : Int)) := by
  cases c <;> rfl
structure LwI where
  f : Addr
  S : Addr
  C : Addr
  P : Addr
  q : Addr
  pp : Addr
  pn : Addr
  qn : Addr
  o : Office
  b : List Page
  notes : List Note
  ls : List Page
/-- the law's slots behind its first statements -/
abbrev lawG (w : LwI) (n : Nat) (led : List Page) (pgs nt : List PyData) (x5 x6 x10 x11 x12 x13 x14 : Sv) : List Sv :=
  [.no, .feed w.f w.S n, .dat (officeD w.o), .dat (bookD w.b), .own w.qn (w.notes.map noteD), x5, x6, ledS w.C w.P w.q w.o led, .own w.pp pgs, .own w.pn nt, x10, x11, x12, x13, x14]
/-- what is noted behind z.1 tellings, by the day z.2 -/
def notedD (w : LwI) (z : Nat × Int) : PyData := .tuple [.int z.1, .int z.2, .str (seenT ⟨w.o, pgSort (w.ls.take z.1), z.2, w.notes⟩)]
structure LwOk (w : LwI) : Prop where
  o : GoodOff w.o
  b : BookGood w.o w.b
  pm : w.ls.Perm w.b
  nl : w.notes.length ≤ 8
section
variable {w : LwI} (h : LwOk w)
include h
theorem LwOk.len : w.ls.length ≤ 18 := by rw [h.pm.length_eq]; exact h.b.len
theorem LwOk.nd : (w.ls.map Page.nm).Nodup := (h.pm.map Page.nm).nodup_iff.mpr h.b.nd
theorem LwOk.ok : ∀ p ∈ w.ls, PageOk w.o p := fun p hp => h.b.ok p (h.pm.mem_iff.mp hp)
theorem LwOk.takeNd (k : Nat) : ((w.ls.take k).map Page.nm).Nodup := h.nd.sublist ((List.take_sublist _ _).map Page.nm)
theorem LwOk.takeLen (k : Nat) : (w.ls.take k).length ≤ 18 := Nat.le_trans (by rw [List.length_take]; omega) h.len
theorem LwOk.seen (k : Nat) (day : Int) : SeenOk ⟨w.o, pgSort (w.ls.take k), day, w.notes⟩ :=
  ⟨h.o.ok, fun p hp => h.ok p (List.mem_of_mem_take ((pgSort_perm _).mem_iff.mp hp)), by show (pgSort _).length ≤ 18; rw [(pgSort_perm _).length_eq]; exact h.takeLen k, ((pgSort_perm _).map Page.nm).nodup_iff.mpr (h.takeNd k), h.nl⟩
theorem LwOk.fin : pgSort w.ls = w.b := pgSort_eq h.pm h.b.pw h.b.nd
theorem LwOk.pages (k : Nat) : (w.ls.take k).map pageD = (w.ls.take k).map pageD := rfl
end
/-- a call of _law_same -/
abbrev spSame : Sp := fun vs H Q _ => ∃ v1 v2 ds, vs = [v1, v2] ∧ Fz H v1 (.list ds) ∧ Fz H v2 (.list ds) ∧ ShowD (.list ds) ∧ ∀ H', Same H H' → Q (.bl true) H'
section
variable {c : Ct} {Γ : List Sv} {a b : Expr} {pos p : Pos} {Φ : Ar → List Sv → Prop}
theorem w_same (F : FnG c.g 1 "_law_same" spSame) (h : WA c Γ [a, b] fun rs Γ1 => ∃ r1 r2 ds, rs = [r1, r2] ∧ FzS r1 (.list ds) ∧ FzS r2 (.list ds) ∧ ShowD (.list ds) ∧ Φ (.dat (.bool true)) Γ1)
    (hgd : c.gd = true := by rfl) (hk : 1 ≤ c.k := by exact Nat.le_of_ble_eq_true rfl) (hg : c.sc.names.lookup ("_law_same" : Str) = some .globalImplicit := by rfl)
    (he : ∀ env : Env, starEach [a, b] env = (false, eval a env) :: starEach [b] env := by intro _; rfl) (hpl : ∀ env : Env, (backTo pos (starEach [b] env)).any (·.1) = false := by intro _; rfl) : W c Γ (.Call (.Name "_law_same" p) [a, b] [] pos) Φ := fun X hX H0 σ H S Q q => by
  obtain ⟨f, fd, ps, F, gm, kp, bd⟩ := F.ex
  refine (pe_callG hX hgd F hk (hX.gl hg) (by rw [hX.mg]; exact gm) (by rw [hX.K]; exact kp) (by rw [hX.K]; exact bd) pa_wa (by decide) (he X.env) (hpl X.env)).we ?_
  refine h X hX H0 σ H S _ fun H0' rs Γ' vs H' s ⟨r1, r2, ds, e1, e2, e3, e4, ph⟩ S' o => ?_
  subst e1
  obtain ⟨v1, v2, rfl, o1, o2⟩ := ArAll.two o
  exact ⟨v1, v2, ds, rfl, Fz.on (fun _ _ z => reb_some z) _ _ (e2.get S' o1), Fz.on (fun _ _ z => reb_some z) _ _ (e3.get S' o2), e4, fun H'' s' => q H0' _ Γ' _ H'' s ph (S'.same s') (.bl _)⟩
end
/-! ## _law_feed -/
def spFeed (K : PySem.W.Frag) : Sp := fun vs H Q _ => ∃ (t : Addr) (ns : List Int), vs = [.ref t] ∧ SqL K H t (ns.map V.int) ∧ ns.length ≤ 63 ∧ ∀ f S H', H f = none → H S = none → f ≠ S → H' = upd (upd H S (.lst (ns.map V.int))) f (.lst [.ref S, .int 0, .int 0]) → Q (.ref f) H'

theorem sc_law_feed : FnScope ["_law_script"] ["_law_script"] (defScope (topS 64)) := ⟨rfl, rfl, rfl, by decide +kernel, rfl, by decide +kernel, by decide +kernel⟩
theorem F_law_feed {g : Gv} (G : GL g) : Fn g 1 "_law_feed" (spFeed g.K) := by
  obtain ⟨f, fd, F, gm, bd⟩ := G.l_feed
  refine ⟨f, fd, _, F.ok (k := 0) sc_law_feed (fun vs H Q E ⟨t, ns, e, _⟩ => by rw [e] <;> rfl) fun cdv A outer s H vs Q E hr ⟨t, ns, e, hs, hl, q⟩ => ⟨_, PSs.nox (pss_one (ps_ret (pe_lst (pa_cons (pe_slice sl_list (pv 0) po_none (po_some pe_int)) (pa_cons pe_int (pa_cons pe_int pa_nil)))))), ?_⟩, gm, F.kp, bd⟩
  subst e
  refine ⟨_, rfl, 63, rfl, t, _, rfl, hs, fun S hS => ⟨Nat.le_of_ble_eq_true rfl, fun f1 hf => ?_⟩⟩
  have hne : f1 ≠ S := fun z => by rw [z, upd_same] at hf; cases hf
  have e : cutV (ns.map V.int) none (some 63) = ns.map V.int := by
    unfold cutV
    rw [HT.sIx_none, show (63 : Int) = ((63 : Nat) : Int) from rfl, HT.sIx_nat, List.drop_zero, Nat.sub_zero, List.take_of_length_le]
    rw [List.length_map]
    omega
  rw [e] at hf ⊢
  rw [upd_ne hne] at hf
  exact q f1 S _ hf hS hne rfl
end K83
set_option maxRecDepth 100000
set_option maxHeartbeats 2000000
namespace K83
open PySem PySem.Spec PyProof.Rows L2
/-! ## the law: its loops -/
abbrev cLaw (g : Gv) : Ct := ⟨g, ["_law_script", "_law_feed_here", "_law_office_here", "_law_book_here", "_law_notes", "_law_series", "_law_worth", "_law_ledger", "_law_pages", "_law_noted", "_law_page", "_law_day", "_law_many", "_law_due", "_law_number"], defScope (topS 76), 7, true, true⟩
def forB : Stmt → List Stmt
  | .For _ _ b _ _ => b
  | _ => []
abbrev lawS (i : Nat) : Stmt := (defBody (topS 76)).getD i (.Pass ⟨0, 0, 0, 0⟩)
abbrev poT : Po := { ret := fun r _ => r = .dat (.bool true) }

theorem sc_law : FnScope ["_law_script", "_law_feed_here", "_law_office_here", "_law_book_here", "_law_notes", "_law_series", "_law_worth", "_law_ledger", "_law_pages", "_law_noted", "_law_page", "_law_day", "_law_many", "_law_due", "_law_number"] ["_law_script"] (defScope (topS 76)) := ⟨rfl, rfl, rfl, by decide +kernel, rfl, by decide +kernel, by decide +kernel⟩
/-- the state behind k pages -/
def LwSt (w : LwI) (n0 k : Nat) (Γ' : List Sv) : Prop := ∃ (n : Nat) (nt : List (Nat × Int)) (x5 x6 x10 x11 x12 x13 x14 : Sv), Γ' = lawG w n (w.ls.take k) ((w.ls.take k).map pageD) (nt.map (notedD w)) x5 x6 x10 x11 x12 x13 x14 ∧ n ≤ n0 + 12 * k ∧ nt.length ≤ 8 ∧ ∀ z ∈ nt, z.1 ≤ k
theorem same_str (s : Str) : (!decide (s = s)) = false := by rw [decide_eq_true rfl] <;> rfl
theorem law_body {g : Gv} (G : GL g) {w : LwI} (L : LedAt g w.C) (h : LwOk w) {n0 k n : Nat} {nt : List (Nat × Int)} {x5 x6 x11 x12 x13 x14 : Sv} {pg : Page} (hk : w.ls[k]? = some pg) (hn0 : n0 ≤ 90000) (hn : n ≤ n0 + 12 * k) (hnt : nt.length ≤ 8) (hz : ∀ z ∈ nt, z.1 ≤ k) {M : List Sv → Prop} :
    Sd (cLaw g) (lawG w n (w.ls.take k) ((w.ls.take k).map pageD) (nt.map (notedD w)) x5 x6 (.dat (pageD pg)) x11 x12 x13 x14) (forB (lawS 7)) { poT with nx := LwSt w n0 (k + 1), ct := LwSt w n0 (k + 1), bk := M } := by
  have hkl : k < w.ls.length := (List.getElem?_eq_some_iff.mp hk).1
  have hl18 := h.len
  have hpm := List.mem_of_getElem? hk
  have hpo := h.ok pg hpm
  have et : w.ls.take (k + 1) = w.ls.take k ++ [pg] := take_next hk
  have hnd1 := h.takeNd (k + 1)
  have hsn := fun day => h.seen (k + 1) day
  have hd1 : (w.ls.take (k + 1)).length = k + 1 := by rw [List.length_take]; omega
  have huq : ∀ t ∈ w.ls, t.nm = pg.nm → t = pg := fun t ht e => nd_inj h.nd ht hpm e
  have hd1m : ∀ t ∈ w.ls.take (k + 1), t ∈ w.ls := fun t ht => List.mem_of_mem_take ht
  have hz1 : ∀ z : Nat × Int, z.1 ≤ k + 1 → (w.ls.take (k + 1)).take z.1 = w.ls.take z.1 := fun z hz => by rw [List.take_take, Nat.min_eq_left hz]
  have hin : pg ∈ w.ls.take (k + 1) := by rw [et]; simp
  have hnot : pg ∉ w.ls.take k := fun z => by
    rw [et, List.map_append, List.nodup_append] at hnd1
    exact hnd1.2.2 _ (List.mem_map.mpr ⟨pg, z, rfl⟩) pg.nm (by simp) rfl
  have hd0 : (w.ls.take k).length ≤ 18 := h.takeLen k
  have hd0m : ∀ t ∈ w.ls.take k, t ∈ w.ls := fun t ht => List.mem_of_mem_take ht
  have em : (w.ls.take k).map pageD ++ [pageD pg] = (w.ls.take (k + 1)).map pageD := by rw [et, List.map_append] <;> rfl
  have el : ledS w.C w.P w.q w.o (w.ls.take k ++ [pg]) = ledS w.C w.P w.q w.o (w.ls.take (k + 1)) := by rw [et]
  show Sd _ _ [_, _, _, _, _] _
  refine sd_append 8 rfl (wa_cons (w_name 10 rfl (wa_nil ⟨_, _, rfl, rfl, by rw [List.length_map]; omega, ?_⟩)))
  show Sd _ (lawG w n (w.ls.take k) ((w.ls.take k).map pageD ++ [pageD pg]) (nt.map (notedD w)) x5 x6 (.dat (pageD pg)) x11 x12 x13 x14) [_, _, _, _] _
  rw [em]
  have en : ∀ day : Int, notedD w (k + 1, day) = .tuple [.int ((w.ls.take (k + 1)).map pageD).length, .int day, .str (seenT ⟨w.o, pgSort (w.ls.take (k + 1)), day, w.notes⟩)] := fun day => by
    unfold notedD
    rw [List.length_map, hd1]
  generalize hdn : w.ls.take (k + 1) = d1 at *
  have hm0 : (d1.map pageD).length = k + 1 := by rw [List.length_map, hd1]
  refine sd_ifF (WT.imp (ΦT := fun kk Γ' => kk = false ∧ ∃ m, m ≤ n + 1 ∧ Γ' = lawG w m d1 (d1.map pageD) (nt.map (notedD w)) x5 x6 (.dat (pageD pg)) x11 x12 x13 x14) ?c1 fun kk Γ' ⟨e1, m1, hm1, e2⟩ => ⟨e1, ?b3⟩)
  case c1 =>
    refine wt_ww (ww_orB (wt_cmp d_neS (w_meth 7 L (F_tell G L) rfl (wa_cons (w_name 10 rfl (wa_nil ⟨⟨w.P, w.q, w.o, w.ls.take k, pg⟩, w.ls.take k, rfl, rfl, agis_dat agis_nil, (fun _ _ z => (no_raw z).elim), ⟨h.o.ok, hpo, (fun t ht => huq t (hd0m t ht)), Nat.le_trans hd0 (by decide)⟩, fun r s' hr => ?t1⟩))))))
    rcases hr with ⟨hy, _⟩ | ⟨_, rfl, rfl⟩
    · exact absurd hy hnot
    rw [el]
    refine ⟨rfl, rfl, trivial, w_str ⟨_, ⟨_, _, rfl, rfl, rfl⟩, ⟨fun hy => ?_, fun _ => ww_or1 (wt_ww (ww_andB (wt_cmp d_eq (w_draw 1 (F_draw G) (wa_cons (w_name 1 rfl (wa_cons (w_int (wa_nil ⟨_, _, _, _, rfl, rfl, (by refine ⟨?_, ?_, ?_⟩ <;> first | omega | (simp only [List.length_map, List.length_append, List.length_cons, List.length_nil, List.length_take] at *; omega)), fun v hv => (w_int ⟨_, ⟨_, _, rfl, rfl, (by first | rfl | decide +kernel | exact sh_tx _ | exact sh_word _ | exact sh_nm _ | exact sh_deed _ | exact sh_page _ | exact sh_runs _ | exact sh_road _ _ | exact sh_roads _ | exact sh_names _ | exact sh_namesT _ | exact sh_txs _), (by first | rfl | decide +kernel | exact sh_tx _ | exact sh_word _ | exact sh_nm _ | exact sh_deed _ | exact sh_page _ | exact sh_runs _ | exact sh_road _ _ | exact sh_roads _ | exact sh_names _ | exact sh_namesT _ | exact sh_txs _), rfl⟩, ⟨fun hy => ww_and1 ?t2, fun hy => ⟨rfl, n + 1, Nat.le_refl _, rfl⟩⟩⟩)⟩)))))))))⟩⟩⟩
    · rw [same_str] at hy
      cases hy
    case t2 =>
      refine wt_cmp d_neS (w_meth 7 L (F_tell G L) rfl (wa_cons (w_name 10 rfl (wa_nil ⟨⟨w.P, w.q, w.o, d1, pg⟩, d1, rfl, rfl, agis_dat agis_nil, (fun _ _ z => (no_raw z).elim), ⟨h.o.ok, hpo, (fun t ht => huq t (hd1m t ht)), by show d1.length ≤ 1000; omega⟩, fun r s' hr => ?t3⟩))))
      rcases hr with ⟨_, rfl, rfl⟩ | ⟨hy, _⟩
      · exact ⟨rfl, rfl, trivial, w_str ⟨_, ⟨_, _, rfl, rfl, rfl⟩, ⟨same_str _, n + 1, Nat.le_refl _, rfl⟩⟩⟩
      · exact absurd hin hy
  case b3 =>
    subst e2
    refine sd_ifM (fun Γ' => ∃ (m : Nat) (nt' : List (Nat × Int)) (y11 : Sv), Γ' = lawG w m d1 (d1.map pageD) (nt'.map (notedD w)) x5 x6 (.dat (pageD pg)) y11 x12 x13 x14 ∧ m ≤ n + 4 ∧ nt'.length ≤ 8 ∧ ∀ z ∈ nt', z.1 ≤ k + 1)
      (wt_ww (ww_andB (wt_cmp d_lt (w_callB c_len G.b_len (wa_cons (w_name 9 rfl (wa_nil ⟨_, .inl ⟨_, _, rfl, .inr (by first | exact .inr (.inl rfl) | exact .inr (.inr ⟨_, 9, rfl, rfl⟩)), rfl⟩, (w_int ⟨_, ⟨_, _, rfl, rfl, trivial, rfl⟩, ⟨fun h8 => ww_and1 (wt_cmp d_eq (w_draw 1 (F_draw G) (wa_cons (w_name 1 rfl (wa_cons (w_int (wa_nil ⟨_, _, _, _, rfl, rfl, (by refine ⟨?_, ?_, ?_⟩ <;> first | omega | (simp only [List.length_map, List.length_append, List.length_cons, List.length_nil, List.length_take] at *; omega)), fun v hv => (w_int ⟨_, ⟨_, _, rfl, rfl, (by first | rfl | decide +kernel | exact sh_tx _ | exact sh_word _ | exact sh_nm _ | exact sh_deed _ | exact sh_page _ | exact sh_runs _ | exact sh_road _ _ | exact sh_roads _ | exact sh_names _ | exact sh_namesT _ | exact sh_txs _), (by first | rfl | decide +kernel | exact sh_tx _ | exact sh_word _ | exact sh_nm _ | exact sh_deed _ | exact sh_page _ | exact sh_runs _ | exact sh_road _ _ | exact sh_roads _ | exact sh_names _ | exact sh_namesT _ | exact sh_txs _), rfl⟩, ⟨fun hy => ?note, fun hy => sd_nil ⟨m1 + 1, nt, x11, rfl, by omega, hnt, fun z hy => Nat.le_succ_of_le (hz z hy)⟩⟩⟩)⟩))))))), fun h8 => ⟨(fun z => by cases z), fun _ => sd_nil ⟨m1, nt, x11, rfl, by omega, hnt, fun z hy => Nat.le_succ_of_le (hz z hy)⟩⟩⟩⟩)⟩))))))) (fun Γ' hΓ => ?b4)
    case note =>
      have h8' := of_decide_eq_true h8
      rw [List.length_map] at h8'
      refine sd_dat 11 (w_ix (w_lst (wa_cons (w_draw 1 (F_draw G) (wa_cons (w_name 1 rfl (wa_cons (w_int (wa_nil ⟨_, _, _, _, rfl, rfl, (by refine ⟨?_, ?_, ?_⟩ <;> first | omega | (simp only [List.length_map, List.length_append, List.length_cons, List.length_nil, List.length_take] at *; omega)), fun u hu => (wa_cons (w_int (wa_cons (w_neg (w_int ⟨_, rfl, (wa_nil ⟨[_, _, _], rfl, by exact Nat.le_of_ble_eq_true rfl, (w_ix (w_lst (wa_cons (w_int (wa_cons (w_int (wa_cons (w_int (wa_cons (w_int (wa_cons (w_int (wa_nil ⟨[_, _, _, _, _], rfl, by exact Nat.le_of_ble_eq_true rfl, (w_draw 1 (F_draw G) (wa_cons (w_name 1 rfl (wa_cons (w_int (wa_nil ⟨_, _, _, _, rfl, rfl, (by refine ⟨?_, ?_, ?_⟩ <;> first | omega | (simp only [List.length_map, List.length_append, List.length_cons, List.length_nil, List.length_take] at *; omega)), fun y hy => (?ix)⟩))))))⟩)))))))))))))⟩)⟩)))))⟩)))))))))
      obtain ⟨ix, hix, hat⟩ := ints_at (l := [0, 0, 0, 1, 2]) (v := y) (by show y < 5; omega)
      obtain ⟨day, hday⟩ : ∃ day : Int, L2.atI [PyData.int u, .int 99999, .int (-1)] ix = some (.int day) := by
        simp only [List.mem_cons, List.not_mem_nil, or_false] at hix
        rcases hix with rfl | rfl | rfl | rfl | rfl <;> exact ⟨_, rfl⟩
      refine ⟨_, _, _, .inr (.inr (.inl rfl)), rfl, hat, ⟨_, _, _, .inr (.inr (.inl rfl)), rfl, hday, ⟨_, rfl, ?_⟩⟩⟩
      show Sd _ (lawG w (m1 + 1 + 1 + 1) d1 (d1.map pageD) (nt.map (notedD w)) x5 x6 (.dat (pageD pg)) (.dat (.int day)) x12 x13 x14) [_] _
      refine sd_append 9 rfl (wa_cons (w_tup (wa_cons (w_callB c_len G.b_len (wa_cons (w_name 8 rfl (wa_nil ⟨_, .inl ⟨_, _, rfl, .inr (by first | exact .inr (.inl rfl) | exact .inr (.inr ⟨_, 8, rfl, rfl⟩)), rfl⟩, (wa_cons (w_name 11 rfl (wa_cons (w_callGT (F_law_seen G) (wa_cons (w_name 2 rfl (wa_cons (w_meth0 7 L (F_book G L) rfl ⟨⟨w.P, w.q, w.o, d1⟩, rfl, rfl, ⟨hnd1, by show d1.length ≤ 1000; omega⟩, fun r s' hr => ?mb⟩))))))))⟩)))))))
      obtain ⟨rfl, rfl⟩ := hr
      refine ⟨rfl, rfl, trivial, (wa_cons (w_name 11 rfl (wa_cons (w_name 4 rfl (wa_nil ⟨⟨w.o, pgSort d1, day, w.notes⟩, agis_dat (agis_dat (agis_dat (agis_lst (.inr (.inr ⟨_, 4, rfl, rfl⟩)) agis_nil))), hsn day, fun r e => ?ms⟩)))))⟩
      subst e
      refine wa_nil ⟨[_, _, _], rfl, by exact Nat.le_of_ble_eq_true rfl, wa_nil ⟨_, _, rfl, rfl, by rw [List.length_map]; omega, sd_nil ⟨m1 + 1 + 1 + 1, nt ++ [(k + 1, day)], .dat (.int day), ?eq, by omega, by rw [List.length_append, List.length_singleton]; omega, fun z hy => ?zz⟩⟩⟩
      case eq =>
        rw [List.map_append]
        show _ = lawG w _ d1 _ (nt.map (notedD w) ++ [notedD w (k + 1, day)]) _ _ _ _ _ _ _
        rw [en] <;> rfl
      case zz =>
        rcases List.mem_append.mp hy with y | y
        · exact Nat.le_succ_of_le (hz z y)
        · rw [List.mem_singleton.mp y]
          exact Nat.le_refl _
    case b4 =>
      obtain ⟨m2, nt2, y11, e, hm2, hnl2, hz2⟩ := hΓ
      subst e
      refine sd_ifF (WT.imp (ΦT := fun kk Γ' => kk = false ∧ ∃ m, m ≤ m2 + 1 ∧ Γ' = lawG w m d1 (d1.map pageD) (nt2.map (notedD w)) x5 x6 (.dat (pageD pg)) y11 x12 x13 x14) ?c2 fun kk Γ' ⟨e1, m3, hm3, e2⟩ => ⟨e1, ?b5⟩)
      case c2 =>
        refine wt_ww (ww_andB (wt_cmp d_eq (w_draw 1 (F_draw G) (wa_cons (w_name 1 rfl (wa_cons (w_int (wa_nil ⟨_, _, _, _, rfl, rfl, (by refine ⟨?_, ?_, ?_⟩ <;> first | omega | (simp only [List.length_map, List.length_append, List.length_cons, List.length_nil, List.length_take] at *; omega)), fun v hv => (w_int ⟨_, ⟨_, _, rfl, rfl, (by first | rfl | decide +kernel | exact sh_tx _ | exact sh_word _ | exact sh_nm _ | exact sh_deed _ | exact sh_page _ | exact sh_runs _ | exact sh_road _ _ | exact sh_roads _ | exact sh_names _ | exact sh_namesT _ | exact sh_txs _), (by first | rfl | decide +kernel | exact sh_tx _ | exact sh_word _ | exact sh_nm _ | exact sh_deed _ | exact sh_page _ | exact sh_runs _ | exact sh_road _ _ | exact sh_roads _ | exact sh_names _ | exact sh_namesT _ | exact sh_txs _), rfl⟩, ⟨fun hy => ww_and1 (wt_ww (ww_orB (wt_cmp d_ne (w_meth0 (l0 := d1) 7 L (F_back G L) rfl ⟨⟨w.P, w.q, w.o, w.ls.take k, pg⟩, ?own, rfl, trivial, fun r s' hr => ?k1⟩)))), fun hy => ⟨rfl, m2 + 1, Nat.le_refl _, rfl⟩⟩⟩)⟩))))))))
        case own => rw [← et]
        case k1 =>
          obtain ⟨rfl, rfl⟩ := hr
          refine ⟨by rw [← et] <;> rfl, rfl, trivial, (w_ixk 0 (w_name 10 rfl ⟨_, _, (.inl rfl), rfl, ⟨_, ⟨_, _, rfl, rfl, sh_nm _, sh_nm _, rfl⟩, ⟨fun hy => ?_, fun _ => ww_or1 ?t4⟩⟩⟩))⟩
          · have hy' : (!PyData.eqv (nmD pg.nm) (nmD pg.nm)) = true := hy
            rw [eqv_nm, decide_eq_true rfl] at hy'
            cases hy'
          case t4 =>
            refine wt_cmp d_neS (w_meth 7 L (F_tell G L) rfl (wa_cons (w_name 10 rfl (wa_nil ⟨⟨w.P, w.q, w.o, w.ls.take k, pg⟩, w.ls.take k, rfl, rfl, agis_dat agis_nil, (fun _ _ z => (no_raw z).elim), ⟨h.o.ok, hpo, (fun t ht => huq t (hd0m t ht)), Nat.le_trans hd0 (by decide)⟩, fun r s' hr => ?t5⟩))))
            rcases hr with ⟨hy, _⟩ | ⟨_, rfl, rfl⟩
            · exact absurd hy hnot
            rw [el]
            exact ⟨rfl, rfl, trivial, w_str ⟨_, ⟨_, _, rfl, rfl, rfl⟩, ⟨same_str _, m2 + 1, Nat.le_refl _, rfl⟩⟩⟩
      case b5 =>
        subst e2
        have fin : ∀ (n' : Nat) (z11 z12 z13 : Sv), n' ≤ n0 + 12 * (k + 1) → LwSt w n0 (k + 1) (lawG w n' d1 (d1.map pageD) (nt2.map (notedD w)) x5 x6 (.dat (pageD pg)) z11 z12 z13 x14) := fun n' z11 z12 z13 hn' => by
          rw [← hdn]
          exact ⟨n', nt2, x5, x6, .dat (pageD pg), z11, z12, z13, x14, rfl, hn', hnl2, hz2⟩
        refine sd_ifM (LwSt w n0 (k + 1)) (wt_cmp d_eq (w_draw 1 (F_draw G) (wa_cons (w_name 1 rfl (wa_cons (w_int (wa_nil ⟨_, _, _, _, rfl, rfl, (by refine ⟨?_, ?_, ?_⟩ <;> first | omega | (simp only [List.length_map, List.length_append, List.length_cons, List.length_nil, List.length_take] at *; omega)), fun v hv => (w_int ⟨_, ⟨_, _, rfl, rfl, (by first | rfl | decide +kernel | exact sh_tx _ | exact sh_word _ | exact sh_nm _ | exact sh_deed _ | exact sh_page _ | exact sh_runs _ | exact sh_road _ _ | exact sh_roads _ | exact sh_names _ | exact sh_namesT _ | exact sh_txs _), (by first | rfl | decide +kernel | exact sh_tx _ | exact sh_word _ | exact sh_nm _ | exact sh_deed _ | exact sh_page _ | exact sh_runs _ | exact sh_road _ _ | exact sh_roads _ | exact sh_names _ | exact sh_namesT _ | exact sh_txs _), rfl⟩, ⟨fun hy => ?th, fun hy => sd_nil (fin (m3 + 1) _ _ _ (by omega))⟩⟩)⟩))))))) (fun Γ' hΓ => sd_nil hΓ)
        show Sd _ _ [_, _] _
        refine sd_tg (.many [12, 11, 13]) (tg_three 12 11 13) (w_ifB (wt_cmp d_gt (w_callB c_len G.b_len (wa_cons (w_name 9 rfl (wa_nil ⟨_, .inl ⟨_, _, rfl, .inr (by first | exact .inr (.inl rfl) | exact .inr (.inr ⟨_, 9, rfl, rfl⟩)), rfl⟩, (w_int ⟨_, ⟨_, _, rfl, rfl, trivial, rfl⟩, ⟨fun h0 => ?some, fun h0 => (w_tup (wa_cons (w_int (wa_cons (w_int (wa_cons (w_non (wa_nil ⟨[_, _, _], rfl, by exact Nat.le_of_ble_eq_true rfl, ⟨_, rfl, ⟨_, rfl, rfl⟩, ?none⟩⟩))))))))⟩⟩)⟩))))))
        case none =>
          show Sd _ (lawG w (m3 + 1) d1 (d1.map pageD) (nt2.map (notedD w)) x5 x6 (.dat (pageD pg)) (.dat (.int 0)) (.dat (.int 0)) (.dat .none) x14) [_] _
          exact sd_ifF (wt_ww (ww_andB (wt_cmp d_notN (w_name 13 rfl (w_non ⟨_, ⟨_, rfl, rfl, rfl⟩, ⟨(fun hy => by cases hy), fun _ => ⟨rfl, sd_nil (fin (m3 + 1) _ _ _ (by omega))⟩⟩⟩)))))
        case some =>
          have h0' := of_decide_eq_true h0
          rw [List.length_map] at h0'
          have h00 : 0 < nt2.length := by omega
          refine w_ix (w_name 9 rfl (w_draw 1 (F_draw G) (wa_cons (w_name 1 rfl (wa_cons (w_callB c_len G.b_len (wa_cons (w_name 9 rfl (wa_nil ⟨_, .inl ⟨_, _, rfl, .inr (by first | exact .inr (.inl rfl) | exact .inr (.inr ⟨_, 9, rfl, rfl⟩)), rfl⟩, (wa_nil ⟨_, _, _, _, rfl, rfl, (by refine ⟨?_, ?_, ?_⟩ <;> first | omega | (simp only [List.length_map, List.length_append, List.length_cons, List.length_nil, List.length_take] at *; omega)), fun x hx => (?sel)⟩)⟩)))))))))
          obtain ⟨z, hzm, hat⟩ := data_at (f := notedD w) (l := nt2) (v := x) (by rw [List.length_map] at hx; omega)
          have hzk := hz2 z hzm
          refine ⟨_, _, _, .inr (.inr (.inr ⟨_, 9, rfl, rfl⟩)), rfl, hat, ⟨_, rfl, ⟨_, rfl, rfl⟩, ?_⟩⟩
          show Sd _ (lawG w (m3 + 1 + 1) d1 (d1.map pageD) (nt2.map (notedD w)) x5 x6 (.dat (pageD pg)) (.dat (.int z.2)) (.dat (.int z.1)) (.dat (.str (seenT ⟨w.o, pgSort (w.ls.take z.1), z.2, w.notes⟩))) x14) [_] _
          refine sd_ifF (wt_ww (ww_andB (wt_cmp d_notN (w_name 13 rfl (w_non ⟨_, ⟨_, rfl, rfl, rfl⟩, ⟨fun _ => ww_and1 (wt_cmp d_neS (w_callGT (F_law_seen G) (wa_cons (w_name 2 rfl (wa_cons (w_meth 7 L (F_then G L) rfl (wa_cons (w_name 12 rfl (wa_nil ⟨⟨w.P, w.q, w.o, d1, z.1⟩, d1, rfl, rfl, agis_dat agis_nil, (fun _ _ z => (no_raw z).elim), ⟨hnd1, by show d1.length ≤ 1000; omega, by show z.1 ≤ d1.length; omega⟩, fun r s' hr => ?th1⟩))))))))), (fun hy => by cases hy)⟩⟩)))))
          obtain ⟨rfl, rfl⟩ := hr
          refine ⟨rfl, rfl, trivial, (wa_cons (w_name 11 rfl (wa_cons (w_name 4 rfl (wa_nil ⟨⟨w.o, pgSort (d1.take z.1), z.2, w.notes⟩, agis_dat (agis_dat (agis_dat (agis_lst (.inr (.inr ⟨_, 4, rfl, rfl⟩)) agis_nil))), by rw [hz1 z hzk]; exact h.seen z.1 z.2, fun r e => ?th2⟩)))))⟩
          subst e
          exact (w_name 13 rfl ⟨_, ⟨_, _, rfl, rfl, rfl⟩, ⟨by rw [hz1 z hzk]; exact same_str _, sd_nil (fin (m3 + 1 + 1) _ _ _ (by omega))⟩⟩)
end K83
set_option maxRecDepth 100000
set_option maxHeartbeats 2000000
namespace K83
open PySem PySem.Spec PyProof.Rows L2
/-! ## the law -/
theorem ite_10 (c : Bool) : 1 ≤ (if c = true then 18 else 10 : Nat) := by cases c <;> decide
theorem ite_18 (c : Bool) : (if c = true then 18 else 10 : Nat) ≤ 18 := by cases c <;> decide


theorem sc_lawE : FnScope ["_law_script", "_law_feed_here", "_law_office_here", "_law_book_here", "_law_notes", "_law_series", "_law_worth", "_law_ledger", "_law_pages", "_law_noted", "_law_page", "_law_day", "_law_many", "_law_due", "_law_number"] ["_law_script"] (defScope (topS 76)) := ⟨rfl, rfl, rfl, by decide +kernel, rfl, by decide +kernel, by decide +kernel⟩
theorem law_fin {g : Gv} (G : GL g) {w : LwI} (L : LedAt g w.C) (h : LwOk w) {n : Nat} {nt : List PyData} {x5 x6 x10 x14 : Sv} {z : Nat × Int} (hz : z.1 ≤ w.ls.length) {M : List Sv → Prop} {N : List Sv → Prop} (hN : ∀ x11 x12 x13, N (lawG w n w.ls (w.ls.map pageD) nt x5 x6 x10 x11 x12 x13 x14)) :
    Sd (cLaw g) (lawG w n w.ls (w.ls.map pageD) nt x5 x6 x10 (.dat (.int z.2)) (.dat (.int z.1)) (.dat (.str (seenT ⟨w.o, pgSort (w.ls.take z.1), z.2, w.notes⟩))) x14) (forB (lawS 8)) { poT with nx := N, ct := N, bk := M } := by
  have hl18 := h.len
  have hsn := h.seen z.1 z.2
  show Sd _ _ [_, _] _
  refine sd_ifF (wt_cmp d_neS (w_callGT (F_law_seen G) (wa_cons (w_name 2 rfl (wa_cons (w_meth 7 L (F_then G L) rfl (wa_cons (w_name 12 rfl (wa_nil ⟨⟨w.P, w.q, w.o, w.ls, z.1⟩, w.ls, rfl, rfl, agis_dat agis_nil, (fun _ _ z => (no_raw z).elim), ⟨h.nd, by show w.ls.length ≤ 1000; omega, hz⟩, fun r s' hr => ?th1⟩)))))))))
  obtain ⟨rfl, rfl⟩ := hr
  refine ⟨rfl, rfl, trivial, (wa_cons (w_name 11 rfl (wa_cons (w_name 4 rfl (wa_nil ⟨⟨w.o, pgSort (w.ls.take z.1), z.2, w.notes⟩, agis_dat (agis_dat (agis_dat (agis_lst (.inr (.inr ⟨_, 4, rfl, rfl⟩)) agis_nil))), hsn, fun r e => ?th2⟩)))))⟩
  subst e
  refine (w_name 13 rfl ⟨_, ⟨_, _, rfl, rfl, rfl⟩, ⟨same_str _, ?_⟩⟩)
  show Sd _ (lawG w n w.ls (w.ls.map pageD) nt x5 x6 x10 (.dat (.int z.2)) (.dat (.int z.1)) (.dat (.str (seenT ⟨w.o, pgSort (w.ls.take z.1), z.2, w.notes⟩))) x14) [_] _
  refine sd_ifF (wt_cmp d_neS (w_callGT (F_law_seen G) (wa_cons (w_name 2 rfl (wa_cons (w_callD (F_book_of G.toGF) (wa_cons (w_slHi (w_name 8 rfl (w_name 12 rfl ⟨z.1, _, rfl, .inr ⟨.inr (.inr ⟨_, 8, rfl, rfl⟩), wa_nil ⟨w.ls.take z.1, agis_lst (.inr (.inl (by rw [List.map_take] <;> rfl))) agis_nil, ⟨h.takeNd _, by have := h.takeLen z.1; omega⟩, ?sb⟩⟩⟩))))))))))
  refine (wa_cons (w_name 11 rfl (wa_cons (w_name 4 rfl (wa_nil ⟨⟨w.o, pgSort (w.ls.take z.1), z.2, w.notes⟩, agis_dat (agis_dat (agis_dat (agis_lst (.inr (.inr ⟨_, 4, rfl, rfl⟩)) agis_nil))), hsn, fun r e => ?th3⟩)))))
  subst e
  exact (w_name 13 rfl ⟨_, ⟨_, _, rfl, rfl, rfl⟩, ⟨same_str _, sd_nil (hN _ _ _)⟩⟩)
theorem law_ret {g : Gv} (G : GL g) {w : LwI} (L : LedAt g w.C) (h : LwOk w) {n : Nat} {nt : List PyData} {x5 x6 x10 x11 x12 x13 x14 : Sv} : Sd (cLaw g) (lawG w n w.ls (w.ls.map pageD) nt x5 x6 x10 x11 x12 x13 x14) [lawS 9] poT := by
  have hl18 := h.len
  have hfin := h.fin
  have hsh : ShowD (.list [bookD w.b, .int w.b.length]) := by
    have h1 : Sm 6 167000 (.list [bookD w.b, .int w.b.length]) := (sm_list (sma_cons (sm_book h.b.ok h.b.len) (sma_cons ((sm_int (i := (w.b.length : Int)) (by have := h.b.len; omega)).up 5) (sma_nil.mono (Nat.zero_le _) (Nat.le_refl _))))).mono
    exact sm_show h1
  refine sd_ret (w_same (F_law_same G) (wa_cons (w_lst (wa_cons (w_meth0 7 L (F_book G L) rfl ⟨⟨w.P, w.q, w.o, w.ls⟩, rfl, rfl, ⟨h.nd, by show w.ls.length ≤ 1000; omega⟩, fun r s' hr => ?m1⟩)))))
  obtain ⟨rfl, rfl⟩ := hr
  refine ⟨rfl, rfl, trivial, wa_cons (w_meth0 7 L (F_told G L) rfl ⟨⟨w.P, w.q, w.o, w.ls⟩, rfl, rfl, trivial, fun r s' hr => ?m2⟩)⟩
  obtain ⟨rfl, rfl⟩ := hr
  refine ⟨rfl, rfl, trivial, wa_nil ⟨[_, _], rfl, by exact Nat.le_of_ble_eq_true rfl, (wa_cons (w_lst (wa_cons (w_name 3 rfl (wa_cons (w_callB c_len G.b_len (wa_cons (w_name 3 rfl (wa_nil ⟨_, .inl ⟨_, _, rfl, .inl rfl, rfl⟩, (wa_nil ⟨[_, _], rfl, by exact Nat.le_of_ble_eq_true rfl, (wa_nil ⟨_, _, [bookD w.b, .int w.b.length], rfl, ?f1, ?f2, hsh, rfl⟩)⟩)⟩)))))))))⟩⟩
  case f1 =>
    show FzS (.lst [bookD (pgSort w.ls), .int w.ls.length]) _
    rw [hfin, h.pm.length_eq]
    exact fzs_lst
  case f2 =>
    show FzS (.lst [bookD w.b, .int (w.b.map pageD).length]) _
    rw [List.length_map]
    exact fzs_lst
theorem law_rest {g : Gv} (G : GL g) {f S : Addr} : Sd (cLaw g) [.no, .feed f S 0, .no, .no, .no, .no, .no, .no, .no, .no, .no, .no, .no, .no, .no] (defBody (topS 76)).tail poT := by
  show Sd _ _ [_, _, _, _, _, _, _, _, _] _
  refine sd_dat 2 (w_callF 1 (F_law_office G) (wa_cons (w_name 1 rfl (wa_nil ⟨_, _, _, (), _, rfl, rfl, (by omega), agis_nil, trivial, fun o n1 ho hn1 => ⟨by first | exact trivial | rfl, ⟨_, rfl, ?_⟩⟩⟩))))
  show Sd _ [.no, .feed f S n1, .dat (officeD o), .no, .no, .no, .no, .no, .no, .no, .no, .no, .no, .no, .no] [_, _, _, _, _, _, _, _] _
  refine sd_dat 3 (w_callF 1 (F_law_book G) (wa_cons (w_name 1 rfl (wa_cons (w_name 2 rfl (wa_cons (w_ix (w_lst (wa_cons (w_int (wa_cons (w_int (wa_nil ⟨[_, _], rfl, by exact Nat.le_of_ble_eq_true rfl, (w_callTy c_intB G.b_int (wa_cons (w_cmp d_eq (w_draw 1 (F_draw G) (wa_cons (w_name 1 rfl (wa_cons (w_int (wa_nil ⟨_, _, _, _, rfl, rfl, (by refine ⟨?_, ?_, ?_⟩ <;> first | omega | (simp only [List.length_map, List.length_append, List.length_cons, List.length_nil, List.length_take] at *; omega)), fun v hv => (w_int ⟨_, ⟨_, _, rfl, rfl, (by first | rfl | decide +kernel | exact sh_tx _ | exact sh_word _ | exact sh_nm _ | exact sh_deed _ | exact sh_page _ | exact sh_runs _ | exact sh_road _ _ | exact sh_roads _ | exact sh_names _ | exact sh_namesT _ | exact sh_txs _), (by first | rfl | decide +kernel | exact sh_tx _ | exact sh_word _ | exact sh_nm _ | exact sh_deed _ | exact sh_page _ | exact sh_runs _ | exact sh_road _ _ | exact sh_roads _ | exact sh_names _ | exact sh_namesT _ | exact sh_txs _), rfl⟩, (wa_nil ⟨_, ⟨_, rfl, rfl⟩, ⟨_, _, _, (.inr (by first | exact .inl rfl | exact .inr (.inl rfl))), rfl, (pick_nat 10 18 _), (wa_nil ⟨_, _, _, (o, _), _, rfl, rfl, (by omega), agis_dat (agis_dat (agis_nil)), ⟨ho, ?x1, ?x2⟩, fun b n2 hb hn2 => ⟨by first | exact trivial | rfl, ⟨_, rfl, ?_⟩⟩⟩)⟩⟩)⟩)⟩)))))))))⟩)))))))))))))
  case x1 => exact ite_10 _
  case x2 => exact ite_18 _
  have hb : BookGood o b := hb
  have hb18 := hb.len
  show Sd _ [.no, .feed f S n2, .dat (officeD o), .dat (bookD b), .no, .no, .no, .no, .no, .no, .no, .no, .no, .no, .no] [_, _, _, _, _, _, _] _
  refine sd_own 4 (w_lst (wa_nil ⟨[], rfl, by exact Nat.le_of_ble_eq_true rfl, ⟨_, rfl, fun qn => ?_⟩⟩))
  refine sd_for (.many [5, 6]) (fun Γ' => ∃ (notes : List Note) (x5 x6 x14 : Sv), Γ' = [.no, .feed f S n2, .dat (officeD o), .dat (bookD b), .own qn (notes.map noteD), x5, x6, .no, .no, .no, .no, .no, .no, .no, x14] ∧ notes.length ≤ 8)
    (wi_tup (w_slHi (w_ixk 0 (w_name 2 rfl ⟨_, _, (.inl rfl), rfl, (w_int ⟨2, _, rfl, .inl ⟨rfl, ⟨_, rfl, fun k Γk => ∃ (notes : List Note) (x5 x6 x14 : Sv), Γk = [.no, .feed f S n2, .dat (officeD o), .dat (bookD b), .own qn (notes.map noteD), x5, x6, .no, .no, .no, .no, .no, .no, .no, x14] ∧ notes.length ≤ 4 * k, ⟨[], _, _, _, rfl, Nat.le_refl _⟩, ?step, ?last⟩⟩⟩)⟩)))) ?rest (tg_two 5 6)
  case step =>
    intro k d Γk hk ⟨notes, x5, x6, x14, e, hl⟩
    subst e
    rw [← List.map_take] at hk
    obtain ⟨wt, hw, rfl⟩ := map_at hk
    have hk2 : k < 2 := by
      have := (List.getElem?_eq_some_iff.mp hw).1
      rw [List.length_take] at this
      omega
    refine ⟨⟨_, rfl, rfl⟩, ?_⟩
    show Sd _ [.no, .feed f S n2, .dat (officeD o), .dat (bookD b), .own qn (notes.map noteD), .dat (.str wt.1.1), .dat (.int wt.2), .no, .no, .no, .no, .no, .no, .no, x14] [_] _
    refine sd_extend 4 rfl (wa_cons (w_lc (.one 14) [("_law_number", 14)] (wi_tup (w_tup (wa_cons (w_int (wa_cons (w_int (wa_cons (w_int (wa_cons (w_op d_sub (w_op d_pow (w_int (w_int ⟨_, ⟨_, _, rfl, rfl, (by first | trivial | decide | exact .inl (by decide) | exact ⟨by decide, by decide, by decide⟩), rfl⟩, (w_int ⟨_, ⟨_, _, rfl, rfl, trivial, rfl⟩, (wa_nil ⟨[_, _, _, _], rfl, by exact Nat.le_of_ble_eq_true rfl, ⟨_, rfl, lcE (show _ = List.map PyData.int [0, 3, 7, (10 : Int) ^ (9 : Int).toNat - 1] from rfl) <| lcM (bs := [0, 3, 7, (10 : Int) ^ (9 : Int).toNat - 1]) (f := PyData.int) (g := fun y => noteD ⟨wt.1, y⟩) ?e1 ?e2 (by decide) (wa_nil ⟨_, _, _, rfl, .inr (.inl rfl), rfl, ?e3, sd_nil ⟨notes ++ [0, 3, 7, (10 : Int) ^ (9 : Int).toNat - 1].map (fun y => (⟨wt.1, y⟩ : Note)), .dat (.str wt.1.1), .dat (.int wt.2), .no, ?e4, ?e5⟩⟩)⟩⟩)⟩)⟩))))))))))))) (tg_one 14) (by show BlkOk ["_law_script", "_law_feed_here", "_law_office_here", "_law_book_here", "_law_notes", "_law_series", "_law_worth", "_law_ledger", "_law_pages", "_law_noted", "_law_page", "_law_day", "_law_many", "_law_due", "_law_number"] (defScope (topS 76)) _ _; exact ⟨rfl, by decide +kernel, by decide +kernel, by decide +kernel, by decide +kernel⟩)))
    case e1 => decide
    case e2 =>
      intro y _
      exact ⟨trivial, (w_tup (wa_cons (w_name 5 rfl (wa_cons (w_name 14 rfl (wa_nil ⟨[_, _], rfl, by exact Nat.le_of_ble_eq_true rfl, ⟨rfl, rfl⟩⟩))))))⟩
    case e3 =>
      rw [List.length_map, List.length_map]
      show notes.length + 4 ≤ 1000000
      omega
    case e4 => rw [List.map_append, List.map_map] <;> rfl
    case e5 =>
      rw [List.length_append, List.length_map]
      show notes.length + 4 ≤ 4 * (k + 1)
      omega
  case last =>
    intro Γ' ⟨notes, x5, x6, x14, e, hl⟩
    rw [List.length_take] at hl
    exact ⟨notes, x5, x6, x14, e, by omega⟩
  case rest =>
    intro Γ' ⟨notes, x5, x6, x14, e, hnl⟩
    subst e
    obtain ⟨C, L⟩ := G.led
    refine sd_made 7 L (F_init L) (wa_cons (w_name 2 rfl (wa_nil ⟨o, rfl, fun P q => ?_⟩)))
    refine sd_parNew 8 9 (w_lst (wa_nil ⟨[], rfl, by exact Nat.le_of_ble_eq_true rfl, ⟨_, rfl, fun pp pn => ?_⟩⟩)) (hil := by show 8 < 15; decide) (hjl := by show 9 < 15; decide)
    show Sd _ [.no, .feed f S n2, .dat (officeD o), .dat (bookD b), .own qn (notes.map noteD), x5, x6, ledS C P q o [], .own pp [], .own pn [], .no, .no, .no, .no, x14] [_, _, _] _
    refine sd_for (.one 10) (fun Γ' => ∃ (ls : List Page) (n3 : Nat), LwOk ⟨f, S, C, P, q, pp, pn, qn, o, b, notes, ls⟩ ∧ LwSt ⟨f, S, C, P, q, pp, pn, qn, o, b, notes, ls⟩ n3 ls.length Γ') (wi_lst (w_callF 1 (F_law_stirred G) (wa_cons (w_name 1 rfl (wa_cons (w_name 3 rfl (wa_nil ⟨_, _, _, b, _, rfl, rfl, (by omega), agis_dat (agis_nil), hb.len, fun ls n3 hls hn3 => ⟨by first | exact trivial | rfl, ⟨_, .inl rfl, ?main⟩⟩⟩))))))) ?fin (tg_one 10)
    case main =>
      have hls : ls.Perm b := hls
      have h : LwOk ⟨f, S, C, P, q, pp, pn, qn, o, b, notes, ls⟩ := ⟨ho, hb, hls, hnl⟩
      refine ⟨LwSt ⟨f, S, C, P, q, pp, pn, qn, o, b, notes, ls⟩ n3, ⟨n3, [], x5, x6, .no, .no, .no, .no, x14, rfl, Nat.le_refl _, by decide, fun z hz => by cases hz⟩, fun k d Γk hk ⟨n, nt, y5, y6, y10, y11, y12, y13, y14, e, hn, hnt, hz⟩ => ?_, fun Γ' hG => ⟨ls, n3, h, ?_⟩⟩
      · subst e
        obtain ⟨pg, hpg, rfl⟩ := map_at hk
        exact ⟨trivial, law_body G (w := ⟨f, S, C, P, q, pp, pn, qn, o, b, notes, ls⟩) L h hpg (by omega) hn hnt hz⟩
      · rw [List.length_map] at hG
        exact hG
    case fin =>
      intro Γ' ⟨ls, n3, h, n, nt, y5, y6, y10, y11, y12, y13, y14, e, hn, hnt, hz⟩
      rw [show (LwI.ls ⟨f, S, C, P, q, pp, pn, qn, o, b, notes, ls⟩).take ls.length = ls from List.take_length] at e
      subst e
      show Sd _ (lawG ⟨f, S, C, P, q, pp, pn, qn, o, b, notes, ls⟩ n ls (ls.map pageD) (nt.map (notedD _)) y5 y6 y10 y11 y12 y13 y14) [_, _] _
      refine sd_forOwn (.many [12, 11, 13]) (fun Γ' => ∃ z11 z12 z13, Γ' = lawG ⟨f, S, C, P, q, pp, pn, qn, o, b, notes, ls⟩ n ls (ls.map pageD) (nt.map (notedD ⟨f, S, C, P, q, pp, pn, qn, o, b, notes, ls⟩)) y5 y6 y10 z11 z12 z13 y14) (w_name 9 rfl ⟨pn, nt.map (notedD ⟨f, S, C, P, q, pp, pn, qn, o, b, notes, ls⟩), fun k Γk => ∃ z11 z12 z13, Γk = lawG ⟨f, S, C, P, q, pp, pn, qn, o, b, notes, ls⟩ n ls (ls.map pageD) (nt.map (notedD ⟨f, S, C, P, q, pp, pn, qn, o, b, notes, ls⟩)) y5 y6 y10 z11 z12 z13 y14, rfl, ⟨_, _, _, rfl⟩, ?own, ?stp, fun Γ' hG => hG⟩) ?ret (tg_three 12 11 13)
      case own =>
        intro k Γk _ ⟨z11, z12, z13, e⟩
        subst e
        exact ⟨9, rfl⟩
      case stp =>
        intro k d Γk hk ⟨z11, z12, z13, e⟩
        subst e
        obtain ⟨z, hzz, rfl⟩ := map_at hk
        exact ⟨⟨_, rfl, rfl⟩, law_fin G (w := ⟨f, S, C, P, q, pp, pn, qn, o, b, notes, ls⟩) L h (z := z) (hz z (List.mem_of_getElem? hzz)) fun z11 z12 z13 => ⟨z11, z12, z13, rfl⟩⟩
      case ret =>
        intro Γ' ⟨z11, z12, z13, e⟩
        subst e
        exact law_ret G (w := ⟨f, S, C, P, q, pp, pn, qn, o, b, notes, ls⟩) L h
end K83
set_option maxRecDepth 100000
set_option maxHeartbeats 2000000
namespace K83
open PySem PySem.Spec PyProof.Rows L2
/-! ## the law as a def -/
def spLaw (K : PySem.W.Frag) : Sp := fun vs H Q _ => ∃ (t : Addr) (ns : List Int), vs = [.ref t] ∧ SqL K H t (ns.map V.int) ∧ ns.length ≤ 63 ∧ ∀ H', Q (.bl true) H'
theorem F_law {g : Gv} (G : GL g) {f : Addr} {fd : FuncData} (F : FunD g.K "law" "law" (defArgs (topS 76)) (defBody (topS 76)) (defScope (topS 76)) [] [] f fd) : FnGOk g 8 f fd ["_law_script"] (spLaw g.K) := by
  refine fnG_of (k := 7) F sc_law (fun vs H Q E ⟨t, ns, e, _⟩ => by rw [e] <;> rfl) fun vs H Q E ⟨t, ns, e, hs, hl, q⟩ X hX => ?_
  subst e
  obtain ⟨f1, fd1, ps1, F1, gm, kp, bd⟩ := (F_law_feed G).ex
  have F1' : FnOk X.prog X.w X.K X.mg X.base CX0 1 f1 fd1 ps1 (spFeed g.K) := by
    rw [hX.P, hX.w, hX.K, hX.mg, hX.base]
    exact F1
  show WSs X [_, _, _, _, _, _, _, _, _, _] _ _ _
  refine (pss_cons (ps_set (i := 1) hX.ndX (hX.at_ rfl) (by rw [hX.sc]; exact .inl rfl) (pe_call (ds := []) (dvs := []) F1' (hX.room.mono (by show 1 ≤ 7; decide)) (hX.gl rfl) (by rw [hX.mg]; exact gm) (by rw [hX.K]; exact kp) (by rw [hX.K]; exact bd) .nil (pass0 (X := X)) (pa_cons (pe_var (i := 0) (hX.at_ rfl) (hX.vis (.inl rfl)) (by decide) (by decide)) pa_nil (by rfl)) (by decide) (by rfl) (by rfl)) (by rfl) (.inl (hX.fn rfl _))) pss_ws).wss ?_
  refine ⟨.ref t, rfl, t, ns, rfl, hs, hl, fun f2 S H' hf hS hne e => ?_⟩
  have hfS : upd H S (.lst (ns.map V.int)) f2 = none := by rw [upd_ne hne]; exact hf
  have k0 : Kn (upd H S (.lst (ns.map V.int))) [.no, .feed f2 S 0, .no, .no, .no, .no, .no, .no, .no, .no, .no, .no, .no, .no, .no] ((L2.start ["_law_script", "_law_feed_here", "_law_office_here", "_law_book_here", "_law_notes", "_law_series", "_law_worth", "_law_ledger", "_law_pages", "_law_noted", "_law_page", "_law_day", "_law_many", "_law_due", "_law_number"] [.ref t]).set 1 (some (.ref f2))) H' := by
    refine ⟨rfl, ?_, fun i s hi => ?_, fun i j si sj p hi hj pi pj => ?_⟩
    · rw [e]
      exact Same.new hfS
    · match i, hi with
      | 0, hi => cases hi; trivial
      | 1, hi =>
        cases hi
        exact ⟨rfl, hfS, 0, 0, ns, by rw [e, upd_same], upd_same, Int.le_refl _, Int.le_refl _, Int.le_refl _, hl⟩
      | i + 2, hi =>
        have : s = .no := by
          have hm := List.mem_of_getElem? (show (List.replicate 13 Sv.no)[i]? = some s from hi)
          exact (List.mem_replicate.mp hm).2
        subst this
        trivial
    · have only : ∀ (m : Nat) (s : Sv), ([.no, .feed f2 S 0, .no, .no, .no, .no, .no, .no, .no, .no, .no, .no, .no, .no, .no] : List Sv)[m]? = some s → s.ptr ≠ none → m = 1 := fun m s hm hp => by
        match m, hm with
        | 0, hm => cases hm; exact absurd rfl hp
        | 1, _ => rfl
        | m + 2, hm =>
          have : s = .no := (List.mem_replicate.mp (List.mem_of_getElem? (show (List.replicate 13 Sv.no)[m]? = some s from hm))).2
          rw [this] at hp
          exact absurd rfl hp
      rw [only i si hi (by rw [pi]; exact fun z => nomatch z), only j sj hj (by rw [pj]; exact fun z => nomatch z)]
  refine law_rest G (f := f2) (S := S) X hX _ _ H' k0 _ ⟨fun H0' r v Γ σ H'' s e S o => ?_, fun _ _ _ _ _ z => z.elim, fun _ _ _ _ _ z => z.elim, fun _ _ _ _ _ z => z.elim⟩
  subst e
  rw [Is.blInv o]
  exact q H''
end K83
set_option maxRecDepth 100000
set_option maxHeartbeats 2000000
namespace K83
open PySem PySem.Spec PyProof.Rows L2
/-! ## the law's end, where nothing is being shown -/
theorem law_callG {P : Program} {w : World} {K : PySem.W.Frag} {mg mb : Str → Option Value} {k : Nat} {fa a : Addr} {fd : FuncData} {x : Str} {sp : Sp} {t1 : Shared} {us : List Value} {ns : List Int} (inK : K.In t1.heap) (nsM : t1.heap.Ns mainGlobals mg) (nsB : t1.heap.Ns builtinsNs mb) (nsV : ∀ x : Str, x ≠ "__name__" → mb x = bootBuiltins x)
    (nol : t1.heap.NoLimit) (gen0 : t1.gens = #[]) (scr : t1.heap.get? a = some { cls := .type "list", data := .seq us.toArray }) (hints0 : IntsAre us ns) (len : ns.length ≤ sizeLine) (room : Room k callerA) (F : ∀ base : Heap, K.In base → base.Ns mainGlobals mg → FnGOk ⟨P, w, K, mg, base⟩ k fa fd [x] sp)
    (bind : ∀ (s : Shared) (u : Value), BindsTo s fd ⟨[u], []⟩ [(x, u)]) (hsp : ∀ H : Hp, Only H → SqL K H a (ns.map V.int) → sp [.ref a] H (fun v _ => v = .bl true) fun _ _ _ => False) :
    codeAny (model P w) callerA (.call (.ref fa) ⟨[.ref a], []⟩) (fun r s' => r = .ok (.ret (.bool true)) ∧ OldK t1.heap s'.heap ∧ s'.os = t1.os ∧ AllBare s'.gens) t1 := by
  have iv := vals_ints hints0
  have il := hints0.length
  -- over a heap of which at most the script is told
  have main : ∀ H : Hp, Only H → SqL K H a (ns.map V.int) → HOk P w H t1.heap → (∀ b, H b ≠ none → b = a) → (H a ≠ none → K.lookup a = none) → codeAny (model P w) callerA (.call (.ref fa) ⟨[.ref a], []⟩) (fun r s' => r = .ok (.ret (.bool true)) ∧ OldK t1.heap s'.heap ∧ s'.os = t1.os ∧ AllBare s'.gens) t1 := by
    intro H only scrH ok isA notK
    have low : ∀ {b : Addr} {o : Obj}, t1.heap.get? b = some o → H b = none → (hidT t1.heap H).get? b = some o := fun z n => hidT_get z n
    have aOf : ∀ {b : Addr} {u : HO}, H b = some u → b = a := fun {b u} z => isA b (by rw [z]; exact fun y => nomatch y)
    have notD : ∀ {b : Addr} {o : Obj} {es : Array DictEntry} {n : Nat}, t1.heap.get? b = some o → o.data = .dict es n → H b = none := by
      intro b o es n z d
      cases hb : H b with
      | none => rfl
      | some u =>
        have ea := aOf hb
        subst ea
        rw [scr] at z
        cases z
        cases (show Data.seq us.toArray _ = Data.dict es n from d)
    have nsOf : ∀ {b : Addr} {m : Str → Option Value}, t1.heap.Ns b m → (hidT t1.heap H).Ns b m := by
      rintro b m ⟨o, es, n, z, d, r⟩
      exact ⟨o, es, n, low z (notD z d), d, r⟩
    have inB : K.In (hidT t1.heap H) := by
      intro b o z
      refine low (inK b o z) ?_
      cases hb : H b with
      | none => rfl
      | some u =>
        have ea := aOf hb
        subst ea
        rw [notK (by rw [hb]; exact fun y => nomatch y)] at z
        cases z
    have md : Mod K mg (hidT t1.heap H) := by
      obtain ⟨mc, c1, c2⟩ := nol
      exact ⟨inB, nsOf nsM, ⟨mb, nsOf nsB, nsV⟩, ⟨mc, nsOf c1, c2⟩⟩
    have ev : Env0 P w K mg (hidT t1.heap H) callerA [] t1 H := by
      refine ⟨rfl, md, fun b o z => of_hidT z, Nat.le_of_eq (hidT_size _ _), trivial, fun b hb => ?_, ok, .of_eq gen0⟩
      cases (show b ∈ ([] : List Addr) from hb)
    have go := (F _ inB (nsOf nsM)).run callerA [] t1 H ⟨[.ref a], []⟩ [.ref a] [.ref a] _ _ rfl room ev (bind t1 (.ref a)) (.cons rfl .nil) (hsp H only scrH)
    refine codeAny_mono go fun r s2 hq => ?_
    cases r with
    | error e =>
      have z : CX0 [] H t1 (fun _ _ _ => False) e s2 := hq
      exact z.elim
    | ok fl =>
      cases fl with
      | next => exact hq.elim
      | brk => exact hq.elim
      | cont => exact hq.elim
      | ret u =>
        obtain ⟨v, H2, os, bare, un, ok2, rv, q⟩ := hq
        have ev2 : v = .bl true := q
        subst ev2
        have eu : u = Value.bool true := rv
        subst eu
        refine ⟨rfl, OldK.of_keep fun b o z => ?_, os, bare⟩
        cases hb : H b with
        | none => exact un.keep b o z hb (fun y => by cases (show b ∈ ([] : List Addr) from y)) (by simp)
        | some u =>
          rcases only b with y | ⟨ob, xs, y⟩
          · rw [hb] at y
            cases y
          · have y2 := un.frzs b ob _ y
            obtain ⟨g1, _⟩ := ok b _ y
            obtain ⟨g2, _⟩ := ok2 b _ y2
            rw [z] at g1
            cases g1
            exact g2
  cases hk : K.lookup a with
  | some o =>
    have z := inK a o hk
    rw [scr] at z
    cases z
    refine main (fun _ => none) (fun _ => .inl rfl) (.inr ⟨_, us.toArray, _, hk, rfl, rfl, rfl, ?_, ?_⟩) (fun b u y => ?_) (fun b y => absurd rfl y) fun y => absurd rfl y
    · rw [List.size_toArray, il]
      exact len
    · simpa using iv
    · cases (show (none : Option HO) = some u from y)
  | none =>
    let o1 : Obj := { cls := .type "list", data := .seq us.toArray }
    refine main (fun b => if b = a then some (.frz o1 (.lst (ns.map V.int))) else none) (fun b => ?_) (.inl (.inr ⟨o1, if_pos rfl⟩)) (fun b u y => ?_) (fun b y => ?_) fun _ => hk
    · by_cases hb : b = a
      · exact .inr ⟨_, _, if_pos hb⟩
      · exact .inl (if_neg hb)
    · by_cases hb : b = a
      · have y' := (if_pos hb).symm.trans y
        cases y'
        subst hb
        refine ⟨scr, ?_, us, _, iv, scr⟩
        rw [List.length_map]
        exact len
      · have y' := (if_neg hb).symm.trans y
        cases y'
    · by_cases hb : b = a
      · exact hb
      · exact absurd (if_neg hb) y
/-- a law that shows things -/
theorem walk_ofG {l : PySem.W.OpenLaw} {n k : Nat} {q : Program} {loose : List Str} {XP : (Str → Option Value) → Heap → Prop} {YP : World → Heap → Prop} {d : DefRec} {x : Str} (hn : l.most = some n) (hn2 : n ≤ sizeLine) (hdf : d.params.defaults = []) (room : Room k callerA)
    (F : ∀ (w : World) (mg : Str → Option Value) (fa : Addr) (h : Heap), YP w h → h.Ns mainGlobals mg → mg d.name = some (.ref fa) → ∃ (K : PySem.W.Frag) (fd : FuncData) (sp : Sp), K.In h ∧ (∀ (s : Shared) (u : Value), BindsTo s fd ⟨[u], []⟩ [(x, u)]) ∧
        (∀ (H : Hp) (a : Addr) (ns : List Int), ns.length ≤ n → Only H → SqL K H a (ns.map V.int) → sp [.ref a] H (fun v _ => v = .bl true) fun _ _ _ => False) ∧ ∀ base : Heap, K.In base → base.Ns mainGlobals mg → FnGOk ⟨l.prog, w, K, mg, base⟩ k fa fd [x] sp) :
    PySem.W.WalkO q loose XP YP l.row.toRowW d [] (fun f vs => PySem.call f vs) := by
  refine Att.attach_call hn hdf ?_
  intro w t0 t1 mg mb fa o pm cd doc a us ns G Y ho hd hcd hmg hobj hints hlen hg
  obtain ⟨K, fd, sp, inK, hb, hsp, hF⟩ := F w mg fa _ Y G.T.g hmg
  exact law_callG inK G.T.g G.T.b G.T.builtins G.T.nolimit hg hobj hints (Nat.le_trans hlen hn2) room hF hb fun H h1 h2 => hsp H a ns hlen h1 h2
end K83
set_option maxRecDepth 100000
set_option maxHeartbeats 0
namespace K83.Hd
open PySem PySem.Spec PyProof.Rows L2
def d_is_word : He.DefD := ⟨("is_word", none), "is_word", "is_word", defArgs (topS 10), defBody (topS 10), defScope (topS 10), [], []⟩
def d_is_at_least : He.DefD := ⟨("is_at_least", none), "is_at_least", "is_at_least", defArgs (topS 11), defBody (topS 11), defScope (topS 11), [], []⟩
def d_is_bounded : He.DefD := ⟨("is_bounded", none), "is_bounded", "is_bounded", defArgs (topS 12), defBody (topS 12), defScope (topS 12), [], []⟩
def d_is_pair : He.DefD := ⟨("is_pair", none), "is_pair", "is_pair", defArgs (topS 13), defBody (topS 13), defScope (topS 13), [], []⟩
def d_places_of : He.DefD := ⟨("places_of", none), "places_of", "places_of", defArgs (topS 14), defBody (topS 14), defScope (topS 14), [], []⟩
def d_worth_of : He.DefD := ⟨("worth_of", none), "worth_of", "worth_of", defArgs (topS 15), defBody (topS 15), defScope (topS 15), [], []⟩
def d_is_number : He.DefD := ⟨("is_number", none), "is_number", "is_number", defArgs (topS 20), defBody (topS 20), defScope (topS 20), [], []⟩
def d_is_series : He.DefD := ⟨("is_series", none), "is_series", "is_series", defArgs (topS 21), defBody (topS 21), defScope (topS 21), [], []⟩
def d_is_run : He.DefD := ⟨("is_run", none), "is_run", "is_run", defArgs (topS 22), defBody (topS 22), defScope (topS 22), [], []⟩
def d_goes_ahead : He.DefD := ⟨("goes_ahead", none), "goes_ahead", "goes_ahead", defArgs (topS 23), defBody (topS 23), defScope (topS 23), [], []⟩
def d_is_runs : He.DefD := ⟨("is_runs", none), "is_runs", "is_runs", defArgs (topS 24), defBody (topS 24), defScope (topS 24), [], []⟩
def d_many_in : He.DefD := ⟨("many_in", none), "many_in", "many_in", defArgs (topS 25), defBody (topS 25), defScope (topS 25), [], []⟩
def d_holds : He.DefD := ⟨("holds", none), "holds", "holds", defArgs (topS 26), defBody (topS 26), defScope (topS 26), [], []⟩
def d_place_of : He.DefD := ⟨("place_of", none), "place_of", "place_of", defArgs (topS 27), defBody (topS 27), defScope (topS 27), [], []⟩
def d_is_name : He.DefD := ⟨("is_name", none), "is_name", "is_name", defArgs (topS 33), defBody (topS 33), defScope (topS 33), [], []⟩
def d_are_named : He.DefD := ⟨("are_named", none), "are_named", "are_named", defArgs (topS 34), defBody (topS 34), defScope (topS 34), [], []⟩
def d_is_move : He.DefD := ⟨("is_move", none), "is_move", "is_move", defArgs (topS 35), defBody (topS 35), defScope (topS 35), [], []⟩
def d_is_bag : He.DefD := ⟨("is_bag", none), "is_bag", "is_bag", defArgs (topS 36), defBody (topS 36), defScope (topS 36), [], []⟩
def d_is_read : He.DefD := ⟨("is_read", none), "is_read", "is_read", defArgs (topS 37), defBody (topS 37), defScope (topS 37), [], []⟩
def d_is_count : He.DefD := ⟨("is_count", none), "is_count", "is_count", defArgs (topS 38), defBody (topS 38), defScope (topS 38), [], []⟩
def d_is_void : He.DefD := ⟨("is_void", none), "is_void", "is_void", defArgs (topS 39), defBody (topS 39), defScope (topS 39), [], []⟩
def d_is_page : He.DefD := ⟨("is_page", none), "is_page", "is_page", defArgs (topS 41), defBody (topS 41), defScope (topS 41), [], []⟩
def d_book_of : He.DefD := ⟨("book_of", none), "book_of", "book_of", defArgs (topS 43), defBody (topS 43), defScope (topS 43), [], []⟩
def d_voided : He.DefD := ⟨("voided", none), "voided", "voided", defArgs (topS 44), defBody (topS 44), defScope (topS 44), [], []⟩
def d_bags_in : He.DefD := ⟨("bags_in", none), "bags_in", "bags_in", defArgs (topS 45), defBody (topS 45), defScope (topS 45), [], []⟩
def d_counted : He.DefD := ⟨("counted", none), "counted", "counted", defArgs (topS 46), defBody (topS 46), defScope (topS 46), [], []⟩
def d_waiting : He.DefD := ⟨("waiting", none), "waiting", "waiting", defArgs (topS 47), defBody (topS 47), defScope (topS 47), [], []⟩
def d_until : He.DefD := ⟨("until", none), "until", "until", defArgs (topS 48), defBody (topS 48), defScope (topS 48), [], []⟩
def d_Ledger_init : He.DefD := ⟨("Ledger", some "__init__"), "__init__", "Ledger.__init__", defArgs (inClass (topS 50) 0), defBody (inClass (topS 50) 0), defScope (inClass (topS 50) 0), [], []⟩
def d_Ledger_tell : He.DefD := ⟨("Ledger", some "tell"), "tell", "Ledger.tell", defArgs (inClass (topS 50) 1), defBody (inClass (topS 50) 1), defScope (inClass (topS 50) 1), [], []⟩
def d_Ledger_back : He.DefD := ⟨("Ledger", some "back"), "back", "Ledger.back", defArgs (inClass (topS 50) 2), defBody (inClass (topS 50) 2), defScope (inClass (topS 50) 2), [], []⟩
def d_Ledger_book : He.DefD := ⟨("Ledger", some "book"), "book", "Ledger.book", defArgs (inClass (topS 50) 3), defBody (inClass (topS 50) 3), defScope (inClass (topS 50) 3), [], []⟩
def d_Ledger_then : He.DefD := ⟨("Ledger", some "then"), "then", "Ledger.then", defArgs (inClass (topS 50) 4), defBody (inClass (topS 50) 4), defScope (inClass (topS 50) 4), [], []⟩
def d_Ledger_told : He.DefD := ⟨("Ledger", some "told"), "told", "Ledger.told", defArgs (inClass (topS 50) 5), defBody (inClass (topS 50) 5), defScope (inClass (topS 50) 5), [], []⟩
def d_roads_taken : He.DefD := ⟨("roads_taken", none), "roads_taken", "roads_taken", defArgs (topS 52), defBody (topS 52), defScope (topS 52), [], []⟩
def d_sign_at : He.DefD := ⟨("sign_at", none), "sign_at", "sign_at", defArgs (topS 53), defBody (topS 53), defScope (topS 53), [], []⟩
def d_balance : He.DefD := ⟨("balance", none), "balance", "balance", defArgs (topS 54), defBody (topS 54), defScope (topS 54), [], []⟩
def d_counted_pages : He.DefD := ⟨("counted_pages", none), "counted_pages", "counted_pages", defArgs (topS 56), defBody (topS 56), defScope (topS 56), [], []⟩
def d_brings : He.DefD := ⟨("brings", none), "brings", "brings", defArgs (topS 57), defBody (topS 57), defScope (topS 57), [], []⟩
def d_offs : He.DefD := ⟨("offs", none), "offs", "offs", defArgs (topS 58), defBody (topS 58), defScope (topS 58), [], []⟩
def d_told_moves : He.DefD := ⟨("told_moves", none), "told_moves", "told_moves", defArgs (topS 60), defBody (topS 60), defScope (topS 60), [], []⟩
def d_steps : He.DefD := ⟨("steps", none), "steps", "steps", defArgs (topS 61), defBody (topS 61), defScope (topS 61), [], []⟩
def d_told_place : He.DefD := ⟨("told_place", none), "told_place", "told_place", defArgs (topS 62), defBody (topS 62), defScope (topS 62), [], []⟩
def d_law_feed : He.DefD := ⟨("_law_feed", none), "_law_feed", "_law_feed", defArgs (topS 64), defBody (topS 64), defScope (topS 64), [], []⟩
def d_law_draw : He.DefD := ⟨("_law_draw", none), "_law_draw", "_law_draw", defArgs (topS 65), defBody (topS 65), defScope (topS 65), [], []⟩
def d_law_same : He.DefD := ⟨("_law_same", none), "_law_same", "_law_same", defArgs (topS 66), defBody (topS 66), defScope (topS 66), [], []⟩
def d_law_words : He.DefD := ⟨("_law_words", none), "_law_words", "_law_words", defArgs (topS 67), defBody (topS 67), defScope (topS 67), [], []⟩
def d_law_office : He.DefD := ⟨("_law_office", none), "_law_office", "_law_office", defArgs (topS 68), defBody (topS 68), defScope (topS 68), [], []⟩
def d_law_runs_of : He.DefD := ⟨("_law_runs_of", none), "_law_runs_of", "_law_runs_of", defArgs (topS 69), defBody (topS 69), defScope (topS 69), [], []⟩
def d_law_runs : He.DefD := ⟨("_law_runs", none), "_law_runs", "_law_runs", defArgs (topS 70), defBody (topS 70), defScope (topS 70), [], []⟩
def d_law_name : He.DefD := ⟨("_law_name", none), "_law_name", "_law_name", defArgs (topS 71), defBody (topS 71), defScope (topS 71), [], []⟩
def d_law_deed : He.DefD := ⟨("_law_deed", none), "_law_deed", "_law_deed", defArgs (topS 72), defBody (topS 72), defScope (topS 72), [], []⟩
def d_law_book : He.DefD := ⟨("_law_book", none), "_law_book", "_law_book", defArgs (topS 73), defBody (topS 73), defScope (topS 73), [], []⟩
def d_law_seen : He.DefD := ⟨("_law_seen", none), "_law_seen", "_law_seen", defArgs (topS 74), defBody (topS 74), defScope (topS 74), [], []⟩
def d_law_stirred : He.DefD := ⟨("_law_stirred", none), "_law_stirred", "_law_stirred", defArgs (topS 75), defBody (topS 75), defScope (topS 75), [], []⟩
def d_law : He.DefD := ⟨("law", none), "law", "law", defArgs (topS 76), defBody (topS 76), defScope (topS 76), [], []⟩
def fn : List He.DefD := [d_is_word, d_is_at_least, d_is_bounded, d_is_pair, d_places_of, d_worth_of, d_is_number, d_is_series, d_is_run, d_goes_ahead, d_is_runs, d_many_in, d_holds, d_place_of, d_is_name, d_are_named, d_is_move, d_is_bag, d_is_read, d_is_count, d_is_void, d_is_page, d_book_of, d_voided, d_bags_in, d_counted, d_waiting, d_until, d_Ledger_init, d_Ledger_tell, d_Ledger_back, d_Ledger_book, d_Ledger_then, d_Ledger_told, d_roads_taken, d_sign_at, d_balance, d_counted_pages, d_brings, d_offs, d_told_moves, d_steps, d_told_place, d_law_feed, d_law_draw, d_law_same, d_law_words, d_law_office, d_law_runs_of, d_law_runs, d_law_name, d_law_deed, d_law_book, d_law_seen, d_law_stirred, d_law]
def fa0 : List He.Fa := [.glo "is_word", .glo "is_at_least", .glo "is_bounded", .glo "is_pair", .glo "places_of", .glo "worth_of", .glo "is_number", .glo "is_series", .glo "is_run", .glo "goes_ahead", .glo "is_runs", .glo "many_in", .glo "holds", .glo "place_of", .glo "is_name", .glo "are_named", .glo "is_move", .glo "is_bag", .glo "is_read", .glo "is_count"]
def fa1 : List He.Fa := [.glo "is_void", .glo "is_page", .glo "book_of", .glo "voided", .glo "bags_in", .glo "counted", .glo "waiting", .glo "until", .glo "roads_taken", .glo "sign_at", .glo "balance", .glo "counted_pages", .glo "brings", .glo "offs", .glo "told_moves", .glo "steps", .glo "told_place", .glo "_law_feed", .glo "_law_draw", .glo "_law_same"]
def fa2 : List He.Fa := [.glo "_law_words", .glo "_law_office", .glo "_law_runs_of", .glo "_law_runs", .glo "_law_name", .glo "_law_deed", .glo "_law_book", .glo "_law_seen", .glo "_law_stirred", .glo "law", .glo "Ledger", .glo "DEEDS", .free "len", .free "isinstance", .free "all", .free "zip", .free "sum", .free "sorted", .free "tuple", .free "dict"]
def fa3 : List He.Fa := [.free "set", .free "range", .free "list", .free "int", .free "repr", .free "bool", .free "str", .str "SMALL" "abcdefghijklmnopqrstuvwxyz", .int "MOST_LETTERS_offices" 8, .str "NOWHERE" "none", .str "LETTERS" "abcdefghijklmnopqrstuvwxyz", .int "MOST_LETTERS_runs" 8, .int "MOST_NUMBER_runs" 999999999, .int "MOST_DAY" 99999, .int "MOST_NUMBER_pages" 999, .int "MOST_IN_BAG" 1000000000, .int "MOST_COUNTED" 1000000000000, .cls "Ledger", .noat "Ledger" "house", .noat "Ledger" "tellings"]
def fa4 : List He.Fa := [.meth "Ledger" "tell", .meth "Ledger" "back", .meth "Ledger" "book", .meth "Ledger" "then", .meth "Ledger" "told", .mkr "Ledger"]
def fa : List He.Fa := fa0 ++ (fa1 ++ (fa2 ++ (fa3 ++ (fa4))))
def tabs : List He.Tab := [(fun K => He.ga K "DEEDS", ["move", "bag", "read", "count", "void"])]
def deedsV : List (Str × He.Dv) := [("move", .glo "is_move"), ("bag", .glo "is_bag"), ("read", .glo "is_read"), ("count", .glo "is_count"), ("void", .glo "is_void")]
def exB (K : PySem.W.Frag) : Bool := He.valsB K (He.ga K "DEEDS") deedsV
def loose0 : List PySem.Str := ["_wall", "NoteError", "NoNumber", "NoPage", "NoBack", "SMALL", "MOST_LETTERS_offices", "NOWHERE", "is_word", "is_at_least", "is_bounded", "is_pair", "places_of", "worth_of", "LETTERS", "MOST_LETTERS_runs", "MOST_NUMBER_runs", "is_number", "is_series", "is_run", "goes_ahead", "is_runs", "many_in", "holds", "place_of", "MOST_DAY", "MOST_NUMBER_pages", "MOST_IN_BAG", "MOST_COUNTED", "is_name"]
def loose1 : List PySem.Str := ["are_named", "is_move", "is_bag", "is_read", "is_count", "is_void", "DEEDS", "is_page", "book_of", "voided", "bags_in", "counted", "waiting", "until", "Ledger", "roads_taken", "sign_at", "balance", "counted_pages", "brings", "offs", "told_moves", "steps", "told_place", "_law_feed", "_law_draw", "_law_same", "_law_words", "_law_office", "_law_runs_of"]
def loose2 : List PySem.Str := ["_law_runs", "_law_name", "_law_deed", "_law_book", "_law_seen", "_law_stirred"]
def loose : List PySem.Str := loose0 ++ (loose1 ++ (loose2))
abbrev R : PySem.W.OpenRow := PySem.W.OpenLaw.row PySem.Challenge.rw_pressnotes_k83_whole_elder_views
abbrev hk : PySem.W.Hook := He.hookX 5 fa fn tabs [] exB
def ob (s : PySem.W.SharedT) : He.AlX := He.obsX 5 fa fn tabs [] exB (HandSHeadRun.getT s)
theorem ob_eq (s : PySem.W.SharedT) : ob s = hk.obs s.abs := He.obsX_eq (HandSHeadRun.getT_eq s)
theorem runF (w : World) : HandSHeadRun.RunEq R (PySem.W.view R.prog [76]) hk ob 20000 loose (w.withFollow "special-get-raises" false) := by
  intro os
  kernel_rfl
theorem runT (w : World) : HandSHeadRun.RunEq R (PySem.W.view R.prog [76]) hk ob 20000 loose (w.withFollow "special-get-raises" true) := by
  intro os
  kernel_rfl
theorem run (w : World) : HandSHeadRun.RunEq R (PySem.W.view R.prog [76]) hk ob 20000 loose w :=
  PySem.W.byRow2 "special-get-raises" (P := fun w => HandSHeadRun.RunEq R (PySem.W.view R.prog [76]) hk ob 20000 loose w) runF runT w
end K83.Hd
set_option maxRecDepth 100000
set_option maxHeartbeats 2000000
namespace K83.Hd
open PySem PySem.Spec PyProof.Rows L2
/-! ## the head's facts -/
section
variable {P : Program} {w : World} {K : PySem.W.Frag} {h base : Heap} {mg : Str → Option Value}
theorem def_at (X : K.In h) (N : h.Ns mainGlobals mg) (c : He.SaysD fa fn K) (i j : Nat) {x : Str} {st : Stmt} {ps : List Str} (hd : fn[i]? = some ⟨(x, none), x, x, defArgs st, defBody st, defScope st, [], []⟩) (hf : fa[j]? = some (.glo x))
    (hb : ∀ (kV doc pm : Value) (an : Option Addr) (cdv ct : Value) (us : List Value), us.length = ps.length → bindArgs (PySem.W.fnOf x x (defArgs st) (defBody st) (defScope st) .none kV doc pm an cdv ct) ⟨us, []⟩ = pure (ps.zip us)) : DefAt ⟨P, w, K, mg, base⟩ x st ps := by
  obtain ⟨fd, F⟩ := c.def_ i hd
  exact ⟨_, fd, F, He.glo_ok X N (c.fact j hf), F.bindsN hb⟩
theorem meth_at (c : He.SaysD fa fn K) (i j : Nat) {m qual : Str} {st : Stmt} {ps : List Str} (hd : fn[i]? = some ⟨("Ledger", some m), m, qual, defArgs st, defBody st, defScope st, [], []⟩) (hf : fa[j]? = some (.meth "Ledger" m))
    (hb : ∀ (kV doc pm : Value) (an : Option Addr) (cdv ct : Value) (us : List Value), us.length = ps.length → bindArgs (PySem.W.fnOf m qual (defArgs st) (defBody st) (defScope st) .none kV doc pm an cdv ct) ⟨us, []⟩ = pure (ps.zip us)) : MethAt ⟨P, w, K, mg, base⟩ (He.ga K "Ledger") m qual st ps := by
  obtain ⟨fd, F⟩ := c.def_ i hd
  exact ⟨_, fd, He.meth_ok (c.fact j hf), F, F.bindsN hb⟩
theorem tbl_at (X : K.In h) (N : h.Ns mainGlobals mg) (c : He.SaysX fa fn tabs [] exB w h K) : Tbl ⟨P, w, K, mg, base⟩ "DEEDS" [("move", "is_move"), ("bag", "is_bag"), ("read", "is_read"), ("count", "is_count"), ("void", "is_void")] := by
  have vals : He.valsB K (He.ga K "DEEDS") deedsV = true := c.more
  refine ⟨He.ga K "DEEDS", He.glo_ok X N (c.t.d.fact 51 rfl), c.t.tab 0 rfl, fun q hq => ?_⟩
  simp only [List.mem_cons, List.not_mem_nil, or_false] at hq
  rcases hq with rfl | rfl | rfl | rfl | rfl
  · obtain ⟨u, h1, h2⟩ := He.valsB_ok vals (q := ("move", .glo "is_move")) (by simp [deedsV])
    exact ⟨u, _, h1, h2, He.glo_ok X N (c.t.d.fact 16 rfl)⟩
  · obtain ⟨u, h1, h2⟩ := He.valsB_ok vals (q := ("bag", .glo "is_bag")) (by simp [deedsV])
    exact ⟨u, _, h1, h2, He.glo_ok X N (c.t.d.fact 17 rfl)⟩
  · obtain ⟨u, h1, h2⟩ := He.valsB_ok vals (q := ("read", .glo "is_read")) (by simp [deedsV])
    exact ⟨u, _, h1, h2, He.glo_ok X N (c.t.d.fact 18 rfl)⟩
  · obtain ⟨u, h1, h2⟩ := He.valsB_ok vals (q := ("count", .glo "is_count")) (by simp [deedsV])
    exact ⟨u, _, h1, h2, He.glo_ok X N (c.t.d.fact 19 rfl)⟩
  · obtain ⟨u, h1, h2⟩ := He.valsB_ok vals (q := ("void", .glo "is_void")) (by simp [deedsV])
    exact ⟨u, _, h1, h2, He.glo_ok X N (c.t.d.fact 20 rfl)⟩
theorem led_at (X : K.In h) (N : h.Ns mainGlobals mg) (c : He.SaysD fa fn K) : LedAt ⟨P, w, K, mg, base⟩ (He.ga K "Ledger") where
  gl := He.glo_ok X N (c.fact 50 rfl)
  cls := He.cls_ok (c.fact 77 rfl)
  house := He.noat_ok (c.fact 78 rfl)
  tellings := He.noat_ok (c.fact 79 rfl)
  made := by
    obtain ⟨fd, F⟩ := c.def_ 28 (d := d_Ledger_init) rfl
    exact ⟨_, fd, He.mkr_ok (c.fact 85 rfl), F, F.bindsN (fun _ _ _ _ _ _ us hl => match us, hl with | [_, _], _ => rfl)⟩
  m_tell := meth_at c 29 80 rfl rfl (fun _ _ _ _ _ _ us hl => match us, hl with | [_, _], _ => rfl)
  m_back := meth_at c 30 81 rfl rfl (fun _ _ _ _ _ _ us hl => match us, hl with | [_], _ => rfl)
  m_book := meth_at c 31 82 rfl rfl (fun _ _ _ _ _ _ us hl => match us, hl with | [_], _ => rfl)
  m_then := meth_at c 32 83 rfl rfl (fun _ _ _ _ _ _ us hl => match us, hl with | [_, _], _ => rfl)
  m_told := meth_at c 33 84 rfl rfl (fun _ _ _ _ _ _ us hl => match us, hl with | [_], _ => rfl)
theorem gf_at (X : K.In h) (N : h.Ns mainGlobals mg) (c : He.SaysD fa fn K) : GF ⟨P, w, K, mg, base⟩ where
  c_SMALL := He.str_ok X N (c.fact 67 rfl)
  c_LETTERS := He.str_ok X N (c.fact 70 rfl)
  c_NOWHERE := He.str_ok X N (c.fact 69 rfl)
  c_MOST_LETTERS_offices := He.int_ok X N (c.fact 68 rfl)
  c_MOST_LETTERS_runs := He.int_ok X N (c.fact 71 rfl)
  c_MOST_NUMBER_runs := He.int_ok X N (c.fact 72 rfl)
  c_MOST_DAY := He.int_ok X N (c.fact 73 rfl)
  c_MOST_NUMBER_pages := He.int_ok X N (c.fact 74 rfl)
  c_MOST_IN_BAG := He.int_ok X N (c.fact 75 rfl)
  c_MOST_COUNTED := He.int_ok X N (c.fact 76 rfl)
  b_len := He.free_ok X N (c.fact 52 rfl)
  b_isinstance := He.free_ok X N (c.fact 53 rfl)
  b_all := He.free_ok X N (c.fact 54 rfl)
  b_zip := He.free_ok X N (c.fact 55 rfl)
  b_sum := He.free_ok X N (c.fact 56 rfl)
  b_sorted := He.free_ok X N (c.fact 57 rfl)
  b_tuple := He.free_ok X N (c.fact 58 rfl)
  b_dict := He.free_ok X N (c.fact 59 rfl)
  b_set := He.free_ok X N (c.fact 60 rfl)
  b_range := He.free_ok X N (c.fact 61 rfl)
  b_list := He.free_ok X N (c.fact 62 rfl)
  b_int := He.free_ok X N (c.fact 63 rfl)
  b_repr := He.free_ok X N (c.fact 64 rfl)
  b_bool := He.free_ok X N (c.fact 65 rfl)
  b_str := He.free_ok X N (c.fact 66 rfl)
  d_is_word := def_at X N c 0 0 rfl rfl (fun _ _ _ _ _ _ us hl => match us, hl with | [_], _ => rfl)
  d_is_at_least := def_at X N c 1 1 rfl rfl (fun _ _ _ _ _ _ us hl => match us, hl with | [_, _], _ => rfl)
  d_is_bounded := def_at X N c 2 2 rfl rfl (fun _ _ _ _ _ _ us hl => match us, hl with | [_, _, _], _ => rfl)
  d_is_pair := def_at X N c 3 3 rfl rfl (fun _ _ _ _ _ _ us hl => match us, hl with | [_], _ => rfl)
  d_places_of := def_at X N c 4 4 rfl rfl (fun _ _ _ _ _ _ us hl => match us, hl with | [_], _ => rfl)
  d_worth_of := def_at X N c 5 5 rfl rfl (fun _ _ _ _ _ _ us hl => match us, hl with | [_, _], _ => rfl)
  d_is_number := def_at X N c 6 6 rfl rfl (fun _ _ _ _ _ _ us hl => match us, hl with | [_, _, _], _ => rfl)
  d_is_series := def_at X N c 7 7 rfl rfl (fun _ _ _ _ _ _ us hl => match us, hl with | [_], _ => rfl)
  d_is_run := def_at X N c 8 8 rfl rfl (fun _ _ _ _ _ _ us hl => match us, hl with | [_], _ => rfl)
  d_goes_ahead := def_at X N c 9 9 rfl rfl (fun _ _ _ _ _ _ us hl => match us, hl with | [_, _], _ => rfl)
  d_is_runs := def_at X N c 10 10 rfl rfl (fun _ _ _ _ _ _ us hl => match us, hl with | [_], _ => rfl)
  d_many_in := def_at X N c 11 11 rfl rfl (fun _ _ _ _ _ _ us hl => match us, hl with | [_], _ => rfl)
  d_holds := def_at X N c 12 12 rfl rfl (fun _ _ _ _ _ _ us hl => match us, hl with | [_, _], _ => rfl)
  d_place_of := def_at X N c 13 13 rfl rfl (fun _ _ _ _ _ _ us hl => match us, hl with | [_, _], _ => rfl)
  d_is_name := def_at X N c 14 14 rfl rfl (fun _ _ _ _ _ _ us hl => match us, hl with | [_], _ => rfl)
  d_are_named := def_at X N c 15 15 rfl rfl (fun _ _ _ _ _ _ us hl => match us, hl with | [_, _], _ => rfl)
  d_is_move := def_at X N c 16 16 rfl rfl (fun _ _ _ _ _ _ us hl => match us, hl with | [_, _], _ => rfl)
  d_is_bag := def_at X N c 17 17 rfl rfl (fun _ _ _ _ _ _ us hl => match us, hl with | [_, _], _ => rfl)
  d_is_read := def_at X N c 18 18 rfl rfl (fun _ _ _ _ _ _ us hl => match us, hl with | [_, _], _ => rfl)
  d_is_count := def_at X N c 19 19 rfl rfl (fun _ _ _ _ _ _ us hl => match us, hl with | [_, _], _ => rfl)
  d_is_void := def_at X N c 20 20 rfl rfl (fun _ _ _ _ _ _ us hl => match us, hl with | [_, _], _ => rfl)
  d_is_page := def_at X N c 21 21 rfl rfl (fun _ _ _ _ _ _ us hl => match us, hl with | [_, _], _ => rfl)
  d_book_of := def_at X N c 22 22 rfl rfl (fun _ _ _ _ _ _ us hl => match us, hl with | [_], _ => rfl)
  d_voided := def_at X N c 23 23 rfl rfl (fun _ _ _ _ _ _ us hl => match us, hl with | [_], _ => rfl)
  d_bags_in := def_at X N c 24 24 rfl rfl (fun _ _ _ _ _ _ us hl => match us, hl with | [_], _ => rfl)
  d_counted := def_at X N c 25 25 rfl rfl (fun _ _ _ _ _ _ us hl => match us, hl with | [_], _ => rfl)
  d_waiting := def_at X N c 26 26 rfl rfl (fun _ _ _ _ _ _ us hl => match us, hl with | [_], _ => rfl)
  d_until := def_at X N c 27 27 rfl rfl (fun _ _ _ _ _ _ us hl => match us, hl with | [_, _], _ => rfl)
  d_roads_taken := def_at X N c 34 28 rfl rfl (fun _ _ _ _ _ _ us hl => match us, hl with | [_], _ => rfl)
  d_sign_at := def_at X N c 35 29 rfl rfl (fun _ _ _ _ _ _ us hl => match us, hl with | [_, _], _ => rfl)
  d_balance := def_at X N c 36 30 rfl rfl (fun _ _ _ _ _ _ us hl => match us, hl with | [_, _], _ => rfl)
  d_counted_pages := def_at X N c 37 31 rfl rfl (fun _ _ _ _ _ _ us hl => match us, hl with | [_], _ => rfl)
  d_brings := def_at X N c 38 32 rfl rfl (fun _ _ _ _ _ _ us hl => match us, hl with | [_, _], _ => rfl)
  d_offs := def_at X N c 39 33 rfl rfl (fun _ _ _ _ _ _ us hl => match us, hl with | [_, _], _ => rfl)
  d_told_moves := def_at X N c 40 34 rfl rfl (fun _ _ _ _ _ _ us hl => match us, hl with | [_], _ => rfl)
  d_steps := def_at X N c 41 35 rfl rfl (fun _ _ _ _ _ _ us hl => match us, hl with | [_, _], _ => rfl)
  d_told_place := def_at X N c 42 36 rfl rfl (fun _ _ _ _ _ _ us hl => match us, hl with | [_, _], _ => rfl)
theorem gl_at (X : K.In h) (N : h.Ns mainGlobals mg) (c : He.SaysX fa fn tabs [] exB w h K) : GL ⟨P, w, K, mg, base⟩ where
  toGF := gf_at X N c.t.d
  t_DEEDS := tbl_at X N c
  led := ⟨_, led_at X N c.t.d⟩
  l_feed := def_at X N c.t.d 43 37 rfl rfl (fun _ _ _ _ _ _ us hl => match us, hl with | [_], _ => rfl)
  l_draw := def_at X N c.t.d 44 38 rfl rfl (fun _ _ _ _ _ _ us hl => match us, hl with | [_, _], _ => rfl)
  l_same := def_at X N c.t.d 45 39 rfl rfl (fun _ _ _ _ _ _ us hl => match us, hl with | [_, _], _ => rfl)
  l_words := def_at X N c.t.d 46 40 rfl rfl (fun _ _ _ _ _ _ us hl => match us, hl with | [_], _ => rfl)
  l_office := def_at X N c.t.d 47 41 rfl rfl (fun _ _ _ _ _ _ us hl => match us, hl with | [_], _ => rfl)
  l_runs_of := def_at X N c.t.d 48 42 rfl rfl (fun _ _ _ _ _ _ us hl => match us, hl with | [_], _ => rfl)
  l_runs := def_at X N c.t.d 49 43 rfl rfl (fun _ _ _ _ _ _ us hl => match us, hl with | [_, _], _ => rfl)
  l_name := def_at X N c.t.d 50 44 rfl rfl (fun _ _ _ _ _ _ us hl => match us, hl with | [_], _ => rfl)
  l_deed := def_at X N c.t.d 51 45 rfl rfl (fun _ _ _ _ _ _ us hl => match us, hl with | [_, _, _, _, _], _ => rfl)
  l_book := def_at X N c.t.d 52 46 rfl rfl (fun _ _ _ _ _ _ us hl => match us, hl with | [_, _, _], _ => rfl)
  l_seen := def_at X N c.t.d 53 47 rfl rfl (fun _ _ _ _ _ _ us hl => match us, hl with | [_, _, _, _], _ => rfl)
  l_stirred := def_at X N c.t.d 54 48 rfl rfl (fun _ _ _ _ _ _ us hl => match us, hl with | [_, _], _ => rfl)
theorem facts {fa0 : Addr} (X : K.In h) (N : h.Ns mainGlobals mg) (hfa : mg ("law" : Str) = some (.ref fa0)) (c : He.SaysX fa fn tabs [] exB w h K) :
    ∃ fd : FuncData, (∀ (s : Shared) (v : Value), BindsTo s fd ⟨[v], []⟩ [("_law_script", v)]) ∧ ∀ base : Heap, FnGOk ⟨P, w, K, mg, base⟩ 8 fa0 fd ["_law_script"] (spLaw K) := by
  obtain ⟨fd, F⟩ := c.t.d.def_ 55 (d := d_law) rfl
  have e := hfa.symm.trans (He.glo_ok X N (c.t.d.fact 49 (f := .glo "law") rfl))
  cases e
  have b := FunD.bindsA (ps := ["_law_script"]) F (fun _ _ _ _ _ _ us hl => match us, hl with | [_], _ => rfl)
  exact ⟨fd, fun s v => b s [v] rfl, fun base => F_law (g := ⟨P, w, K, mg, base⟩) (gl_at X N c) F⟩
end
end K83.Hd
set_option maxRecDepth 100000
set_option maxHeartbeats 0
open PySem PySem.W PySem.Calls PyProof.Rows
theorem PySem.Challenge.cw_pressnotes_k83_whole_elder_views_holds : PySem.Challenge.rw_pressnotes_k83_whole_elder_views.Holds := by
  w_on; o_law
  refine HandSHeadRun.head_any (r := OpenLaw.row PySem.Challenge.rw_pressnotes_k83_whole_elder_views) (q := view (OpenLaw.row PySem.Challenge.rw_pressnotes_k83_whole_elder_views).prog [76]) (H := K83.Hd.hk) (ob := K83.Hd.ob) (M := 20000) (loose := K83.Hd.loose) (d := HandSHeadRun.topDef (OpenLaw.row PySem.Challenge.rw_pressnotes_k83_whole_elder_views).prog 76) (kwd := []) K83.Hd.ob_eq
    (by kernel_rfl) (fun s => by kernel_rfl) K83.Hd.run (by kernel_rfl) (by kernel_rfl) (by kernel_rfl) (by rfl) (by first | assumption | decide +kernel) (by decide +kernel) ⟨rfl, rfl, rfl, rfl, rfl, by decide +kernel⟩ ?hw ?hc
  case hw => w_witness2
  case hc =>
    refine K83.walk_ofG (l := PySem.Challenge.rw_pressnotes_k83_whole_elder_views) (n := 63) (k := 8) (x := "_law_script") rfl (by decide) (by kernel_rfl) ⟨rfl, by decide, by decide⟩ ?F
    intro w mg fa h Y G hmg0
    obtain ⟨K, KX, c⟩ := Y
    have hmg : mg ("law" : PySem.Str) = some (.ref fa) := by
      have e : (HandSHeadRun.topDef (OpenLaw.row PySem.Challenge.rw_pressnotes_k83_whole_elder_views).prog 76).name = ("law" : PySem.Str) := by kernel_rfl
      rw [← e]
      exact hmg0
    obtain ⟨fd, hb, hF⟩ := K83.Hd.facts (P := (PySem.Challenge.rw_pressnotes_k83_whole_elder_views).prog) (w := w) KX G hmg c
    exact ⟨K, fd, K83.spLaw K, KX, hb, fun H a ns hl _ hS => ⟨a, ns, rfl, hS, hl, fun _ => rfl⟩, fun base _ _ => hF base⟩
